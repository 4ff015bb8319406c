import PyProof.Rows.All
import HandS.ForMost
import HandS.Exc
import HandS.ExcOwn
import HandS.WordsExc
import HandS.Defaults
import HandS.Wide
import KE.KDictKeyed
import HandS.Iter
import HandS.WideBits
import HandS.TupAny
import HandS.TupMul
import HandS.Style
import HandS.Text
import HandS.More
import HandS.IsInst
import HandS.Deep
import PyProof.Rows.TupTab
import HandS.Zip
import HandS.Walk
import PyProof.Draws
import KE.KDictWalk
import HandS.Star
import HandS.HeadHook1
import HandS.ExcIs
import PyProof.ExcBaseAll.ValueError
import KE.KDictDisplayH
import HandS.Sort
import HandS.SortRule
import HandS.SortInts
import HandS.DictComp
import HandS.Head0
import HandS.Head1
import HandS.Head2
import HandS.HeadEnd
import HandS.HeadHook2
import PyProof.P3Eq
import PySem.Challenge.RW_waykinds_k32_refused_joining
set_option Elab.async false
set_option linter.all false
set_option maxRecDepth 100000
set_option maxRecDepth 100000
/-! Wk1: pure data, a small store, own syntax without positions, and what it yields. -/
namespace Wk
open PySem

/-- data as trees. lst, dic: never changed any more; loc: a thing of the store; scr: the script; exc: an exception of the text's own class -/
inductive D where
  | non | bl (b : Bool) | int (i : Int) | str (x : Str)
  | tup (xs : List D) | lst (xs : List D) | dic (ks vs : List D)
  | loc (n : Nat) | scr (ns : List Int) | exc (c : Str) (vs : List D)
deriving Inhabited

/-- what may change: a list (lock: it is walked), a dict -/
inductive Ob where
  | lst (lock : Bool) (xs : List D)
  | dic (lock : Bool) (ks vs : List D)
deriving Inhabited
abbrev Store := List Ob
abbrev Env := List (Option D)

mutual
def D.pure : D → Bool
  | .non | .bl _ | .int _ | .str _ | .scr _ => true
  | .tup xs => D.pures xs
  | .lst xs => D.pures xs
  | .dic ks vs => D.pures ks && D.pures vs
  | .loc _ => false
  | .exc _ vs => D.pures vs
def D.pures : List D → Bool
  | [] => true
  | x :: xs => D.pure x && D.pures xs
end
mutual
/-- the things of the store within, by what they hold -/
def D.sub (ρ : Nat → Option D) : D → Option D
  | .tup xs => (D.subs ρ xs).map .tup
  | .lst xs => (D.subs ρ xs).map .lst
  | .dic ks vs => (D.subs ρ ks).bind fun a => (D.subs ρ vs).map fun b => .dic a b
  | .loc n => ρ n
  | .exc c vs => (D.subs ρ vs).map (.exc c)
  | .non => some .non
  | .bl b => some (.bl b)
  | .int i => some (.int i)
  | .str x => some (.str x)
  | .scr ns => some (.scr ns)
def D.subs (ρ : Nat → Option D) : List D → Option (List D)
  | [] => some []
  | x :: xs => (D.sub ρ x).bind fun y => (D.subs ρ xs).map fun ys => y :: ys
end
def Ob.holds (f : List D → Option (List D)) : Ob → Option D
  | .lst false xs => (f xs).map .lst
  | .dic false ks vs => (f ks).bind fun a => (f vs).map fun b => .dic a b
  | _ => none
/-- what the n-th thing of the store holds, f deep; things below k stand -/
def deepAt (st : Store) (k : Nat) : Nat → Nat → Option D
  | 0, _ => none
  | f + 1, n => if n < k then none else match st[n]? with
    | some o => o.holds (D.subs (deepAt st k f))
    | none => none
def Ob.frz (st : Store) (k : Nat) : Ob → Option Ob
  | .lst l xs => (D.subs (deepAt st k st.length) xs).map (.lst l)
  | .dic l ks vs => (D.subs (deepAt st k st.length) ks).bind fun a => (D.subs (deepAt st k st.length) vs).map fun b => .dic l a b
def Ob.pure : Ob → Bool
  | .lst _ xs => D.pures xs
  | .dic _ ks vs => D.pures ks && D.pures vs

/-! ### yields -/
inductive Out (α : Type) where
  | ok (a : α) (st : Store)
  | ex (e : D) (st : Store)
def M (α : Type) := Store → Option (Out α)
@[reducible] def M.ret {α : Type} (a : α) : M α := fun st => some (.ok a st)
@[reducible] def M.bind {α β : Type} (m : M α) (f : α → M β) : M β := fun st => match m st with
  | none => none
  | some (.ok a st') => f a st'
  | some (.ex e st') => some (.ex e st')
def M.no {α : Type} : M α := fun _ => none
def M.of {α : Type} (o : Option α) : M α := fun st => match o with
  | some a => some (.ok a st)
  | none => none
/-- of what the store holds -/
def M.rd {α : Type} (f : Store → Option α) : M α := fun st => match f st with
  | some a => some (.ok a st)
  | none => none
def M.wr {α : Type} (f : Store → Option (α × Store)) : M α := fun st => match f st with
  | some (a, st') => some (.ok a st')
  | none => none
@[reducible] instance : Monad M where
  pure := M.ret
  bind := M.bind

/-! ### values -/
/-- a list's items -/
def lsOf (st : Store) : D → Option (List D)
  | .lst xs => some xs
  | .loc n => match st[n]? with
    | some (.lst _ xs) => some xs
    | _ => none
  | _ => none
/-- .. that is not walked -/
def luOf (st : Store) : D → Option (List D)
  | .lst xs => some xs
  | .loc n => match st[n]? with
    | some (.lst false xs) => some xs
    | _ => none
  | _ => none
/-- a list's, a tuple's -/
def sqOf (st : Store) : D → Option (List D)
  | .tup xs => some xs
  | d => lsOf st d
mutual
def D.toP : D → Option PyData
  | .non => some .none
  | .bl b => some (.bool b)
  | .int i => some (.int i)
  | .str x => some (.str x)
  | .tup xs => (D.toPs xs).map .tuple
  | .lst xs => (D.toPs xs).map .list
  | .dic _ _ | .loc _ | .scr _ | .exc _ _ => none
def D.toPs : List D → Option (List PyData)
  | [] => some []
  | x :: xs => (D.toP x).bind fun y => (D.toPs xs).map fun ys => y :: ys
end
/-! ### keys of a dict -/
mutual
def D.toN : D → Option NestedKey
  | .non => some .none
  | .bl b => some (.num (if b then 1 else 0))
  | .int i => some (.num i)
  | .str x => some (.text x)
  | .tup xs => (D.toNs xs).map .tup
  | .lst _ | .dic _ _ | .loc _ | .scr _ | .exc _ _ => none
def D.toNs : List D → Option (List NestedKey)
  | [] => some []
  | x :: xs => (D.toN x).bind fun y => (D.toNs xs).map fun ys => y :: ys
end
/-- a key: an int or a text, or a tuple -/
inductive DK where
  | a (k : L2.Key) | t (k : NestedKey)
deriving DecidableEq
def DK.fl : DK → Bool
  | .a _ => true
  | .t _ => false
def D.toDK : D → Option DK
  | .int i => some (.a (.inl i))
  | .str x => some (.a (.inr x))
  | .tup xs => (D.toNs xs).bind fun ks => if Nat.ble (NestedKey.tup ks).depth 8 then some (.t (.tup ks)) else none
  | _ => none
/-- the place of a key -/
def kIx : List D → DK → Option Nat
  | [], _ => none
  | d :: ds, k => if d.toDK = some k then some 0 else (kIx ds k).map (· + 1)
def dget (ks vs : List D) (k : DK) : Option D := (kIx ks k).bind fun i => vs[i]?
/-- keys of one sort -/
def flOk (ks : List D) (k : DK) : Bool := match ks with
  | [] => true
  | d :: _ => match d.toDK with
    | some q => q.fl == k.fl
    | none => false
/-- a dict's keys, values -/
def dcOf (st : Store) : D → Option (List D × List D)
  | .dic ks vs => some (ks, vs)
  | .loc n => match st[n]? with
    | some (.dic _ ks vs) => some (ks, vs)
    | _ => none
  | _ => none
/-- what stands at a key: none where that can't be asked -/
def dfind (st : Store) (x : D) (y : D) : Option (Option D) := (dcOf st x).bind fun p => y.toDK.bind fun k => if flOk p.1 k then some (dget p.1 p.2 k) else none
def dput (ks vs : List D) (y : D) (k : DK) (v : D) : List D × List D := match kIx ks k with
  | some i => (ks, vs.set i v)
  | none => (ks ++ [y], vs ++ [v])
def rsv (st : Store) (d : D) : D := match d with
  | .loc n => match st[n]? with
    | some (.lst _ xs) => .lst xs
    | _ => .loc n
  | d => d
def most : Nat := 150
def eqD (st : Store) (x y : D) : Option Bool :=
  match D.toP (rsv st x), D.toP (rsv st y) with
  | some p, some q => if p.canLay0 && q.canLay0 && Nat.ble (min p.depth q.depth) most then some (PyData.eqv p q) else none
  | _, _ => none
def isRef : PyData → Bool
  | .tuple _ | .list _ => true
  | _ => false
def showD (st : Store) (x : D) : Option Str :=
  match D.toP (rsv st x) with
  | some p => if !isRef p then none else if p.showable && Nat.ble p.depth most && Nat.ble p.shown.length sizeLine then some p.shown else none
  | none => none
def fit (n : Nat) : Bool := Nat.ble n sizeLine
def repS (a : Str) (n : Nat) : Str := ⟨(List.replicate n a.cps).foldl (· ++ ·) #[]⟩
def binD (o : Operator) (x y : D) (st : Store) : Option D :=
  match o, x, y with
  | .Add, .int i, .int j => some (.int (i + j))
  | .Sub, .int i, .int j => some (.int (i - j))
  | .Mult, .int i, .int j => if Nat.blt (i.natAbs.log2 + j.natAbs.log2) 1000000 then some (.int (i * j)) else none
  | .FloorDiv, .int i, .int j => if decide (0 < j) && Nat.blt j.natAbs.log2 9000 then some (.int (i / j)) else none
  | .Mod, .int i, .int j => if decide (0 < j) then some (.int (i % j)) else none
  | .Pow, .int i, .int j => if decide (0 ≤ j) && decide (j ≤ 1000000) && Nat.blt i.natAbs (2 ^ 64) then some (.int (i ^ j.toNat)) else none
  | .Add, .str a, .str b => if fit (a.length + b.length) then some (.str (a ++ b)) else none
  | .Add, .tup xs, .tup ys => if fit (xs.length + ys.length) then some (.tup (xs ++ ys)) else none
  | .Mult, .tup xs, .int k => if !xs.isEmpty && decide (2 ≤ k) && decide (k ≤ 1000) && Nat.ble xs.length 1000 then some (.tup (List.replicate k.toNat xs).flatten) else none
  | .Mult, .str a, .int k => if decide (2 ≤ k) && decide (k ≤ 1000) && Nat.ble a.length 1000 && Nat.ble 1 a.length && fit (repS a k.toNat).length then some (.str (repS a k.toNat)) else none
  | .Add, x, y => match luOf st x, luOf st y with
    | some xs, some ys => if fit (xs.length + ys.length) then some (.lst (xs ++ ys)) else none
    | _, _ => none
  | .Mult, x, .int k => match luOf st x with
    | some xs => if decide (0 ≤ k) && decide (k < 1000) && fit (xs.length * k.toNat) then some (.lst (List.replicate k.toNat xs).flatten) else none
    | none => none
  | _, _, _ => none
/-- ints within a tuple -/
def intsOf : List D → Option (List Int)
  | [] => some []
  | .int i :: r => (intsOf r).map (i :: ·)
  | _ :: _ => none
def ltD (x y : D) : Option Bool :=
  match x, y with
  | .int i, .int j => some (decide (i < j))
  | .str a, .str b => some (decide (a.cps.toList < b.cps.toList))
  | .tup xs, .tup ys => match intsOf xs, intsOf ys with
    | some a, some b => some (HT.lexLt a b)
    | _, _ => none
  | _, _ => none
/-- a list's or a tuple's -/
def memOf (st : Store) (y : D) : Option (List D) := match y with
  | .tup xs => some xs
  | y => lsOf st y
def inD (st : Store) (x y : D) : Option Bool :=
  match x, y with
  | .str a, .str b => if a.length == 1 then some (b.cps.toList.contains (a.cps.getD 0 0)) else none
  | x, y => match dcOf st y with
    | some _ => (dfind st y x).map Option.isSome
    | none => match x.toP, (memOf st y).bind D.toPs with
      | some p, some qs => if SeqAt.shaped p && SeqAt.shaped (.list qs) then some (qs.any fun z => PyData.eqv z p) else none
      | _, _ => none
def cmpD (o : CmpOp) (x y : D) (st : Store) : Option Bool :=
  match o with
  | .Eq => eqD st x y
  | .NotEq => (eqD st x y).map (!·)
  | .Lt => ltD x y
  | .Gt => match x, y with
    | .int i, .int j => some (decide (j < i))
    | _, _ => none
  | .LtE => match x, y with
    | .int i, .int j => some (decide (i ≤ j))
    | _, _ => none
  | .GtE => match x, y with
    | .int i, .int j => some (decide (j ≤ i))
    | _, _ => none
  | .Is => match x, y with
    | .bl a, .bl b => some (a == b)
    | .non, .non => some true
    | .bl _, .non | .int _, .non | .str _, .non | .tup _, .non | .lst _, .non | .loc _, .non | .exc _ _, .non => some false
    | _, _ => none
  | .IsNot => match x, y with
    | .bl a, .bl b => some (!(a == b))
    | .non, .non => some false
    | .bl _, .non | .int _, .non | .str _, .non | .tup _, .non | .lst _, .non | .loc _, .non | .exc _ _, .non => some true
    | _, _ => none
  | .In => inD st x y
  | .NotIn => (inD st x y).map (!·)
def ixD (st : Store) (x i : D) : Option D :=
  match x, i with
  | .scr ns, .int k => (L2.atI ns k).map .int
  | .dic ks vs, k => (dfind st (.dic ks vs) k).join
  | .loc n, k => match dcOf st (.loc n) with
    | some _ => (dfind st (.loc n) k).join
    | none => match k with
      | .int k => (sqOf st (.loc n)).bind fun xs => L2.atI xs k
      | _ => none
  | x, .int k => (sqOf st x).bind fun xs => L2.atI xs k
  | _, _ => none
def cutD (xs : List D) (lo hi : Option Int) : List D := (xs.drop (HT.sIx xs.length 0 lo)).take (HT.sIx xs.length xs.length hi - HT.sIx xs.length 0 lo)
def sliceD (st : Store) (x : D) (l h : Option Int) : Option D :=
  match x with
    | .tup xs => some (.tup (cutD xs l h))
    | .scr ns => some (.lst ((cutD (ns.map .int) l h)))
    | x => (lsOf st x).map fun xs => .lst (cutD xs l h)
def blsOf : List D → Option (List Bool)
  | [] => some []
  | .bl b :: r => (blsOf r).map (b :: ·)
  | _ :: _ => none
/-! ### sorting -/
def insB {α : Type} (lt : α → α → Bool) (x : α) : List α → List α
  | [] => [x]
  | y :: ys => if lt y x then y :: insB lt x ys else x :: y :: ys
def isort {α : Type} (lt : α → α → Bool) : List α → List α
  | [] => []
  | x :: xs => insB lt x (isort lt xs)
def ltI (i j : Int) : Bool := decide (i < j)
def ltPr (p q : Int × Int) : Bool := if p.1 = q.1 then decide (p.2 < q.2) else decide (p.1 < q.1)
def prD (p : Int × Int) : D := .tup [.int p.1, .int p.2]
def prOf (d : D) : Option (Int × Int) := match d with
  | .tup [.int i, .int j] => some (i, j)
  | _ => none
def prsOf : List D → Option (List (Int × Int))
  | [] => some []
  | d :: r => (prOf d).bind fun p => (prsOf r).map (p :: ·)
def sortedD (st : Store) (x : D) : Option D := match dcOf st x with
  | some p => if Nat.blt p.1.length 64 then (intsOf p.1).map fun ns => .lst ((isort ltI ns).map .int) else none
  | none => (lsOf st x).bind fun xs => match intsOf xs with
    | some ns => some (.lst ((isort ltI ns).map .int))
    | none => (prsOf xs).map fun ps => .lst ((isort ltPr ps).map prD)
/-- a built-in by its name -/
def bltD (f : Str) (vs : List D) (st : Store) : Option D :=
  if f == "len" then match vs with
    | [.str x] => if fit x.length then some (.int x.length) else none
    | [.scr ns] => some (.int ns.length)
    | [x] => match dcOf st x with
      | some p => some (.int p.1.length)
      | none => (sqOf st x).map fun xs => .int xs.length
    | _ => none
  else if f == "all" then match vs with
    | [x] => ((lsOf st x).bind blsOf).map fun bs => .bl (bs.all id)
    | _ => none
  else if f == "any" then match vs with
    | [x] => ((lsOf st x).bind blsOf).map fun bs => .bl (bs.any id)
    | _ => none
  else if f == "tuple" then match vs with
    | [x] => (sqOf st x).map .tup
    | _ => none
  else if f == "list" then match vs with
    | [x] => (sqOf st x).map .lst
    | _ => none
  else if f == "sum" then match vs with
    | [x] => ((lsOf st x).bind intsOf).map fun ns => .int ns.sum
    | _ => none
  else if f == "max" then match vs with
    | [.int i, .int j] => some (.int (if j > i then j else i))
    | _ => none
  else if f == "min" then match vs with
    | [.int i, .int j] => some (.int (if j < i then j else i))
    | _ => none
  else if f == "int" then match vs with
    | [.int i] => some (.int i)
    | _ => none
  else if f == "repr" then match vs with
    | [x] => (showD st x).map .str
    | _ => none
  else if f == "sorted" then match vs with
    | [x] => sortedD st x
    | _ => none
  else none
/-- what isinstance looks at -/
def tyOf (st : Store) : D → Option String
  | .non => some "NoneType"
  | .bl _ => some "bool"
  | .int _ => some "int"
  | .str _ => some "str"
  | .tup _ => some "tuple"
  | .lst _ => some "list"
  | .loc n => match st[n]? with
    | some (.lst _ _) => some "list"
    | _ => none
  | _ => none
def isTy (a b : String) : Bool := a == b || (a == "bool" && b == "int")
end Wk

set_option maxRecDepth 100000
/-! Wk2: the syntax and what it yields. -/
namespace Wk
open PySem

/-- what a loop walks -/
inductive IK where
  | val | range1 | range2 | enum | zip
deriving DecidableEq
mutual
inductive Tg where
  | nm (i : Nat)
  | tp (ts : Tgs)
inductive Tgs where
  | nil
  | cons (t : Tg) (r : Tgs)
end
mutual
inductive Ex where
  | cst (c : D)
  | var (i : Nat)
  | gst (x : Str)
  | bin (o : Operator) (a b : Ex)
  | neg (a : Ex)
  | cmp (o : CmpOp) (a b : Ex)
  | cmp2 (o o' : CmpOp) (a b c : Ex)
  | and (a b : Ex)
  | or (a b : Ex)
  | not (a : Ex)
  | ife (c a b : Ex)
  | tup (xs : Exs)
  | lst (al : Bool) (xs : Exs)
  | ix (a b : Ex)
  | sl (a lo hi : Ex)
  | call (kp : Bool) (f : Str) (xs : Exs)
  | blt (f : Str) (xs : Exs)
  | lsa (xs : Exs)
  | isi (a : Ex) (t : String)
  | met (m : Str) (a : Ex) (xs : Exs)
  | lc (al : Bool) (e : Ex) (tg : Tg) (k : IK) (xs : Exs) (hi : Bool) (c : Ex) (own : List (Str × Nat))
  | cat (a b : Ex)
  | dct (al : Bool) (xs : Exs)
  | rev (a : Ex)
  | isx (a : Ex) (c : Str) (yes no : List Str)
  | isl (a : Ex)
  | dc (al : Bool) (kx vx : Ex) (tg : Tg) (k : IK) (xs : Exs) (hi : Bool) (c : Ex) (own : List (Str × Nat))
  | lc2 (al : Bool) (e : Ex) (tg : Tg) (k : IK) (xs : Exs) (hi : Bool) (c : Ex) (tg1 : Tg) (k1 : IK) (xs1 : Exs) (hi1 : Bool) (c1 : Ex) (own : List (Str × Nat)) (vs1 : List Nat)
  | dc2 (al : Bool) (kx vx : Ex) (tg : Tg) (k : IK) (xs : Exs) (hi : Bool) (c : Ex) (tg1 : Tg) (k1 : IK) (xs1 : Exs) (hi1 : Bool) (c1 : Ex) (own : List (Str × Nat)) (vs1 : List Nat)
inductive Exs where
  | nil
  | cons (star : Bool) (e : Ex) (r : Exs)
end
mutual
inductive Sx where
  | set (i : Nat) (e : Ex)
  | unp (tg : Tg) (e : Ex)
  | aug (o : Operator) (i : Nat) (e : Ex)
  | six (a b e : Ex)
  | ex (e : Ex)
  | ret (e : Ex)
  | retN
  | iff (c : Ex) (a b : Sxs)
  | loop (tg : Tg) (k : IK) (xs : Exs) (body : Sxs)
  | raise (c m : Str)
  | whl (c : Ex) (body : Sxs)
  | try_ (b : Sxs) (c : Str) (yes : List Str) (i j : Nat)
  | brk
  | cnt
  | pass
inductive Sxs where
  | nil
  | cons (s : Sx) (r : Sxs)
end

mutual
def tgSet : Tg → D → Env → Option Env
  | .nm i, d, env => if i < env.length then some (env.set i (some d)) else none
  | .tp ts, .tup xs, env => tgsSet ts xs env
  | .tp _, _, _ => none
def tgsSet : Tgs → List D → Env → Option Env
  | .nil, [], env => some env
  | .cons t r, x :: xs, env => (tgSet t x env).bind fun e => tgsSet r xs e
  | _, _, _ => none
end
def wipeE (env : Env) : List Nat → Env
  | [] => env
  | v :: vs => (wipeE env vs).set v none

/-- a loop's items, and the list of the store that it walks -/
def itVal (vs : List D) (st : Store) : Option (List D × Option Nat) := match vs with
  | [.tup xs] => some (xs, none)
  | [.lst xs] => some (xs, none)
  | [.str x] => some (x.cps.toList.map fun c => .str ⟨#[c]⟩, none)
  | [.loc n] => match st[n]? with
    | some (.lst _ xs) => some (xs, some n)
    | some (.dic _ ks _) => some (ks, some n)
    | _ => none
  | _ => none
def itR1 (vs : List D) : Option (List D × Option Nat) := match vs with
  | [.int j] => if decide (-(2 ^ 62) ≤ j) && decide (j < 2 ^ 62) then some ((List.range j.toNat).map fun (i : Nat) => .int (i : Int), none) else none
  | _ => none
def itR2 (vs : List D) : Option (List D × Option Nat) := match vs with
  | [.int i, .int j] => if decide (-(2 ^ 62) ≤ i) && decide (i < 2 ^ 62) && decide (-(2 ^ 62) ≤ j) && decide (j < 2 ^ 62) then
      some ((List.range (j - i).toNat).map fun (t : Nat) => .int (i + (t : Int)), none) else none
  | _ => none
def itEn (vs : List D) : Option (List D × Option Nat) := match vs with
  | [.tup xs] => some (xs.zipIdx.map fun p => .tup [.int p.2, p.1], none)
  | [.lst xs] => some (xs.zipIdx.map fun p => .tup [.int p.2, p.1], none)
  | _ => none
def itZip (vs : List D) : Option (List D × Option Nat) := match vs with
  | [.tup xs, .tup ys] => some ((xs.zip ys).map fun p => .tup [p.1, p.2], none)
  | [.lst xs, .lst ys] => some ((xs.zip ys).map fun p => .tup [p.1, p.2], none)
  | _ => none
def itD (k : IK) (vs : List D) (st : Store) : Option (List D × Option Nat) :=
  match k with
  | .val => itVal vs st
  | .range1 => itR1 vs
  | .range2 => itR2 vs
  | .enum => itEn vs
  | .zip => itZip vs
def Ob.setLock (b : Bool) : Ob → Ob
  | .lst _ xs => .lst b xs
  | .dic _ ks vs => .dic b ks vs
def Ob.locked : Ob → Bool
  | .lst b _ => b
  | .dic b _ _ => b
/-- m runs while n is walked -/
def unlk (n : Nat) (st : Store) : Option Store := match st[n]? with
  | some o => if o.locked then some (st.set n (o.setLock false)) else none
  | none => none
def withLock {α : Type} (n : Option Nat) (m : M α) : M α := fun st => match n with
  | none => m st
  | some n => match st[n]? with
    | none => none
    | some o => if o.locked then m st else match m (st.set n (o.setLock true)) with
      | none => none
      | some (.ok a st') => (unlk n st').map fun s => .ok a s
      | some (.ex e st') => (unlk n st').map fun s => .ex e s
/-- no exception comes out -/
def calm {α : Type} (m : M α) : M α := fun st => match m st with
  | some (.ok a st') => some (.ok a st')
  | _ => none
def eachM (f : D → M (Option D)) : List D → M (List D)
  | [] => pure []
  | x :: xs => f x >>= fun y => eachM f xs >>= fun ys => pure (match y with
    | some y => y :: ys
    | none => ys)
/-- .. each gives some -/
def eachL (f : D → M (List D)) : List D → M (List D)
  | [] => pure []
  | x :: xs => f x >>= fun y => eachL f xs >>= fun ys => pure (y ++ ys)
/-- pairs put one behind the other -/
def putAll : List D → List D × List D → Option (List D × List D)
  | [], p => some p
  | .tup [k, v] :: r, p => k.toDK.bind fun q => if flOk p.1 q && Nat.blt p.1.length sizeLine then putAll r (dput p.1 p.2 k q v) else none
  | _ :: _, _ => none
def allocO (o : Ob) : M D := fun st => some (.ok (.loc st.length) (st ++ [o]))
def mkL (al : Bool) (xs : List D) : M D := if fit xs.length then (if al then allocO (.lst false xs) else pure (.lst xs)) else .no
def mkD (al : Bool) (p : List D × List D) : M D := if al then allocO (.dic false p.1 p.2) else pure (.dic p.1 p.2)
/-- a display's pairs -/
def dispD : List D → Option (List D × List D)
  | [] => some ([], [])
  | [k, v] => k.toDK.map fun _ => ([k], [v])
  | _ => none
def catD (x y : D) (st : Store) : Option (List D) := match luOf st x, luOf st y with
  | some xs, some ys => some (xs ++ ys)
  | _, _ => none
def revD (st : Store) (d : D) : Option D := (lsOf st d).map fun xs => .lst xs.reverse
def isxD (yes no : List Str) : D → Option D
  | .exc n [] => if n ∈ yes then some (.bl true) else if n ∈ no then some (.bl false) else none
  | _ => none
def asB : D → M Bool
  | .bl b => pure b
  | _ => .no

/-- .. of more kinds -/
def countD (st : Store) (x y : D) : Option D := match (lsOf st x).bind D.toPs, y.toP with
  | some ps, some q => if PyData.canLayAll0 ps && q.canLay0 && Nat.ble q.depth most then some (.int (ps.countP fun z => PyData.eqv z q : Nat)) else none
  | _, _ => none
def indexD (st : Store) (x y : D) : Option D := match (lsOf st x).bind D.toPs, y.toP with
  | some ps, some q => if SeqAt.shaped (.list ps) && SeqAt.shaped q then (ps.findIdx? fun z => PyData.eqv z q).map fun j => .int (j : Nat) else none
  | _, _ => none
inductive Mk where
  | count | index | popL | pop0 | get1 | get2 | setd | no
def mkOf (m : Str) (vs : List D) : Mk := if m == "count" then .count else if m == "index" then .index
  else if m == "pop" then (match vs with
    | [] => .popL
    | [.int i] => if i = 0 then .pop0 else .no
    | _ => .no)
  else if m == "get" then (match vs with
    | [_] => .get1
    | [_, _] => .get2
    | _ => .no)
  else if m == "setdefault" then .setd else .no
def mCount (x : D) (vs : List D) (st : Store) : Option (D × Store) := match vs with
  | [y] => (countD st x y).map fun d => (d, st)
  | _ => none
def mIndex (x : D) (vs : List D) (st : Store) : Option (D × Store) := match vs with
  | [y] => (indexD st x y).map fun d => (d, st)
  | _ => none
def mPopL (x : D) (st : Store) : Option (D × Store) := match x with
  | .loc n => match st[n]? with
    | some (.lst false xs) => (xs[xs.length - 1]?).map fun d => (d, st.set n (.lst false xs.dropLast))
    | _ => none
  | _ => none
def mPop0 (x : D) (st : Store) : Option (D × Store) := match x with
  | .loc n => match st[n]? with
    | some (.lst false (d :: xs)) => some (d, st.set n (.lst false xs))
    | _ => none
  | _ => none
def mGet (x : D) (vs : List D) (st : Store) : Option (D × Store) := match vs with
  | [k] => (dfind st x k).map fun o => (o.getD .non, st)
  | [k, d] => (dfind st x k).map fun o => (o.getD d, st)
  | _ => none
def mSetd (x : D) (vs : List D) (st : Store) : Option (D × Store) := match x with
  | .loc n => match vs with
    | [k, d] => match st[n]? with
      | some (.dic false ks us) => k.toDK.bind fun q => if flOk ks q && Nat.blt ks.length sizeLine then (match dget ks us q with
        | some v => some (v, st)
        | none => some (d, st.set n (.dic false (dput ks us k q d).1 (dput ks us k q d).2))) else none
      | _ => none
    | _ => none
  | _ => none
def metX (m : Str) (x : D) (vs : List D) (st : Store) : Option (D × Store) :=
  match mkOf m vs with
  | .count => mCount x vs st
  | .index => mIndex x vs st
  | .popL => mPopL x st
  | .pop0 => mPop0 x st
  | .get1 | .get2 => mGet x vs st
  | .setd => mSetd x vs st
  | .no => none
/-- a built-in's method -/
def metD (m : Str) (x : D) (vs : List D) (st : Store) : Option (D × Store) :=
  if m == "append" then match x, vs with
    | .loc n, [y] => match st[n]? with
      | some (.lst false xs) => if Nat.blt xs.length sizeLine then some (.non, st.set n (.lst false (xs ++ [y]))) else none
      | _ => none
    | _, _ => none
  else if m == "insert" then match x, vs with
    | .loc n, [.int i, y] => match st[n]? with
      | some (.lst false xs) => if Nat.blt xs.length sizeLine && decide (0 ≤ i) && decide (i ≤ xs.length) then
          some (.non, st.set n (.lst false (xs.take i.toNat ++ y :: xs.drop i.toNat))) else none
      | _ => none
    | _, _ => none
  else if m == "bit_length" then match x, vs with
    | .int i, [] => some (.int (Builtin.Int.intBits i : Nat), st)
    | _, _ => none
  else metX m x vs st

/-- what the receiver is -/
def lMs : List Str := ["append", "insert", "count", "index", "pop"]
def dMs : List Str := ["get", "setdefault"]
def metTy (m : Str) (x : D) (st : Store) : Option Unit := match x with
  | .loc n => match st[n]? with
    | some (.lst _ _) => if m ∈ lMs then some () else none
    | some (.dic _ _ _) => if m ∈ dMs then some () else none
    | _ => none
  | .lst _ => if m ∈ lMs then some () else none
  | .dic _ _ => if m ∈ dMs then some () else none
  | .int _ => if m == "bit_length" then some () else none
  | _ => none
/-! ### calls: the callee sees what it is handed alone -/
structure Ctx where
  call : Str → List D → M D
  glob : Str → Option D
def locs : List D → List Nat
  | [] => []
  | .loc n :: r => n :: locs r
  | _ :: r => locs r
def renum : Nat → List D → List D
  | _, [] => []
  | j, .loc _ :: r => .loc j :: renum (j + 1) r
  | j, d :: r => d :: renum j r
def argOk : D → Bool
  | .loc _ => true
  | d => d.pure
def obsAt (st : Store) : List Nat → Option (List Ob)
  | [] => some []
  | n :: r => (st[n]?).bind fun o => (obsAt st r).map fun os => o :: os
def wrBack : List Nat → List Ob → Store → Store
  | n :: r, o :: os, st => wrBack r os (st.set n o)
  | _, _, st => st
def frzs (st : Store) (k : Nat) : List Ob → Option (List Ob)
  | [] => some []
  | o :: os => (o.frz st k).bind fun a => (frzs st k os).map fun as => a :: as
/-- what came back, in the caller's store; ls: the caller's places of what was handed in -/
def backD (kp : Bool) (ls : List Nat) (d : D) (st' st : Store) : Option (D × Store) :=
  (frzs st' ls.length (st'.take ls.length)).bind fun os =>
    if os.length == ls.length then
      match d with
      | .loc j => if j < ls.length then (ls[j]?).map fun n => (.loc n, wrBack ls os st)
        else if kp then (if (st'.take ls.length).all Ob.pure then (match st'[j]? with
          | some (.lst false xs) => if D.pures xs then some (.loc st.length, wrBack ls os st ++ [.lst false xs]) else none
          | some (.dic false ks vs) => if D.pures ks && D.pures vs then some (.loc st.length, wrBack ls os st ++ [.dic false ks vs]) else none
          | _ => none) else none)
        else (deepAt st' ls.length st'.length j).map fun e => (e, wrBack ls os st)
      | d => (d.sub (deepAt st' ls.length st'.length)).map fun e => (e, wrBack ls os st)
    else none
def callD (C : Ctx) (kp : Bool) (f : Str) (vs : List D) : M D := fun st =>
  if vs.all argOk && decide (locs vs).Nodup then
    match obsAt st (locs vs) with
    | none => none
    | some obs => if obs.all Ob.pure then
        match C.call f (renum 0 vs) obs with
        | none => none
        | some (.ok d st') => match backD kp (locs vs) d st' st with
          | some (e, st1) => some (.ok e st1)
          | none => none
        | some (.ex e st') => match backD false (locs vs) e st' st with
          | some (e', st1) => some (.ex e' st1)
          | none => none
      else none
  else none

/-- a slice's end: the literal None alone stands for none -/
def endP : Ex → D → Option (Option Int)
  | .cst .non, _ => some none
  | _, .int i => some (some i)
  | _, _ => none
/-- m, where no walk of n begins -/
def free1 {α : Type} (n : Option Nat) (m : M α) : M α := fun st => match n with
  | none => m st
  | some n => match st[n]? with
    | some o => if o.locked then m st else none
    | none => none
/-- one turn of a clause -/
def itemF (tst : Env → M Bool) (rest : Env → M (List D)) (tg : Tg) (vs : List Nat) (env : Env) (d : D) : M (List D) :=
  M.of (tgSet tg d (wipeE env vs)) >>= fun v => tst v >>= fun r => if r then rest v else pure []
/-- a second clause -/
def innerF (src : Env → M (List D)) (k : IK) (tst : Env → M Bool) (rest : Env → M (List D)) (tg : Tg) (vs : List Nat) (env : Env) : M (List D) :=
  src env >>= fun xs => M.rd (itD k xs) >>= fun p => free1 p.2 (eachL (itemF tst rest tg vs env) p.1)
mutual
def evE (C : Ctx) : Ex → Env → M D
  | .cst c, _ => pure c
  | .var i, env => .of (env[i]?.join)
  | .gst x, _ => .of (C.glob x)
  | .bin o a b, env => evE C a env >>= fun x => evE C b env >>= fun y => .rd (binD o x y)
  | .neg a, env => evE C a env >>= fun x => match x with
    | .int i => pure (.int (-i))
    | _ => .no
  | .cmp o a b, env => evE C a env >>= fun x => evE C b env >>= fun y => .rd fun st => (cmpD o x y st).map .bl
  | .cmp2 o o' a b c, env => evE C a env >>= fun x => evE C b env >>= fun y => M.rd (cmpD o x y) >>= fun r =>
      if r then evE C c env >>= fun z => .rd fun st => (cmpD o' y z st).map .bl else pure (.bl false)
  | .and a b, env => evE C a env >>= fun x => asB x >>= fun r => if r then evE C b env else pure (.bl false)
  | .or a b, env => evE C a env >>= fun x => asB x >>= fun r => if r then pure (.bl true) else evE C b env
  | .not a, env => evE C a env >>= fun x => asB x >>= fun r => pure (.bl (!r))
  | .ife c a b, env => evE C c env >>= fun x => asB x >>= fun r => if r then evE C a env else evE C b env
  | .tup xs, env => evA C xs env >>= fun vs => if fit vs.length then pure (.tup vs) else .no
  | .lst al xs, env => evA C xs env >>= fun vs => mkL al vs
  | .ix a b, env => evE C a env >>= fun x => evE C b env >>= fun y => .rd fun st => ixD st x y
  | .sl a lo hi, env => evE C a env >>= fun x => evE C lo env >>= fun l => M.of (endP lo l) >>= fun l => evE C hi env >>= fun h => M.of (endP hi h) >>= fun h => .rd fun st => sliceD st x l h
  | .call kp f xs, env => evA C xs env >>= fun vs => callD C kp f vs
  | .blt f xs, env => evA C xs env >>= fun vs => .rd (bltD f vs)
  | .lsa xs, env => evA C xs env >>= fun vs => M.rd (bltD "list" vs) >>= fun d => match d with
    | .lst ys => allocO (.lst false ys)
    | _ => .no
  | .isi a t, env => evE C a env >>= fun x => .rd fun st => (tyOf st x).map fun u => .bl (isTy u t)
  | .met m a xs, env => evE C a env >>= fun x => M.rd (metTy m x) >>= fun _ => evA C xs env >>= fun vs => .wr (metD m x vs)
  | .lc al e tg k xs hi c own, env => evA C xs env >>= fun vs => M.rd (itD k vs) >>= fun p =>
      if fit p.1.length then
        calm (withLock p.2 (eachM (fun d => M.of (tgSet tg d (wipeE env (own.map (·.2)))) >>= fun env' =>
          (if hi then evE C c env' >>= asB else pure true) >>= fun r =>
            if r then evE C e env' >>= fun y => pure (some y) else pure none) p.1)) >>= fun ys => mkL al ys
      else .no
  | .cat a b, env => evE C a env >>= fun x => evE C b env >>= fun y => M.rd (catD x y) >>= fun zs => mkL true zs
  | .dct al xs, env => calm (evA C xs env) >>= fun vs => M.of (dispD vs) >>= fun p => mkD al p
  | .rev a, env => evE C a env >>= fun x => .rd fun st => revD st x
  | .isx a _ yes no, env => evE C a env >>= fun x => M.of (isxD yes no x)
  | .isl a, env => evE C a env >>= fun x => .rd fun st => (tyOf st x).map fun u => .bl (u == "list" || u == "tuple")
  | .dc al kx vx tg k xs hi c own, env => evA C xs env >>= fun vs => M.rd (itD k vs) >>= fun p =>
      calm (withLock p.2 (eachL (itemF (fun v => if hi then evE C c v >>= asB else pure true) (fun v => evE C kx v >>= fun x => evE C vx v >>= fun y => pure [.tup [x, y]]) tg (own.map (·.2)) env) p.1)) >>= fun ys => M.of (putAll ys ([], [])) >>= fun q => mkD al q
  | .lc2 al e tg k xs hi c tg1 k1 xs1 hi1 c1 own vs1, env => evA C xs env >>= fun vs => M.rd (itD k vs) >>= fun p =>
      calm (withLock p.2 (eachL (itemF (fun v => if hi then evE C c v >>= asB else pure true)
        (innerF (fun v => evA C xs1 v) k1 (fun v => if hi1 then evE C c1 v >>= asB else pure true) (fun v => evE C e v >>= fun y => pure [y]) tg1 vs1) tg (own.map (·.2)) env) p.1)) >>= fun ys => mkL al ys
  | .dc2 al kx vx tg k xs hi c tg1 k1 xs1 hi1 c1 own vs1, env => evA C xs env >>= fun vs => M.rd (itD k vs) >>= fun p =>
      calm (withLock p.2 (eachL (itemF (fun v => if hi then evE C c v >>= asB else pure true)
        (innerF (fun v => evA C xs1 v) k1 (fun v => if hi1 then evE C c1 v >>= asB else pure true) (fun v => evE C kx v >>= fun x => evE C vx v >>= fun y => pure [.tup [x, y]]) tg1 vs1) tg (own.map (·.2)) env) p.1)) >>= fun ys => M.of (putAll ys ([], [])) >>= fun q => mkD al q
def evA (C : Ctx) : Exs → Env → M (List D)
  | .nil, _ => pure []
  | .cons s e r, env => evE C e env >>= fun x =>
      if s then M.rd (fun st => sqOf st x) >>= fun ys => evA C r env >>= fun xs => pure (ys ++ xs)
      else evA C r env >>= fun xs => pure (x :: xs)
end

/-! ### statements -/
inductive Fl where
  | nx (env : Env) | rt (d : D) | bk (env : Env) | ct (env : Env) | er (env : Env) (e : D)
mutual
/-- no thing of the store from n on within -/
def D.under (n : Nat) : D → Bool
  | .tup xs => D.unders n xs
  | .lst xs => D.unders n xs
  | .dic ks vs => D.unders n ks && D.unders n vs
  | .loc m => Nat.blt m n
  | .exc _ vs => D.unders n vs
  | .non | .bl _ | .int _ | .str _ | .scr _ => true
def D.unders (n : Nat) : List D → Bool
  | [] => true
  | x :: xs => D.under n x && D.unders n xs
end
def Ob.under (n : Nat) : Ob → Bool
  | .lst _ xs => D.unders n xs
  | .dic _ ks vs => D.unders n ks && D.unders n vs
/-- behind a turn: what was laid within it goes -/
def trimE (n : Nat) (env : Env) : Env := env.map fun o => match o with
  | some d => if d.under n then some d else none
  | none => none
/-- what was known ahead of the turn stays so -/
def keepE (n : Nat) (e0 env : Env) : Bool := (e0.zip env).all fun p => match p with
  | (some _, some d) => d.under n
  | _ => true
def trimR (n : Nat) (e0 env : Env) (st' : Store) : Option (Out Fl) := if Nat.ble st'.length n then some (.ok (.nx env) st')
  else if (st'.take n).all (Ob.under n) && keepE n e0 env then some (.ok (.nx (trimE n env)) (st'.take n)) else some (.ok (.nx env) st')
def trimM (n : Nat) (e0 : Env) (m : M Fl) : M Fl := fun st => match m st with
  | some (.ok (.nx env) st') => trimR n e0 env st'
  | some (.ok (.ct env) st') => trimR n e0 env st'
  | r => r
def loopM (f : D → Env → M Fl) : List D → Env → M Fl
  | [], env => pure (.nx env)
  | x :: xs, env => f x env >>= fun r => match r with
    | .nx env' => loopM f xs env'
    | .bk env' => pure (.nx env')
    | r => pure r
/-- at most n turns -/
def whileN (f : Env → M Fl) : Nat → Env → M Fl
  | 0, _ => M.no
  | n + 1, env => f env >>= fun r => match r with
    | .nx env' => whileN f n env'
    | .bk env' => pure (.nx env')
    | r => pure r
/-- as many as are wanted -/
noncomputable def whileM (f : Env → M Fl) (env : Env) : M Fl := fun st => match whileN f 100000 env st with
  | some r => some r
  | none => open Classical in if h : ∃ n r, whileN f n env st = some r then some (Classical.choose (Classical.choose_spec h)) else none
/-- an exception ends the statement, with the names as they stand -/
def M.tr {α : Type} (env : Env) (m : M α) (k : α → M Fl) : M Fl := fun st => match m st with
  | none => none
  | some (.ok a st') => k a st'
  | some (.ex e st') => some (.ok (.er env e) st')
def augD (o : Operator) (x y : D) (st : Store) : Option (D × Store) :=
  match o, x, y with
  | .Add, .int i, .int j => some (.int (i + j), st)
  | .Sub, .int i, .int j => some (.int (i - j), st)
  | .Add, .str a, .str b => if fit (a.length + b.length) then some (.str (a ++ b), st) else none
  | .Add, .loc n, y => match st[n]?, luOf st y with
    | some (.lst false xs), some ys => if fit (xs.length + ys.length) then some (.loc n, st.set n (.lst false (xs ++ ys))) else none
    | _, _ => none
  | _, _, _ => none
def setIxD (a i v : D) (st : Store) : Option (Unit × Store) :=
  match a with
  | .loc n => match st[n]? with
    | some (.lst false xs) => match i with
      | .int k => (L2.ixN xs.length k).map fun j => ((), st.set n (.lst false (xs.set j v)))
      | _ => none
    | some (.dic false ks vs) => i.toDK.bind fun k => if flOk ks k && Nat.blt ks.length sizeLine then some ((), st.set n (.dic false (dput ks vs i k v).1 (dput ks vs i k v).2)) else none
    | _ => none
  | _ => none
/-- no exception comes out where something is locked -/
def noEr (n : Option Nat) (m : M Fl) : M Fl := fun st => match n, m st with
  | some _, some (.ok (.er _ _) _) => none
  | some _, some (.ex _ _) => none
  | _, r => r
def putE (i : Nat) (d : D) (env : Env) : M Fl := if i < env.length then pure (.nx (env.set i (some d))) else .no
/-- an own exception is caught, under a name -/
def catchM (yes : List Str) (i j : Nat) (m : M Fl) : M Fl := fun st => match m st with
  | some (.ok (.er env (.exc n [])) st') => if n ∈ yes && Nat.blt i env.length && Nat.blt j env.length then some (.ok (.nx ((env.set j (some (.exc n []))).set i none)) st') else none
  | some (.ok (.er _ _) _) => none
  | some (.ex _ _) => none
  | r => r
mutual
noncomputable def evS (C : Ctx) : Sx → Env → M Fl
  | .set i e, env => M.tr env (evE C e env) fun d => putE i d env
  | .unp tg e, env => M.tr env (evE C e env) fun d => M.of (tgSet tg d env) >>= fun env' => pure (.nx env')
  | .aug o i e, env => M.of (env[i]?.join) >>= fun x => M.tr env (evE C e env) fun y => M.wr (augD o x y) >>= fun z => putE i z env
  | .six a b e, env => M.tr env (evE C e env) fun v => M.tr env (evE C a env) fun x => M.tr env (evE C b env) fun i => M.wr (setIxD x i v) >>= fun _ => pure (.nx env)
  | .ex e, env => M.tr env (evE C e env) fun _ => pure (.nx env)
  | .ret e, env => M.tr env (evE C e env) fun d => pure (.rt d)
  | .retN, _ => pure (.rt .non)
  | .iff c a b, env => M.tr env (evE C c env) fun x => asB x >>= fun r => if r then evSs C a env else evSs C b env
  | .loop tg k xs body, env => M.tr env (evA C xs env) fun vs => M.rd (itD k vs) >>= fun p =>
      noEr p.2 <| withLock p.2 (loopM (fun d env => fun st => trimM st.length env (M.of (tgSet tg d env) >>= fun env' => evSs C body env') st) p.1 env)
  | .raise c _, env => pure (.er env (.exc c []))
  | .whl c body, env => whileM (fun env => M.tr env (evE C c env >>= asB) fun r => if r then fun st => trimM st.length env (evSs C body env) st else pure (.bk env)) env
  | .try_ b _ yes i j, env => catchM yes i j (evSs C b env)
  | .brk, env => pure (.bk env)
  | .cnt, env => pure (.ct env)
  | .pass, env => pure (.nx env)
noncomputable def evSs (C : Ctx) : Sxs → Env → M Fl
  | .nil, env => pure (.nx env)
  | .cons s r, env => evS C s env >>= fun f => match f with
    | .nx env' => evSs C r env'
    | f => pure f
end
/-- a def: the number of its names, of its parameters, its body -/
structure Fn where
  n : Nat
  p : Nat
  body : Sxs
noncomputable def runF (C : Ctx) (F : Fn) (vs : List D) : M D :=
  if vs.length == F.p && Nat.ble F.p F.n then
    evSs C F.body (vs.map some ++ List.replicate (F.n - F.p) none) >>= fun f => match f with
      | .rt d => pure d
      | .nx _ => pure .non
      | .er _ e => fun st => some (.ex e st)
      | _ => .no
  else .no
/-- calls at most n deep -/
noncomputable def callN (T : Str → Option Fn) (G : Str → Option D) : Nat → Str → List D → M D
  | 0, _, _ => .no
  | n + 1, f, vs => match T f with
    | some F => runF ⟨callN T G n, G⟩ F vs
    | none => .no
end Wk

set_option maxRecDepth 100000
/-! Wk3: what the data stand for in the abstract heap. -/
namespace Wk
open PySem PySem.Spec PyProof.Rows L2

class PrW where
  P : Program
  w : World
  mg : Str → Option Value
/-- a dict whose keys are tuples: its keys, where they stand, the values -/
def dnHO [pw : PrW] (a : Addr) (xs : List (NestedKey × Addr × Value)) : HO := .ext fun h => xs.length ≤ sizeLine ∧ (a == sysModules) = false ∧
  ∃ o es ep, h.get? a = some o ∧ o.ExactDict ∧ o.data = .dict es ep ∧ es.toList = xs.map (entryOfKey (nestedKind pw.P pw.w)) ∧ (xs.map (·.1)).Nodup
/-- an exception that was caught -/
def exHO (cls : Value) (a : Addr) : HO := .ext fun h => ∃ (oe : Obj) (vs : Array Value), h.get? a = some oe ∧ L2.Zc cls none oe ∧ oe.data = .fields vs
/-- keys that are tuples, some -/
def KsT (ks : List D) (xs : List (NestedKey × Addr × Value)) : Prop := ks.map D.toDK = xs.map (fun x => some (DK.t x.1)) ∧ xs ≠ []
def kD : L2.Key → D
  | .inl i => .int i
  | .inr x => .str x
section
variable [pw : PrW] (K : PySem.W.Frag) (H : Hp) (fb ι : List Addr)
mutual
/-- v stands for d; fb: what belongs to the callers, ι: where the store's things stand -/
def Rel : D → V → Prop
  | .non, v => v = .non
  | .bl b, v => v = .bl b
  | .int i, v => v = .int i
  | .str x, v => v = .str x
  | .tup ds, v => ∃ a xs, v = .ref a ∧ H a = some (.tup xs) ∧ a ∉ ι ∧ a ∉ fb ∧ Rels ds xs
  | .lst ds, v => ∃ a xs, v = .ref a ∧ H a = some (.lst xs) ∧ a ∉ ι ∧ a ∉ fb ∧ Rels ds xs
  | .dic ks vs, v => ∃ a, v = .ref a ∧ a ∉ ι ∧ a ∉ fb ∧
      ((∃ kvs : List (L2.Key × V), H a = some (.dK kvs) ∧ ks = kvs.map (fun kv => kD kv.1) ∧ Rels vs (kvs.map (·.2))) ∨
       ∃ (xs : List (NestedKey × Addr × Value)) (ws : List V), H a = some (dnHO a xs) ∧ KsT ks xs ∧ Vals ws (xs.map (·.2.2)) ∧ Rels ks (xs.map fun x => V.ref x.2.1) ∧ Rels vs ws)
  | .loc n, v => ∃ a, v = .ref a ∧ ι[n]? = some a
  | .scr ns, v => ∃ a, v = .ref a ∧ ((∃ o, H a = some (.frz o (.lst (ns.map V.int))) ∧ a ∉ ι ∧ a ∉ fb) ∨ ∀ H' : Hp, SqL K H' a (ns.map V.int))
  | .exc c vs, v => vs = [] ∧ ∃ a C, v = .ref a ∧ pw.mg c = some (.ref C) ∧ H a = some (exHO (.ref C) a) ∧ a ∉ ι ∧ a ∉ fb
def Rels : List D → List V → Prop
  | [], xs => xs = []
  | d :: ds, xs => ∃ y ys, xs = y :: ys ∧ Rel d y ∧ Rels ds ys
end
/-- u is the dict at a with these keys, values -/
def DicU (u : HO) (a : Addr) (ks vs : List D) : Prop :=
  (∃ kvs : List (L2.Key × V), u = .dK kvs ∧ ks = kvs.map (fun kv => kD kv.1) ∧ Rels K H fb ι vs (kvs.map (·.2))) ∨
  ∃ (xs : List (NestedKey × Addr × Value)) (ws : List V), u = dnHO a xs ∧ KsT ks xs ∧ Vals ws (xs.map (·.2.2)) ∧ Rels K H fb ι ks (xs.map fun x => V.ref x.2.1) ∧ Rels K H fb ι vs ws
/-- what stands at a is the store's thing -/
def RelO (a : Addr) : Ob → Prop
  | .lst false ds => ∃ xs, H a = some (.lst xs) ∧ Rels K H fb ι ds xs
  | .lst true ds => ∃ od xs, H a = some (.frz od (.lst xs)) ∧ Rels K H fb ι ds xs
  | .dic l ks vs => ∃ u, DicU K H fb ι u a ks vs ∧ match l with
      | false => H a = some u
      | true => ∃ od, H a = some (.frz od u)
structure RelS (st : Store) : Prop where
  len : ι.length = st.length
  nd : ι.Nodup
  fbs : ∀ a ∈ fb, H a ≠ none
  dj : ∀ a ∈ ι, a ∉ fb
  at_ : ∀ (n : Nat) (o : Ob) (a : Addr), st[n]? = some o → ι[n]? = some a → RelO K H fb ι a o
def RelE (env : Env) (σ : L2.St) : Prop := env.length = σ.length ∧ ∀ (i : Nat) (d : D), env[i]? = some (some d) → ∃ v, σ[i]? = some (some v) ∧ Rel K H fb ι d v
end
/-- what a step leaves of the abstract heap -/
structure Grow0 (ι : List Addr) (H : Hp) (ι' : List Addr) (H' : Hp) : Prop where
  pre : ∃ new, ι' = ι ++ new ∧ ∀ a ∈ new, H a = none
  keep : ∀ a o, H a = some o → a ∉ ι → H' a = some o
structure Grow (ι : List Addr) (H : Hp) (ι' : List Addr) (H' : Hp) : Prop extends Grow0 ι H ι' H' where
  live : ∀ a o, H a = some o → ∃ o', H' a = some o'
  frz : ∀ a o u, H a = some (.frz o u) → H' a = some (.frz o u)

section
variable [pw : PrW] {K : PySem.W.Frag} {H H' H2 : Hp} {fb ι ι' ι2 : List Addr} {st : Store}
theorem Grow.refl : Grow ι H ι H := ⟨⟨⟨[], by simp, by simp⟩, fun _ _ h _ => h⟩, fun _ o h => ⟨o, h⟩, fun _ _ _ h => h⟩
theorem Grow0.notin (g : Grow0 ι H ι' H') {a : Addr} {o : HO} (h : H a = some o) (n : a ∉ ι) : a ∉ ι' := by
  obtain ⟨new, e, f⟩ := g.pre
  rw [e]
  intro hm
  rcases List.mem_append.mp hm with z | z
  · exact n z
  · rw [f a z] at h; cases h
theorem Grow.none (g : Grow ι H ι' H') {a : Addr} (h : H' a = none) : H a = none := by
  cases q : H a with
  | none => rfl
  | some o => obtain ⟨o', z⟩ := g.live a o q; rw [h] at z; cases z
theorem Grow.trans (g : Grow ι H ι' H') (g2 : Grow ι' H' ι2 H2) : Grow ι H ι2 H2 := by
  obtain ⟨new, e, f⟩ := g.pre
  obtain ⟨new2, e2, f2⟩ := g2.pre
  refine ⟨⟨⟨new ++ new2, by rw [e2, e, List.append_assoc], fun a ha => ?_⟩, fun a o h n => ?_⟩, fun a o h => ?_, fun a o u h => g2.frz a o u (g.frz a o u h)⟩
  · rcases List.mem_append.mp ha with z | z
    · exact f a z
    · exact g.none (f2 a z)
  · exact g2.keep a o (g.keep a o h n) (g.notin h n)
  · obtain ⟨o', z⟩ := g.live a o h
    exact g2.live a o' z
theorem Grow0.at_ (g : Grow0 ι H ι' H') {n : Nat} {a : Addr} (h : ι[n]? = some a) : ι'[n]? = some a := by
  obtain ⟨new, e, _⟩ := g.pre
  rw [e, List.getElem?_append_left (List.getElem?_eq_some_iff.mp h).1]
  exact h
mutual
theorem Rel.mono0 (g : Grow0 ι H ι' H') : ∀ (d : D) (v : V), Rel K H fb ι d v → Rel K H' fb ι' d v
  | .non, v, h => h
  | .bl b, v, h => h
  | .int i, v, h => h
  | .str x, v, h => h
  | .tup ds, v, h => by
    obtain ⟨a, xs, e, q, n, m, r⟩ := h
    exact ⟨a, xs, e, g.keep a _ q n, g.notin q n, m, Rels.mono0 g ds xs r⟩
  | .lst ds, v, h => by
    obtain ⟨a, xs, e, q, n, m, r⟩ := h
    exact ⟨a, xs, e, g.keep a _ q n, g.notin q n, m, Rels.mono0 g ds xs r⟩
  | .dic ks vs, v, h => by
    obtain ⟨a, e, n, m, h⟩ := h
    rcases h with ⟨kvs, q, hk, r⟩ | ⟨xs, ws, q, hk, hv, r1, r2⟩
    · exact ⟨a, e, g.notin q n, m, .inl ⟨kvs, g.keep a _ q n, hk, Rels.mono0 g vs _ r⟩⟩
    · exact ⟨a, e, g.notin q n, m, .inr ⟨xs, ws, g.keep a _ q n, hk, hv, Rels.mono0 g ks _ r1, Rels.mono0 g vs ws r2⟩⟩
  | .loc n, v, h => by
    obtain ⟨a, e, q⟩ := h
    exact ⟨a, e, g.at_ q⟩
  | .scr ns, v, h => by
    obtain ⟨a, e, q | q⟩ := h
    · obtain ⟨o, q, n, m⟩ := q
      exact ⟨a, e, .inl ⟨o, g.keep a _ q n, g.notin q n, m⟩⟩
    · exact ⟨a, e, .inr q⟩
  | .exc c vs, v, h => by
    obtain ⟨e0, a, C, e, hm, q, n, m⟩ := h
    exact ⟨e0, a, C, e, hm, g.keep a _ q n, g.notin q n, m⟩
theorem Rels.mono0 (g : Grow0 ι H ι' H') : ∀ (ds : List D) (vs : List V), Rels K H fb ι ds vs → Rels K H' fb ι' ds vs
  | [], vs, h => h
  | d :: ds, vs, h => by
    obtain ⟨y, ys, e, r, rs⟩ := h
    exact ⟨y, ys, e, Rel.mono0 g d y r, Rels.mono0 g ds ys rs⟩
end
mutual
theorem Rel.tr {fb' : List Addr} (hs : ∀ a u, H a = some u → a ∉ ι → a ∉ fb → H' a = some u ∧ a ∉ ι' ∧ a ∉ fb') (hi : ∀ (n : Nat) (a : Addr), ι[n]? = some a → ι'[n]? = some a) : ∀ (d : D) (v : V), Rel K H fb ι d v → Rel K H' fb' ι' d v
  | .non, v, h => h
  | .bl b, v, h => h
  | .int i, v, h => h
  | .str x, v, h => h
  | .tup ds, v, h => by
    obtain ⟨a, xs, e, q, n, m, r⟩ := h
    obtain ⟨z1, z2, z3⟩ := hs a _ q n m
    exact ⟨a, xs, e, z1, z2, z3, Rels.tr hs hi ds xs r⟩
  | .lst ds, v, h => by
    obtain ⟨a, xs, e, q, n, m, r⟩ := h
    obtain ⟨z1, z2, z3⟩ := hs a _ q n m
    exact ⟨a, xs, e, z1, z2, z3, Rels.tr hs hi ds xs r⟩
  | .dic ks vs, v, h => by
    obtain ⟨a, e, n, m, h⟩ := h
    rcases h with ⟨kvs, q, hk, r⟩ | ⟨xs, ws, q, hk, hv, r1, r2⟩
    · obtain ⟨z1, z2, z3⟩ := hs a _ q n m
      exact ⟨a, e, z2, z3, .inl ⟨kvs, z1, hk, Rels.tr hs hi vs _ r⟩⟩
    · obtain ⟨z1, z2, z3⟩ := hs a _ q n m
      exact ⟨a, e, z2, z3, .inr ⟨xs, ws, z1, hk, hv, Rels.tr hs hi ks _ r1, Rels.tr hs hi vs ws r2⟩⟩
  | .loc n, v, h => by
    obtain ⟨a, e, q⟩ := h
    exact ⟨a, e, hi n a q⟩
  | .scr ns, v, h => by
    obtain ⟨a, e, q | q⟩ := h
    · obtain ⟨o, q, n, m⟩ := q
      exact ⟨a, e, .inl ⟨o, hs a _ q n m⟩⟩
    · exact ⟨a, e, .inr q⟩
  | .exc c vs, v, h => by
    obtain ⟨e0, a, C, e, hm, q, n, m⟩ := h
    obtain ⟨z1, z2, z3⟩ := hs a _ q n m
    exact ⟨e0, a, C, e, hm, z1, z2, z3⟩
theorem Rels.tr {fb' : List Addr} (hs : ∀ a u, H a = some u → a ∉ ι → a ∉ fb → H' a = some u ∧ a ∉ ι' ∧ a ∉ fb') (hi : ∀ (n : Nat) (a : Addr), ι[n]? = some a → ι'[n]? = some a) : ∀ (ds : List D) (vs : List V), Rels K H fb ι ds vs → Rels K H' fb' ι' ds vs
  | [], vs, h => h
  | d :: ds, vs, h => by
    obtain ⟨y, ys, e, r, rs⟩ := h
    exact ⟨y, ys, e, Rel.tr hs hi d y r, Rels.tr hs hi ds ys rs⟩
end
theorem DicU.map {fb' : List Addr} {u : HO} {a : Addr} {ks vs : List D} (f : ∀ (ds : List D) (xs : List V), (ds = ks ∨ ds = vs) → Rels K H fb ι ds xs → Rels K H' fb' ι' ds xs) (h : DicU K H fb ι u a ks vs) : DicU K H' fb' ι' u a ks vs := by
  rcases h with ⟨kvs, q, hk, r⟩ | ⟨xs, ws, q, hk, hv, r1, r2⟩
  · exact .inl ⟨kvs, q, hk, f _ _ (.inr rfl) r⟩
  · exact .inr ⟨xs, ws, q, hk, hv, f _ _ (.inl rfl) r1, f _ _ (.inr rfl) r2⟩
/-- a dict as data -/
theorem rel_dic {a : Addr} {u : HO} {ks vs : List D} (h : H a = some u) (d : DicU K H fb ι u a ks vs) (n : a ∉ ι) (m : a ∉ fb) : Rel K H fb ι (.dic ks vs) (.ref a) := by
  rcases d with ⟨kvs, rfl, hk, r⟩ | ⟨xs, ws, rfl, hk, hv, r1, r2⟩
  · exact ⟨a, rfl, n, m, .inl ⟨kvs, h, hk, r⟩⟩
  · exact ⟨a, rfl, n, m, .inr ⟨xs, ws, h, hk, hv, r1, r2⟩⟩
theorem dic_rel {v : V} {ks vs : List D} (h : Rel K H fb ι (.dic ks vs) v) : ∃ a u, v = .ref a ∧ H a = some u ∧ DicU K H fb ι u a ks vs ∧ a ∉ ι ∧ a ∉ fb := by
  obtain ⟨a, e, n, m, h⟩ := h
  rcases h with ⟨kvs, q, hk, r⟩ | ⟨xs, ws, q, hk, hv, r1, r2⟩
  · exact ⟨a, _, e, q, .inl ⟨kvs, rfl, hk, r⟩, n, m⟩
  · exact ⟨a, _, e, q, .inr ⟨xs, ws, rfl, hk, hv, r1, r2⟩, n, m⟩
theorem DicU.mut {a : Addr} {u : HO} {ks vs : List D} (d : DicU K H fb ι u a ks vs) : Mut (some u) := by
  rcases d with ⟨kvs, rfl, _⟩ | ⟨xs, ws, rfl, _⟩ <;> trivial
theorem Rel.mvfb {fb' : List Addr} (hf : ∀ a ∈ fb', a ∈ fb ∨ H a = none) {d : D} {v : V} (h : Rel K H fb ι d v) : Rel K H fb' ι d v :=
  Rel.tr (fun a u e n m => ⟨e, n, fun z => (hf a z).elim m fun w => by rw [e] at w; cases w⟩) (fun _ _ e => e) d v h
theorem Rels.mvfb {fb' : List Addr} (hf : ∀ a ∈ fb', a ∈ fb ∨ H a = none) {d : List D} {v : List V} (h : Rels K H fb ι d v) : Rels K H fb' ι d v :=
  Rels.tr (fun a u e n m => ⟨e, n, fun z => (hf a z).elim m fun w => by rw [e] at w; cases w⟩) (fun _ _ e => e) d v h
/-- .. where fb's own may change, too -/
structure GrowF (fb ι : List Addr) (H : Hp) (ι' : List Addr) (H' : Hp) : Prop where
  pre : ∃ new, ι' = ι ++ new ∧ ∀ a ∈ new, H a = Option.none
  keep : ∀ a o, H a = some o → a ∉ ι → a ∉ fb → H' a = some o
  live : ∀ a o, H a = some o → ∃ o', H' a = some o'
  frz : ∀ a o u, H a = some (.frz o u) → H' a = some (.frz o u)
theorem Grow.toF (g : Grow ι H ι' H') : GrowF fb ι H ι' H' := ⟨g.pre, fun a o h n _ => g.keep a o h n, g.live, g.frz⟩
theorem GrowF.none (g : GrowF fb ι H ι' H') {a : Addr} (h : H' a = Option.none) : H a = Option.none := by
  cases q : H a with
  | none => rfl
  | some o => obtain ⟨o', z⟩ := g.live a o q; rw [h] at z; cases z
theorem GrowF.notin (g : GrowF fb ι H ι' H') {a : Addr} {o : HO} (h : H a = some o) (n : a ∉ ι) : a ∉ ι' := by
  obtain ⟨new, e, f⟩ := g.pre
  rw [e]
  exact fun hm => (List.mem_append.mp hm).elim n fun z => by rw [f a z] at h; cases h
theorem GrowF.at_ (g : GrowF fb ι H ι' H') {n : Nat} {a : Addr} (h : ι[n]? = some a) : ι'[n]? = some a := by
  obtain ⟨new, e, f⟩ := g.pre
  rw [e, List.getElem?_append_left (List.getElem?_eq_some_iff.mp h).1]; exact h
theorem GrowF.trans (g : GrowF fb ι H ι' H') (g2 : GrowF fb ι' H' ι2 H2) : GrowF fb ι H ι2 H2 := by
  obtain ⟨new, e, f⟩ := g.pre
  obtain ⟨new2, e2, f2⟩ := g2.pre
  refine ⟨⟨new ++ new2, by rw [e2, e, List.append_assoc], fun a ha => (List.mem_append.mp ha).elim (f a) fun z => g.none (f2 a z)⟩, fun a o h n m => g2.keep a o (g.keep a o h n m) (g.notin h n) m, fun a o h => ?_, fun a o u h => g2.frz a o u (g.frz a o u h)⟩
  obtain ⟨o', z⟩ := g.live a o h
  exact g2.live a o' z
theorem Rel.go {fb' : List Addr} (g : GrowF fb ι H ι' H') (hf : ∀ a ∈ fb', a ∈ fb ∨ H a = Option.none) {d : D} {v : V} (h : Rel K H fb ι d v) : Rel K H' fb' ι' d v :=
  Rel.tr (fun a u e n m => ⟨g.keep a u e n m, g.notin e n, fun z => (hf a z).elim m fun w => by rw [e] at w; cases w⟩) (fun _ _ e => g.at_ e) d v h
theorem Rels.go {fb' : List Addr} (g : GrowF fb ι H ι' H') (hf : ∀ a ∈ fb', a ∈ fb ∨ H a = Option.none) {d : List D} {v : List V} (h : Rels K H fb ι d v) : Rels K H' fb' ι' d v :=
  Rels.tr (fun a u e n m => ⟨g.keep a u e n m, g.notin e n, fun z => (hf a z).elim m fun w => by rw [e] at w; cases w⟩) (fun _ _ e => g.at_ e) d v h
theorem RelO.tr {fb' : List Addr} (hs : ∀ a u, H a = some u → a ∉ ι → a ∉ fb → H' a = some u ∧ a ∉ ι' ∧ a ∉ fb') (hi : ∀ (n : Nat) (a : Addr), ι[n]? = some a → ι'[n]? = some a) {a : Addr} {o : Ob} (k : ∀ u, H a = some u → H' a = some u) (h : RelO K H fb ι a o) : RelO K H' fb' ι' a o := by
  cases o with
  | lst l ds =>
    cases l with
    | false =>
      obtain ⟨xs, e, r⟩ := h
      exact ⟨xs, k _ e, Rels.tr hs hi ds xs r⟩
    | true =>
      obtain ⟨od, xs, e, r⟩ := h
      exact ⟨od, xs, k _ e, Rels.tr hs hi ds xs r⟩
  | dic l ks vs =>
    obtain ⟨u, d, q⟩ := h
    refine ⟨u, d.map fun ds xs _ r => Rels.tr hs hi ds xs r, ?_⟩
    cases l with
    | false => exact k _ q
    | true => obtain ⟨od, q⟩ := q; exact ⟨od, k _ q⟩
theorem Rel.mono {d : D} {v : V} (h : Rel K H fb ι d v) (g : Grow ι H ι' H') : Rel K H' fb ι' d v := Rel.mono0 g.toGrow0 d v h
theorem Rels.mono (g : Grow ι H ι' H') (ds : List D) (vs : List V) (h : Rels K H fb ι ds vs) : Rels K H' fb ι' ds vs := Rels.mono0 g.toGrow0 ds vs h
theorem RelE.mono0 {env : Env} {σ : L2.St} (g : Grow0 ι H ι' H') (h : RelE K H fb ι env σ) : RelE K H' fb ι' env σ :=
  ⟨h.1, fun i d e => let ⟨v, a, r⟩ := h.2 i d e; ⟨v, a, Rel.mono0 g d v r⟩⟩
theorem RelE.mono {env : Env} {σ : L2.St} (h : RelE K H fb ι env σ) (g : Grow ι H ι' H') : RelE K H' fb ι' env σ := h.mono0 g.toGrow0
theorem Rels.length : ∀ {ds : List D} {vs : List V}, Rels K H fb ι ds vs → ds.length = vs.length
  | [], vs, h => by have h : vs = [] := h; rw [h]; rfl
  | d :: ds, vs, h => by
    obtain ⟨y, ys, e, r, rs⟩ := h
    rw [e, List.length_cons, List.length_cons, Rels.length rs]
theorem Rels.get : ∀ {ds : List D} {vs : List V} {i : Nat} {d : D}, Rels K H fb ι ds vs → ds[i]? = some d → ∃ v, vs[i]? = some v ∧ Rel K H fb ι d v
  | [], _, _, _, _, e => by simp at e
  | d :: ds, vs, i, c, h, e => by
    obtain ⟨y, ys, rfl, r, rs⟩ := h
    cases i with
    | zero => simp at e; subst e; exact ⟨y, by simp, r⟩
    | succ i =>
      obtain ⟨v, h1, h2⟩ := Rels.get (i := i) rs (by simpa using e)
      exact ⟨v, by simpa using h1, h2⟩
theorem Rels.append : ∀ {ds es : List D} {vs ws : List V}, Rels K H fb ι ds vs → Rels K H fb ι es ws → Rels K H fb ι (ds ++ es) (vs ++ ws)
  | [], _, _, _, h, h2 => by have h : _ = [] := h; subst h; exact h2
  | d :: ds, _, _, _, h, h2 => by
    obtain ⟨y, ys, rfl, r, rs⟩ := h
    exact ⟨y, ys ++ _, rfl, r, Rels.append rs h2⟩
theorem Rels.take : ∀ {ds : List D} {vs : List V} (n : Nat), Rels K H fb ι ds vs → Rels K H fb ι (ds.take n) (vs.take n)
  | _, _, 0, _ => by simp [Rels]
  | [], _, n + 1, h => by have h : _ = [] := h; subst h; simp [Rels]
  | d :: ds, _, n + 1, h => by
    obtain ⟨y, ys, rfl, r, rs⟩ := h
    exact ⟨y, ys.take n, rfl, r, Rels.take n rs⟩
theorem Rels.drop : ∀ {ds : List D} {vs : List V} (n : Nat), Rels K H fb ι ds vs → Rels K H fb ι (ds.drop n) (vs.drop n)
  | _, _, 0, h => h
  | [], _, n + 1, h => by have h : _ = [] := h; subst h; simp [Rels]
  | d :: ds, _, n + 1, h => by
    obtain ⟨y, ys, rfl, r, rs⟩ := h
    exact Rels.drop n rs
theorem Rels.set : ∀ {ds : List D} {vs : List V} {d : D} {v : V} (n : Nat), Rels K H fb ι ds vs → Rel K H fb ι d v → Rels K H fb ι (ds.set n d) (vs.set n v)
  | [], _, _, _, n, h, _ => by have h : _ = [] := h; subst h; simp [Rels]
  | c :: ds, _, _, _, 0, h, h2 => by
    obtain ⟨y, ys, rfl, r, rs⟩ := h
    exact ⟨_, ys, rfl, h2, rs⟩
  | c :: ds, _, _, _, n + 1, h, h2 => by
    obtain ⟨y, ys, rfl, r, rs⟩ := h
    exact ⟨y, _, rfl, r, Rels.set n rs h2⟩
theorem Rels.one {d : D} {v : V} (h : Rel K H fb ι d v) : Rels K H fb ι [d] [v] := ⟨v, [], rfl, h, rfl⟩
theorem Rels.rep {ds : List D} {vs : List V} (h : Rels K H fb ι ds vs) : ∀ n : Nat, Rels K H fb ι (List.replicate n ds).flatten (List.replicate n vs).flatten
  | 0 => rfl
  | n + 1 => by
    rw [List.replicate_succ, List.replicate_succ, List.flatten_cons, List.flatten_cons]
    exact h.append (Rels.rep h n)
theorem Rels.of_fn : ∀ {ds : List D} {vs : List V}, ds.length = vs.length → (∀ (i : Nat) d v, ds[i]? = some d → vs[i]? = some v → Rel K H fb ι d v) → Rels K H fb ι ds vs
  | [], [], _, _ => rfl
  | [], _ :: _, e, _ => by simp at e
  | _ :: _, [], e, _ => by simp at e
  | d :: ds, v :: vs, e, h => ⟨v, vs, rfl, h 0 d v rfl rfl, Rels.of_fn (by simpa using e) fun i d v h1 h2 => h (i + 1) d v (by simpa using h1) (by simpa using h2)⟩
theorem RelO.mono0 {a : Addr} {o : Ob} (g : Grow0 ι H ι' H') (k : ∀ u, H a = some u → H' a = some u) (h : RelO K H fb ι a o) : RelO K H' fb ι' a o := by
  cases o with
  | lst l ds =>
    cases l with
    | false =>
      obtain ⟨xs, e, r⟩ := h
      exact ⟨xs, k _ e, Rels.mono0 g ds xs r⟩
    | true =>
      obtain ⟨od, xs, e, r⟩ := h
      exact ⟨od, xs, k _ e, Rels.mono0 g ds xs r⟩
  | dic l ks vs =>
    obtain ⟨u, d, q⟩ := h
    refine ⟨u, d.map fun ds xs _ r => Rels.mono0 g ds xs r, ?_⟩
    cases l with
    | false => exact k _ q
    | true => obtain ⟨od, q⟩ := q; exact ⟨od, k _ q⟩
theorem RelO.mono {a : Addr} {o : Ob} (g : Grow ι H ι' H') (ha : a ∉ ι ∨ H' a = H a) (h : RelO K H fb ι a o) : RelO K H' fb ι' a o :=
  RelO.mono0 g.toGrow0 (fun u e => by
    rcases ha with n | q
    · exact g.keep a u e n
    · rw [q, e]) h
theorem RelO.some {a : Addr} {o : Ob} (h : RelO K H fb ι a o) : ∃ u, H a = some u := by
  cases o with
  | lst l ds =>
    cases l with
    | false => obtain ⟨xs, e, r⟩ := h; exact ⟨_, e⟩
    | true => obtain ⟨od, xs, e, r⟩ := h; exact ⟨_, e⟩
  | dic l ks vs =>
    obtain ⟨u, d, q⟩ := h
    cases l with
    | false => exact ⟨_, q⟩
    | true => obtain ⟨od, q⟩ := q; exact ⟨_, q⟩
theorem RelS.live {a : Addr} (s : RelS K H fb ι st) (h : a ∈ ι) : ∃ u, H a = Option.some u := by
  obtain ⟨n, hn, e⟩ := List.getElem_of_mem h
  have hl : n < st.length := by rw [← s.len]; exact hn
  exact (s.at_ n st[n] a (by simp [hl]) (by simp [hn, e])).some
theorem RelS.fresh {p : Addr} (s : RelS K H fb ι st) (h : H p = Option.none) : p ∉ ι ∧ p ∉ fb := by
  refine ⟨fun m => ?_, fun m => s.fbs p m h⟩
  obtain ⟨u, e⟩ := s.live m
  rw [h] at e; cases e
/-- a new thing that is never changed -/
theorem Grow.laid {p : Addr} {o : HO} (h : H p = Option.none) : Grow ι H ι (upd H p o) := by
  have ne : ∀ a u, H a = Option.some u → a ≠ p := fun a u e z => by rw [z, h] at e; cases e
  exact ⟨⟨⟨[], by simp, by simp⟩, fun a u e _ => by rw [upd_ne (ne a u e)]; exact e⟩, fun a u e => ⟨u, by rw [upd_ne (ne a u e)]; exact e⟩, fun a o u e => by rw [upd_ne (ne a _ e)]; exact e⟩
theorem RelS.grow (s : RelS K H fb ι st) (g : Grow ι H ι H') (k : ∀ a ∈ ι, H' a = H a) : RelS K H' fb ι st :=
  ⟨s.len, s.nd, fun a m e => s.fbs a m (g.none e), s.dj, fun n o a h1 h2 => (s.at_ n o a h1 h2).mono g (.inr (k a (List.mem_of_getElem? h2)))⟩
theorem RelS.laid {p : Addr} {o : HO} (s : RelS K H fb ι st) (h : H p = Option.none) : RelS K (upd H p o) fb ι st :=
  s.grow (Grow.laid h) fun a m => upd_ne fun z => (s.fresh h).1 (z ▸ m)
/-- a new thing of the store -/
theorem Grow.alloc {p : Addr} {o : HO} (h : H p = Option.none) : Grow ι H (ι ++ [p]) (upd H p o) := by
  have g : Grow ι H ι (upd H p o) := Grow.laid h
  exact ⟨⟨⟨[p], rfl, fun a m => by simp at m; subst m; exact h⟩, g.keep⟩, g.live, g.frz⟩
theorem RelS.alloc {p : Addr} {o : HO} {ob : Ob} (s : RelS K H fb ι st) (h : H p = Option.none) (r : RelO K (upd H p o) fb (ι ++ [p]) p ob) : RelS K (upd H p o) fb (ι ++ [p]) (st ++ [ob]) := by
  have f := s.fresh h
  have g : Grow ι H (ι ++ [p]) (upd H p o) := Grow.alloc h
  refine ⟨by simp [s.len], ?_, fun a m e => s.fbs a m (g.none e), fun a m => ?_, fun n ob' a h1 h2 => ?_⟩
  · rw [List.nodup_append]
    refine ⟨s.nd, by simp, fun a ha b hb => ?_⟩
    simp at hb
    subst hb
    exact fun z => f.1 (z ▸ ha)
  · rcases List.mem_append.mp m with z | z
    · exact s.dj a z
    · simp at z; subst z; exact f.2
  · by_cases hn : n < st.length
    · rw [List.getElem?_append_left hn] at h1
      rw [List.getElem?_append_left (by rw [s.len]; exact hn)] at h2
      refine (s.at_ n ob' a h1 h2).mono g (.inr (upd_ne fun z => f.1 (z ▸ List.mem_of_getElem? h2)))
    · have e : n = st.length := by
        have := (List.getElem?_eq_some_iff.mp h1).1
        simp at this
        omega
      subst e
      rw [List.getElem?_append_right (Nat.le_refl _)] at h1
      rw [List.getElem?_append_right (by rw [s.len]; exact Nat.le_refl _)] at h2
      simp [s.len] at h1 h2
      subst h1 h2
      exact r
/-- a thing of the store is changed -/
theorem Grow.wr {a : Addr} {o u : HO} (m : a ∈ ι) (h : H a = Option.some u) (nf : ∀ o' u', u ≠ .frz o' u') : Grow ι H ι (upd H a o) := by
  refine ⟨⟨⟨[], by simp, by simp⟩, fun b w e n => ?_⟩, fun b w e => ?_, fun b o' u' e => ?_⟩
  · rw [upd_ne (fun z => n (by rw [z]; exact m))]; exact e
  · by_cases z : b = a
    · subst z; exact ⟨o, upd_same⟩
    · exact ⟨w, by rw [upd_ne z]; exact e⟩
  · by_cases z : b = a
    · subst z
      rw [h] at e; cases e
      exact absurd rfl (nf _ _)
    · rw [upd_ne z]; exact e
theorem RelS.wr0 {a : Addr} {o u : HO} {n : Nat} {ob : Ob} (s : RelS K H fb ι st) (hi : ι[n]? = Option.some a) (h : H a = Option.some u) (r : RelO K (upd H a o) fb ι a ob) : RelS K (upd H a o) fb ι (st.set n ob) := by
  have m : a ∈ ι := List.mem_of_getElem? hi
  have g : Grow0 ι H ι (upd H a o) := ⟨⟨[], by simp, by simp⟩, fun b w e n => by rw [upd_ne (fun z => n (by rw [z]; exact m))]; exact e⟩
  refine ⟨by simp [s.len], s.nd, fun b m e => s.fbs b m ?_, s.dj, fun k ob' b h1 h2 => ?_⟩
  · by_cases z : b = a
    · subst z; rw [upd_same] at e; cases e
    · rw [upd_ne z] at e; exact e
  · by_cases hk : k = n
    · subst hk
      rw [hi] at h2; cases h2
      have hl : k < st.length := by rw [← s.len]; exact (List.getElem?_eq_some_iff.mp hi).1
      rw [List.getElem?_set_self hl] at h1
      cases h1
      exact r
    · rw [List.getElem?_set_ne (Ne.symm hk)] at h1
      have hb : b ≠ a := fun z => by
        subst z
        obtain ⟨l1, e1⟩ := List.getElem?_eq_some_iff.mp h2
        obtain ⟨l2, e2⟩ := List.getElem?_eq_some_iff.mp hi
        exact hk ((List.getElem_inj s.nd).mp (e1.trans e2.symm))
      exact RelO.mono0 g (fun u e => by rw [upd_ne hb]; exact e) (s.at_ k ob' b h1 h2)
theorem RelS.wr {a : Addr} {o u : HO} {n : Nat} {ob : Ob} (s : RelS K H fb ι st) (hi : ι[n]? = Option.some a) (h : H a = Option.some u) (nf : ∀ o' u', u ≠ .frz o' u') (r : RelO K (upd H a o) fb ι a ob) : RelS K (upd H a o) fb ι (st.set n ob) := by
  have m : a ∈ ι := List.mem_of_getElem? hi
  have g : Grow ι H ι (upd H a o) := Grow.wr m h nf
  refine ⟨by simp [s.len], s.nd, fun a m e => s.fbs a m (g.none e), s.dj, fun k ob' b h1 h2 => ?_⟩
  by_cases hk : k = n
  · subst hk
    rw [hi] at h2; cases h2
    have hl : k < st.length := by rw [← s.len]; exact (List.getElem?_eq_some_iff.mp hi).1
    rw [List.getElem?_set_self hl] at h1
    cases h1
    exact r
  · rw [List.getElem?_set_ne (Ne.symm hk)] at h1
    have hb : b ≠ a := fun z => by
      subst z
      obtain ⟨l1, e1⟩ := List.getElem?_eq_some_iff.mp h2
      obtain ⟨l2, e2⟩ := List.getElem?_eq_some_iff.mp hi
      exact hk ((List.getElem_inj s.nd).mp (e1.trans e2.symm))
    exact (s.at_ k ob' b h1 h2).mono g (.inr (upd_ne hb))
end
end Wk

set_option maxRecDepth 100000
set_option maxHeartbeats 1000000
/-! Wk4: operations by values. -/
namespace Wk
open PySem PySem.Spec PyProof.Rows L2
variable [pw : PrW]

theorem fit_le {n : Nat} (h : fit n = true) : n ≤ sizeLine := Nat.le_of_ble_eq_true h

section
variable {K : PySem.W.Frag} {H H' : Hp} {fb ι ι' : List Addr} {st : Store}
mutual
theorem dp_of : ∀ (d : D) (v : V) (p : PyData), Rel K H fb ι d v → d.toP = some p → Dp K H v p
  | .non, v, p, h, e => by cases e; cases h; exact .non
  | .bl b, v, p, h, e => by cases e; cases h; exact .bl b
  | .int i, v, p, h, e => by cases e; cases h; exact .int i
  | .str x, v, p, h, e => by cases e; cases h; exact .str x
  | .tup ds, v, p, h, e => by
    obtain ⟨a, xs, rfl, q, n, m, r⟩ := h
    cases e2 : D.toPs ds with
    | none => rw [D.toP, e2] at e; cases e
    | some ps =>
      rw [D.toP, e2] at e; cases e
      exact .tup (SqT.of q) (dps_of ds xs ps r e2)
  | .lst ds, v, p, h, e => by
    obtain ⟨a, xs, rfl, q, n, m, r⟩ := h
    cases e2 : D.toPs ds with
    | none => rw [D.toP, e2] at e; cases e
    | some ps =>
      rw [D.toP, e2] at e; cases e
      exact .lst (SqL.of q) (dps_of ds xs ps r e2)
  | .dic ks vs, v, p, h, e => by cases e
  | .loc n, v, p, h, e => by cases e
  | .scr ns, v, p, h, e => by cases e
  | .exc c vs, v, p, h, e => by cases e
theorem dps_of : ∀ (ds : List D) (vs : List V) (ps : List PyData), Rels K H fb ι ds vs → D.toPs ds = some ps → DpAll K H vs ps
  | [], vs, ps, h, e => by cases e; have h : vs = [] := h; subst h; exact .nil
  | d :: ds, vs, ps, h, e => by
    obtain ⟨y, ys, rfl, r, rs⟩ := h
    cases e1 : D.toP d with
    | none => rw [D.toPs, e1] at e; cases e
    | some p =>
      cases e2 : D.toPs ds with
      | none => rw [D.toPs, e1, e2] at e; cases e
      | some qs =>
        rw [D.toPs, e1, e2] at e; cases e
        exact .cons (dp_of d y p r e1) (dps_of ds ys qs rs e2)
end
/-- a list by its items, to be read -/
theorem ls_of (S : RelS K H fb ι st) {d : D} {v : V} {ds : List D} (r : Rel K H fb ι d v) (e : lsOf st d = some ds) : ∃ a xs, v = .ref a ∧ SqL K H a xs ∧ Rels K H fb ι ds xs := by
  cases d with
  | lst es =>
    cases e
    obtain ⟨a, xs, rfl, q, n, m, r⟩ := r
    exact ⟨a, xs, rfl, SqL.of q, r⟩
  | loc n =>
    obtain ⟨a, rfl, hi⟩ := r
    unfold lsOf at e
    cases q : st[n]? with
    | none => simp only [q] at e; cases e
    | some o =>
      simp only [q] at e
      cases o with
      | dic l ks vs => cases e
      | lst l es =>
        cases e
        have ro := S.at_ n _ a q hi
        cases l with
        | false =>
          obtain ⟨xs, h1, h2⟩ := ro
          exact ⟨a, xs, rfl, SqL.of h1, h2⟩
        | true =>
          obtain ⟨od, xs, h1, h2⟩ := ro
          exact ⟨a, xs, rfl, .inl (.inr ⟨od, h1⟩), h2⟩
  | _ => cases e
/-- .. not walked -/
theorem lu_of (S : RelS K H fb ι st) {d : D} {v : V} {ds : List D} (r : Rel K H fb ι d v) (e : luOf st d = some ds) : ∃ a xs, v = .ref a ∧ H a = some (.lst xs) ∧ Rels K H fb ι ds xs := by
  cases d with
  | lst es =>
    cases e
    obtain ⟨a, xs, rfl, q, n, m, r⟩ := r
    exact ⟨a, xs, rfl, q, r⟩
  | loc n =>
    obtain ⟨a, rfl, hi⟩ := r
    unfold luOf at e
    cases q : st[n]? with
    | none => simp only [q] at e; cases e
    | some o =>
      simp only [q] at e
      cases o with
      | dic l ks vs => cases e
      | lst l es =>
        cases l with
        | true => cases e
        | false =>
          cases e
          obtain ⟨xs, h1, h2⟩ := S.at_ n _ a q hi
          exact ⟨a, xs, rfl, h1, h2⟩
  | _ => cases e
theorem tup_of {v : V} {ds : List D} (r : Rel K H fb ι (.tup ds) v) : ∃ a xs, v = .ref a ∧ SqT K H a xs ∧ Rels K H fb ι ds xs := by
  obtain ⟨a, xs, rfl, q, n, m, r⟩ := r
  exact ⟨a, xs, rfl, SqT.of q, r⟩
theorem sq_of (S : RelS K H fb ι st) {d : D} {v : V} {ds : List D} (r : Rel K H fb ι d v) (e : sqOf st d = some ds) : ∃ a xs, v = .ref a ∧ (SqL K H a xs ∨ SqT K H a xs) ∧ Rels K H fb ι ds xs := by
  cases d with
  | tup es =>
    cases e
    obtain ⟨a, xs, rfl, q, r⟩ := tup_of r
    exact ⟨a, xs, rfl, .inr q, r⟩
  | lst es => obtain ⟨a, xs, h1, h2, h3⟩ := ls_of S r (show lsOf st (.lst es) = some ds from e); exact ⟨a, xs, h1, .inl h2, h3⟩
  | loc n => obtain ⟨a, xs, h1, h2, h3⟩ := ls_of S r (show lsOf st (.loc n) = some ds from e); exact ⟨a, xs, h1, .inl h2, h3⟩
  | _ => cases e
theorem dp_rsv (S : RelS K H fb ι st) {d : D} {v : V} {p : PyData} (r : Rel K H fb ι d v) (e : (rsv st d).toP = some p) : Dp K H v p := by
  cases d with
  | loc n =>
    cases q : st[n]? with
    | none => simp only [rsv, q] at e; cases e
    | some o =>
      cases o with
      | dic l ks vs => simp only [rsv, q] at e; cases e
      | lst l es =>
        simp only [rsv, q] at e
        obtain ⟨a, xs, rfl, h1, h2⟩ := ls_of S r (show lsOf st (.loc n) = some es by simp only [lsOf, q])
        cases e2 : D.toPs es with
        | none => rw [D.toP, e2] at e; cases e
        | some ps =>
          rw [D.toP, e2] at e; cases e
          exact .lst h1 (dps_of es xs ps h2 e2)
  | _ => exact dp_of _ v p r e
/-- new things -/
theorem rel_tup {p : Addr} {ds : List D} {xs : List V} (S : RelS K H fb ι st) (h : H p = none) (r : Rels K H fb ι ds xs) : Rel K (upd H p (.tup xs)) fb ι (.tup ds) (.ref p) :=
  ⟨p, xs, rfl, upd_same, (S.fresh h).1, (S.fresh h).2, Rels.mono (Grow.laid h) ds xs r⟩
theorem rel_lst {p : Addr} {ds : List D} {xs : List V} (S : RelS K H fb ι st) (h : H p = none) (r : Rels K H fb ι ds xs) : Rel K (upd H p (.lst xs)) fb ι (.lst ds) (.ref p) :=
  ⟨p, xs, rfl, upd_same, (S.fresh h).1, (S.fresh h).2, Rels.mono (Grow.laid h) ds xs r⟩
/-- the empty tuple may be the other one -/
theorem ints_rel : ∀ {ds : List D} {xs : List V} {ns : List Int}, Rels K H fb ι ds xs → intsOf ds = some ns → xs = ns.map V.int
  | [], xs, ns, h, e => by cases e; exact h
  | .int i :: ds, xs, ns, h, e => by
    obtain ⟨y, ys, rfl, r, rs⟩ := h
    cases r
    cases e2 : intsOf ds with
    | none => rw [intsOf, e2] at e; cases e
    | some ms =>
      rw [intsOf, e2] at e; cases e
      rw [List.map_cons, ints_rel rs e2]
  | .non :: _, _, _, _, e => by cases e
  | .bl _ :: _, _, _, _, e => by cases e
  | .str _ :: _, _, _, _, e => by cases e
  | .tup _ :: _, _, _, _, e => by cases e
  | .lst _ :: _, _, _, _, e => by cases e
  | .dic _ _ :: _, _, _, _, e => by cases e
  | .loc _ :: _, _, _, _, e => by cases e
  | .scr _ :: _, _, _, _, e => by cases e
  | .exc _ _ :: _, _, _, _, e => by cases e
theorem bls_rel : ∀ {ds : List D} {xs : List V} {ns : List Bool}, Rels K H fb ι ds xs → blsOf ds = some ns → xs = ns.map V.bl
  | [], xs, ns, h, e => by cases e; exact h
  | .bl i :: ds, xs, ns, h, e => by
    obtain ⟨y, ys, rfl, r, rs⟩ := h
    cases r
    cases e2 : blsOf ds with
    | none => rw [blsOf, e2] at e; cases e
    | some ms =>
      rw [blsOf, e2] at e; cases e
      rw [List.map_cons, bls_rel rs e2]
  | .non :: _, _, _, _, e => by cases e
  | .int _ :: _, _, _, _, e => by cases e
  | .str _ :: _, _, _, _, e => by cases e
  | .tup _ :: _, _, _, _, e => by cases e
  | .lst _ :: _, _, _, _, e => by cases e
  | .dic _ _ :: _, _, _, _, e => by cases e
  | .loc _ :: _, _, _, _, e => by cases e
  | .scr _ :: _, _, _, _, e => by cases e
  | .exc _ _ :: _, _, _, _, e => by cases e
end

/-- what a pure operation is to yield -/
def Yl (K : PySem.W.Frag) (fb ι : List Addr) (st : Store) (d : D) (Q : VK) (H : Hp) : Prop := ∀ ι' H', Grow ι H ι' H' → RelS K H' fb ι' st → ∀ v, Rel K H' fb ι' d v → Q v H'
def rBin (K : PySem.W.Frag) (F : D → D → Store → Option D) : R2 := fun x y H Q => ∃ fb ι st dx dy d, RelS K H fb ι st ∧ Rel K H fb ι dx x ∧ Rel K H fb ι dy y ∧ F dx dy st = some d ∧ Yl K fb ι st d Q H
section
variable {K : PySem.W.Frag} {H H' : Hp} {fb ι : List Addr} {st : Store} {d : D} {Q : VK} {ds : List D} {xs : List V}
theorem Yl.same (y : Yl K fb ι st d Q H) (S : RelS K H fb ι st) {v : V} (r : Rel K H fb ι d v) : Q v H := y ι H Grow.refl S v r
theorem Yl.tup (y : Yl K fb ι st (.tup ds) Q H) (S : RelS K H fb ι st) (r : Rels K H fb ι ds xs) {p : Addr} (h : H p = none) : Q (.ref p) (upd H p (.tup xs)) :=
  y ι _ (Grow.laid h) (S.laid h) _ (rel_tup S h r)
theorem Yl.lst (y : Yl K fb ι st (.lst ds) Q H) (S : RelS K H fb ι st) (r : Rels K H fb ι ds xs) {p : Addr} (h : H p = none) : Q (.ref p) (upd H p (.lst xs)) :=
  y ι _ (Grow.laid h) (S.laid h) _ (rel_lst S h r)
end
section
variable {X : Cx}
theorem log2_lt_64 {i : Nat} (h : i < 2 ^ 64) : i < 2 ^ 64 := h
theorem op_repS : OpR X (binaryOp .Mult) (fun x y H Q => ∃ (a : Str) (k : Int), x = .str a ∧ y = .int k ∧ 2 ≤ k ∧ k ≤ 1000 ∧ a.length ≤ 1000 ∧ 1 ≤ a.length ∧ (repS a k.toNat).length ≤ sizeLine ∧ Q (.str (repS a k.toNat)) H) := by
  intro pins s σ H x y v u Q I rx ry h
  obtain ⟨a, k, rfl, rfl, h2, h3, h4, h5, h6, q⟩ := h
  obtain ⟨t, rfl⟩ := rx
  obtain ⟨t', rfl⟩ := ry
  have hone : (k == 1 || a.length == 0) = false := by
    rw [Bool.or_eq_false_iff]
    exact ⟨by rw [beq_eq_false_iff_ne]; omega, by rw [beq_eq_false_iff_ne]; omega⟩
  refine P.mul_str ?_ (fun _ _ z => ?_) (fun _ _ => ?_) ?_
  · rw [Bool.or_eq_false_iff]
    exact ⟨decide_eq_false (by omega), decide_eq_false (by omega)⟩
  · have : (1000 : Int) ≤ (2 ^ 63 - 1) / k := by
      rw [Int.le_ediv_iff_mul_le (by omega)]
      omega
    omega
  · unfold Builtin.Str.tooLong
    have : a.length * k.toNat ≤ 1000 * 1000 := Nat.mul_le_mul h4 (by omega)
    have h7 : sizeLine = 2 ^ 24 := rfl
    exact decide_eq_false (by rw [h7]; omega)
  · rw [if_neg (by omega), hone, if_neg Bool.false_ne_true]
    exact ⟨h6, .str (repS a k.toNat), H, I.tok _, ⟨_, rfl⟩, q⟩
theorem op_bin {o : Operator} : OpR X (binaryOp o) (rBin X.K (binD o)) := by
  intro pins s σ H x y v u Q I rx ry h
  obtain ⟨fb, ι, st, dx, dy, d, S, hx, hy, e, q⟩ := h
  unfold binD at e
  split at e
  · cases e; cases hx; cases hy
    exact op_add pins s σ H _ _ v u Q I rx ry ⟨_, _, rfl, rfl, q.same S rfl⟩
  · cases e; cases hx; cases hy
    exact op_sub pins s σ H _ _ v u Q I rx ry ⟨_, _, rfl, rfl, q.same S rfl⟩
  · split at e
    · rename_i hc
      cases e; cases hx; cases hy
      exact op_mulW pins s σ H _ _ v u Q I rx ry ⟨_, _, rfl, rfl, Nat.le_of_ble_eq_true hc, q.same S rfl⟩
    · cases e
  · split at e
    · rename_i hc
      simp only [Bool.and_eq_true, decide_eq_true_eq] at hc
      cases e; cases hx; cases hy
      exact op_fdivW pins s σ H _ _ v u Q I rx ry ⟨_, _, rfl, rfl, ⟨hc.1, Nat.le_of_ble_eq_true hc.2⟩, q.same S rfl⟩
    · cases e
  · split at e
    · rename_i hc
      simp only [decide_eq_true_eq] at hc
      cases e; cases hx; cases hy
      exact op_mod pins s σ H _ _ v u Q I rx ry ⟨_, _, rfl, rfl, hc, q.same S rfl⟩
    · cases e
  · split at e
    · rename_i hc
      simp only [Bool.and_eq_true, decide_eq_true_eq] at hc
      cases e; cases hx; cases hy
      exact op_pow pins s σ H _ _ v u Q I rx ry ⟨_, _, rfl, rfl, ⟨hc.1.1, hc.1.2, Nat.le_of_ble_eq_true hc.2⟩, q.same S rfl⟩
    · cases e
  · split at e
    · rename_i hc
      cases e; cases hx; cases hy
      exact op_add_str pins s σ H _ _ v u Q I rx ry ⟨_, _, rfl, rfl, fit_le hc, q.same S rfl⟩
    · cases e
  · split at e
    · rename_i hc
      cases e
      obtain ⟨a, xs, rfl, ha, ra⟩ := tup_of hx
      obtain ⟨b, ys, rfl, hb, rb⟩ := tup_of hy
      refine op_catA pins s σ H _ _ v u Q I rx ry ⟨a, b, xs, ys, rfl, rfl, ha, hb, ?_, fun z => ?_, fun _ z => ?_, fun _ _ p hp => q.tup S (ra.append rb) hp⟩
      · rw [← ra.length, ← rb.length]; exact fit_le hc
      · subst z
        have e0 := ra.length
        rename_i dxs dys
        have e1 : dxs = [] := List.length_eq_zero_iff.mp (by simpa using e0)
        subst e1
        exact q.same S hy
      · subst z
        have e0 := rb.length
        rename_i dys _
        have e1 : dys = [] := List.length_eq_zero_iff.mp (by simpa using e0)
        subst e1
        rw [List.append_nil] at q
        exact q.same S hx
    · cases e
  · split at e
    · rename_i hc
      simp only [Bool.and_eq_true, decide_eq_true_eq, Bool.not_eq_true'] at hc
      cases e; cases hy
      obtain ⟨a, xs, rfl, ha, ra⟩ := tup_of hx
      refine op_repT pins s σ H _ _ v u Q I rx ry ⟨a, _, xs, rfl, rfl, ha, fun z => ?_, hc.1.1.2, hc.1.2, by rw [← ra.length]; exact Nat.le_of_ble_eq_true hc.2, fun p hp => q.tup S (ra.rep _) hp⟩
      subst z
      have e0 := ra.length
      have hn := hc.1.1.1
      rename_i dxs k
      have e1 : dxs = [] := List.length_eq_zero_iff.mp (by simpa using e0)
      subst e1
      cases hn
    · cases e
  · split at e
    · rename_i hc
      simp only [Bool.and_eq_true, decide_eq_true_eq] at hc
      cases e; cases hx; cases hy
      exact op_repS pins s σ H _ _ v u Q I rx ry ⟨_, _, rfl, rfl, hc.1.1.1.1, hc.1.1.1.2, Nat.le_of_ble_eq_true hc.1.1.2, Nat.le_of_ble_eq_true hc.1.2, fit_le hc.2, q.same S rfl⟩
    · cases e
  · split at e
    · split at e
      · rename_i dxs dys h1 h2 hc
        cases e
        obtain ⟨a, xs, rfl, ha, ra⟩ := lu_of S hx h1
        obtain ⟨b, ys, rfl, hb, rb⟩ := lu_of S hy h2
        exact op_cat pins s σ H _ _ v u Q I rx ry ⟨a, b, xs, ys, rfl, rfl, ha, hb, by rw [← ra.length, ← rb.length]; exact fit_le hc, fun p hp => q.lst S (ra.append rb) hp⟩
      · cases e
    · cases e
  · split at e
    · split at e
      · rename_i dxs h1 hc
        simp only [Bool.and_eq_true, decide_eq_true_eq] at hc
        cases e; cases hy
        obtain ⟨a, xs, rfl, ha, ra⟩ := lu_of S hx h1
        exact op_rep pins s σ H _ _ v u Q I rx ry ⟨a, _, xs, rfl, rfl, ha, by omega, by omega, by rw [← ra.length]; exact fit_le hc.2, fun p hp => q.lst S (ra.rep _) hp⟩
      · cases e
    · cases e
  · cases e
/-- a comparison -/
theorem eq_dat {st : Store} {dx dy : D} {b : Bool} (e : eqD st dx dy = some b) : ∃ p q, (rsv st dx).toP = some p ∧ (rsv st dy).toP = some q ∧ p.canLay0 = true ∧ q.canLay0 = true ∧ min p.depth q.depth ≤ most ∧ b = PyData.eqv p q := by
  unfold eqD at e
  split at e
  · rename_i p q h1 h2
    split at e
    · rename_i hc
      simp only [Bool.and_eq_true] at hc
      cases e
      exact ⟨p, q, h1, h2, hc.1.1, hc.1.2, Nat.le_of_ble_eq_true hc.2, rfl⟩
    · cases e
  · cases e
theorem rel_flat {K : PySem.W.Frag} {H : Hp} {fb ι : List Addr} {d : D} {v : V} (r : Rel K H fb ι d v) : (d = .non ↔ v = .non) := by
  cases d with
  | non => exact ⟨fun _ => r, fun _ => rfl⟩
  | bl b => cases r; exact ⟨(fun z => nomatch z), (fun z => nomatch z)⟩
  | int b => cases r; exact ⟨(fun z => nomatch z), (fun z => nomatch z)⟩
  | str b => cases r; exact ⟨(fun z => nomatch z), (fun z => nomatch z)⟩
  | tup ds => obtain ⟨a, xs, rfl, _⟩ := r; exact ⟨(fun z => nomatch z), (fun z => nomatch z)⟩
  | lst ds => obtain ⟨a, xs, rfl, _⟩ := r; exact ⟨(fun z => nomatch z), (fun z => nomatch z)⟩
  | dic ks vs => obtain ⟨a, rfl, _⟩ := r; exact ⟨(fun z => nomatch z), (fun z => nomatch z)⟩
  | loc n => obtain ⟨a, rfl, _⟩ := r; exact ⟨(fun z => nomatch z), (fun z => nomatch z)⟩
  | scr n => obtain ⟨a, rfl, _⟩ := r; exact ⟨(fun z => nomatch z), (fun z => nomatch z)⟩
  | exc c vs => obtain ⟨_, a, C, rfl, _⟩ := r; exact ⟨(fun z => nomatch z), (fun z => nomatch z)⟩
def rCmp (K : PySem.W.Frag) (o : CmpOp) : R2 := rBin K fun x y st => (cmpD o x y st).map .bl
theorem op_eqW (hu : X.A.units + 200 < cLine) {pins : List (Addr × Obj)} {s : Shared} {σ : L2.St} {H : Hp} {x y : V} {v u : Value} {Q : VK} {p q : PyData} (I : L2.Inv X pins σ H s) (rx : L2.RelV x v) (ry : L2.RelV y u) (hp : Dp X.K H x p) (hq : Dp X.K H y q)
    (c1 : p.canLay0 = true) (c2 : q.canLay0 = true) (hm : min p.depth q.depth ≤ most) (h : Q (.bl (PyData.eqv p q)) H) : wpAny (model X.prog X.w) X.A (compareOp .Eq v u) (EP X pins σ Q) X.xe s := by
  obtain ⟨as, r1⟩ := Dp.reads I p x v hp rx
  obtain ⟨bs, r2⟩ := Dp.reads I q y u hq ry
  exact SeqAt.compareEq_reads r1 r2 c1 c2 (by unfold most at hm; omega) ⟨.bl _, H, I, rfl, h⟩
theorem op_neW (hu : X.A.units + 200 < cLine) {pins : List (Addr × Obj)} {s : Shared} {σ : L2.St} {H : Hp} {x y : V} {v u : Value} {Q : VK} {p q : PyData} (I : L2.Inv X pins σ H s) (rx : L2.RelV x v) (ry : L2.RelV y u) (hp : Dp X.K H x p) (hq : Dp X.K H y q)
    (c1 : p.canLay0 = true) (c2 : q.canLay0 = true) (hm : min p.depth q.depth ≤ most) (h : Q (.bl (!PyData.eqv p q)) H) : wpAny (model X.prog X.w) X.A (compareOp .NotEq v u) (EP X pins σ Q) X.xe s := by
  obtain ⟨as, r1⟩ := Dp.reads I p x v hp rx
  obtain ⟨bs, r2⟩ := Dp.reads I q y u hq ry
  exact SeqAt.compareNe_reads r1 r2 c1 c2 (by unfold most at hm; omega) ⟨.bl _, H, I, rfl, h⟩
theorem sign_of {a : Str} (h : (a.length == 1) = true) : a = ⟨#[a.cps.getD 0 0]⟩ := by
  obtain ⟨⟨l⟩⟩ := a
  have h : (l.length == 1) = true := h
  match l, h with
  | [c], _ => rfl
theorem op_cmp {o : CmpOp} (hu : X.A.units + 200 < cLine) (ho : o ≠ .In) (ho2 : o ≠ .NotIn) : OpR X (compareOp o) (rCmp X.K o) := by
  intro pins s σ H x y v u Q I rx ry h
  obtain ⟨fb, ι, st, dx, dy, d, S, hx, hy, e, q⟩ := h
  have e : Option.map D.bl (cmpD o dx dy st) = some d := e
  cases ec : cmpD o dx dy st with
  | none => rw [ec] at e; cases e
  | some b =>
    rw [ec] at e; cases e
    have q : Q (.bl b) H := q.same S rfl
    cases o with
    | Eq =>
      obtain ⟨p, p', e1, e2, c1, c2, hm, rfl⟩ := eq_dat (show eqD st dx dy = some b from ec)
      exact op_eqW hu I rx ry (dp_rsv S hx e1) (dp_rsv S hy e2) c1 c2 hm q
    | NotEq =>
      cases e3 : eqD st dx dy with
      | none => simp only [cmpD, e3] at ec; cases ec
      | some b' =>
        simp only [cmpD, e3] at ec; cases ec
        obtain ⟨p, p', e1, e2, c1, c2, hm, rfl⟩ := eq_dat e3
        exact op_neW hu I rx ry (dp_rsv S hx e1) (dp_rsv S hy e2) c1 c2 hm q
    | Lt =>
      unfold cmpD ltD at ec
      simp only at ec
      split at ec
      · cases ec; cases hx; cases hy
        exact op_lt pins s σ H _ _ v u Q I rx ry ⟨_, _, rfl, rfl, q⟩
      · cases ec; cases hx; cases hy
        exact op_lt_str pins s σ H _ _ v u Q I rx ry ⟨_, _, rfl, rfl, q⟩
      · split at ec
        · rename_i ns ms h1 h2
          cases ec
          obtain ⟨a, xs, rfl, ha, ra⟩ := tup_of hx
          obtain ⟨b, ys, rfl, hb, rb⟩ := tup_of hy
          have e1 := ints_rel ra h1
          have e2 := ints_rel rb h2
          subst e1 e2
          exact op_ltT (by omega) pins s σ H _ _ v u Q I rx ry ⟨a, b, ns, ms, rfl, rfl, ha, hb, q⟩
        · cases ec
      · cases ec
    | Gt =>
      unfold cmpD at ec
      simp only at ec
      split at ec
      · cases ec; cases hx; cases hy
        exact op_gt pins s σ H _ _ v u Q I rx ry ⟨_, _, rfl, rfl, q⟩
      · cases ec
    | LtE =>
      unfold cmpD at ec
      simp only at ec
      split at ec
      · cases ec; cases hx; cases hy
        exact op_le pins s σ H _ _ v u Q I rx ry ⟨_, _, rfl, rfl, q⟩
      · cases ec
    | GtE =>
      unfold cmpD at ec
      simp only at ec
      split at ec
      · cases ec; cases hx; cases hy
        exact op_ge pins s σ H _ _ v u Q I rx ry ⟨_, _, rfl, rfl, q⟩
      · cases ec
    | Is =>
      unfold cmpD at ec
      simp only at ec
      split at ec
      · cases ec; cases hx; cases hy
        exact op_isBl pins s σ H _ _ v u Q I rx ry ⟨_, _, rfl, rfl, by rw [Bool.beq_eq_decide_eq] at q; exact q⟩
      · cases ec; cases hx; cases hy
        exact op_isN pins s σ H _ _ v u Q I rx ry ⟨rfl, by simpa using q⟩
      all_goals first
        | (cases ec; cases hy
           have ne := mt (rel_flat hx).mpr (by intro z; cases z)
           exact op_isN pins s σ H _ _ v u Q I rx ry ⟨rfl, by simpa [ne] using q⟩)
        | cases ec
    | IsNot =>
      unfold cmpD at ec
      simp only at ec
      split at ec
      · cases ec; cases hx; cases hy
        exact op_notBl pins s σ H _ _ v u Q I rx ry ⟨_, _, rfl, rfl, by rw [Bool.beq_eq_decide_eq] at q; exact q⟩
      · cases ec; cases hx; cases hy
        exact op_notN pins s σ H _ _ v u Q I rx ry ⟨rfl, by simpa using q⟩
      all_goals first
        | (cases ec; cases hy
           have ne := mt (rel_flat hx).mpr (by intro z; cases z)
           exact op_notN pins s σ H _ _ v u Q I rx ry ⟨rfl, by simpa [ne] using q⟩)
        | cases ec
    | In => exact absurd rfl ho
    | NotIn => exact absurd rfl ho2
end
end Wk

set_option maxRecDepth 100000
set_option maxHeartbeats 1000000
/-! WkD: dicts by values. -/
namespace Wk
open PySem PySem.Spec PyProof.Rows L2
variable [pw : PrW]

section
variable {K : PySem.W.Frag} {H : Hp} {fb ι : List Addr} {st : Store} {P : Program} {w : World} {h : Heap}
mutual
theorem nest_of (ok : HOk P w H h) : ∀ (d : D) (v : V) (u : Value) (k : NestedKey), Rel K H fb ι d v → L2.RelV v u → d.toN = some k → NestedIs h k u
  | .non, v, u, k, r, ru, e => by cases e; cases r; cases ru; exact .none
  | .bl b, v, u, k, r, ru, e => by cases e; cases r; cases ru; exact .bool rfl
  | .int i, v, u, k, r, ru, e => by cases e; cases r; obtain ⟨t, rfl⟩ := ru; exact .int i t
  | .str x, v, u, k, r, ru, e => by cases e; cases r; obtain ⟨t, rfl⟩ := ru; exact .text x t
  | .tup ds, v, u, k, r, ru, e => by
    obtain ⟨a, xs, rfl, q, _, _, rs⟩ := r
    cases ru
    have e : (D.toNs ds).map NestedKey.tup = some k := e
    cases z : D.toNs ds with
    | none => rw [z] at e; cases e
    | some ks =>
      rw [z] at e; cases e
      obtain ⟨_, its, rv, o, h1, h2, n, h3⟩ := (show ObjOk P w H h a (.tup xs) from ok a _ q)
      exact .tup h1 h2 h3 (nests_of ok ds xs its ks rs rv z)
  | .lst ds, v, u, k, r, ru, e => by cases e
  | .dic ks vs, v, u, k, r, ru, e => by cases e
  | .loc n, v, u, k, r, ru, e => by cases e
  | .scr ns, v, u, k, r, ru, e => by cases e
  | .exc c vs, v, u, k, r, ru, e => by cases e
theorem nests_of (ok : HOk P w H h) : ∀ (ds : List D) (vs : List V) (us : List Value) (ks : List NestedKey), Rels K H fb ι ds vs → Vals vs us → D.toNs ds = some ks → NestedAll h ks us
  | [], vs, us, ks, r, ru, e => by cases e; have r : vs = [] := r; subst r; cases ru; exact .nil
  | d :: ds, vs, us, ks, r, ru, e => by
    obtain ⟨y, ys, rfl, r1, r2⟩ := r
    have e : ((D.toN d).bind fun y => (D.toNs ds).map fun ys => y :: ys) = some ks := e
    cases z : D.toN d with
    | none => rw [z] at e; cases e
    | some k1 =>
      rw [z] at e
      cases z2 : D.toNs ds with
      | none => rw [z2] at e; cases e
      | some k2 =>
        rw [z2] at e; cases e
        cases ru with
        | cons ru1 ru2 => exact .cons (nest_of ok d y _ k1 r1 ru1 z) (nests_of ok ds ys _ k2 r2 ru2 z2)
end
theorem key_a {d : D} {k : L2.Key} (e : d.toDK = some (.a k)) : d = kD k := by
  cases d with
  | int i => cases e; rfl
  | str x => cases e; rfl
  | tup ds =>
    have e : ((D.toNs ds).bind fun ks => if Nat.ble (NestedKey.tup ks).depth 8 then some (DK.t (.tup ks)) else none) = some (.a k) := e
    cases z : D.toNs ds with
    | none => rw [z] at e; cases e
    | some ks => rw [z, Option.bind_some] at e; split at e <;> cases e
  | _ => cases e
theorem toDK_kD {k : L2.Key} : (kD k).toDK = some (.a k) := by cases k <;> rfl
theorem key_av {d : D} {k : L2.Key} {v : V} (e : d.toDK = some (.a k)) (r : Rel K H fb ι d v) : v = kV k := by
  rw [key_a e] at r
  cases k <;> exact r
theorem key_t {d : D} {k : NestedKey} {v : V} {u : Value} (ok : HOk P w H h) (e : d.toDK = some (.t k)) (r : Rel K H fb ι d v) (ru : L2.RelV v u) : ∃ b, v = .ref b ∧ u = .ref b ∧ (nestedKind P w).is h k b := by
  cases d with
  | tup ds =>
    have r0 := r
    obtain ⟨b, xs, rfl, q, _, _, rs⟩ := r
    have e : ((D.toNs ds).bind fun ks => if Nat.ble (NestedKey.tup ks).depth 8 then some (DK.t (.tup ks)) else none) = some (.t k) := e
    cases z : D.toNs ds with
    | none => rw [z] at e; cases e
    | some ks =>
      rw [z, Option.bind_some] at e
      split at e
      · rename_i hd
        cases e
        cases ru
        exact ⟨b, rfl, rfl, nest_of ok (.tup ds) _ _ _ r0 rfl (by show (D.toNs ds).map _ = _; rw [z]; rfl), Nat.le_of_ble_eq_true hd⟩
      · cases e
  | int i => cases e
  | str x => cases e
  | _ => cases e
/-! ### look-ups -/
theorem kIx_len : ∀ {ks : List D} {k : DK} {i : Nat}, kIx ks k = some i → i < ks.length
  | [], _, _, e => by cases e
  | d :: ds, k, i, e => by
    unfold kIx at e
    split at e
    · cases e; simp
    · cases q : kIx ds k with
      | none => rw [q] at e; cases e
      | some j => rw [q] at e; cases e; have := kIx_len q; simp; omega
theorem dget_some {ks vs : List D} {k : DK} (hl : ks.length = vs.length) : (dget ks vs k).isSome = (kIx ks k).isSome := by
  unfold dget
  cases q : kIx ks k with
  | none => rfl
  | some i =>
    have := kIx_len q
    simp [show i < vs.length by omega]
theorem rel_A {k : L2.Key} : ∀ {kvs : List (L2.Key × V)} {vs : List D}, Rels K H fb ι vs (kvs.map (·.2)) → (∀ d, dget (kvs.map fun kv => kD kv.1) vs (.a k) = some d → ∃ v, valV kvs k = some v ∧ Rel K H fb ι d v) ∧ (dget (kvs.map fun kv => kD kv.1) vs (.a k) = none → valV kvs k = none)
  | [], vs, r => ⟨fun d e => (by cases e), fun _ => rfl⟩
  | (q, x) :: kvs, vs, r => by
    cases vs with
    | nil => have r := r; exact absurd (show (x :: kvs.map (·.2)) = [] from r) (by simp)
    | cons d0 ds =>
      obtain ⟨y, ys, e0, r1, r2⟩ := r
      cases e0
      have ih := rel_A (k := k) r2
      by_cases hq : q = k
      · subst hq
        have e1 : dget (((q, x) :: kvs).map fun kv => kD kv.1) (d0 :: ds) (.a q) = some d0 := by
          unfold dget; rw [List.map_cons, kIx, if_pos toDK_kD]; rfl
        have e2 : valV ((q, x) :: kvs) q = some x := by simp [valV]
        exact ⟨fun d e => by rw [e1] at e; cases e; exact ⟨x, e2, r1⟩, fun e => by rw [e1] at e; cases e⟩
      · have e1 : dget (((q, x) :: kvs).map fun kv => kD kv.1) (d0 :: ds) (.a k) = dget (kvs.map fun kv => kD kv.1) ds (.a k) := by
          unfold dget
          rw [List.map_cons, kIx, if_neg (by rw [toDK_kD]; intro z; cases z; exact hq rfl)]
          cases kIx (kvs.map fun kv => kD kv.1) (.a k) <;> rfl
        have e2 : valV ((q, x) :: kvs) k = valV kvs k := by simp [valV, List.find?_cons, hq]
        rw [e1, e2]
        exact ih
theorem rel_T {k : NestedKey} : ∀ {xs : List (NestedKey × Addr × Value)} {ks vs : List D} {ws : List V}, ks.map D.toDK = xs.map (fun x => some (DK.t x.1)) → Vals ws (xs.map (·.2.2)) → Rels K H fb ι vs ws →
    (∀ d, dget ks vs (.t k) = some d → ∃ v p, atKey xs k = some p ∧ L2.RelV v p.2 ∧ Rel K H fb ι d v) ∧ (dget ks vs (.t k) = none → atKey xs k = none)
  | [], ks, vs, ws, e, r, q => by
    have : ks = [] := by simpa using e
    subst this
    exact ⟨fun d e => (by cases e), fun _ => rfl⟩
  | x :: xs, [], vs, ws, e, r, q => by simp at e
  | x :: xs, k0 :: ks, vs, ws, e, r, q => by
    rw [List.map_cons, List.map_cons] at e
    obtain ⟨e0, e⟩ := List.cons.inj e
    rw [List.map_cons] at r
    cases r with
    | @cons w0 u0 ws us rw0 rws =>
      cases vs with
      | nil => exact absurd (show w0 :: ws = [] from q) (by simp)
      | cons d0 ds =>
        obtain ⟨y, ys, ey, r1, r2⟩ := q
        cases ey
        have ih := rel_T (k := k) e rws r2
        by_cases hq : x.1 = k
        · have e1 : dget (k0 :: ks) (d0 :: ds) (.t k) = some d0 := by
            unfold dget; rw [kIx, if_pos (by rw [e0, hq])]; rfl
          have e2 : atKey (x :: xs) k = some x.2 := by simp [atKey, hq]
          exact ⟨fun d e => by rw [e1] at e; cases e; exact ⟨w0, x.2, e2, rw0, r1⟩, fun e => by rw [e1] at e; cases e⟩
        · have e1 : dget (k0 :: ks) (d0 :: ds) (.t k) = dget ks ds (.t k) := by
            unfold dget
            rw [kIx, if_neg (by rw [e0]; intro z; cases z; exact hq rfl)]
            cases kIx ks (.t k) <;> rfl
          have e2 : atKey (x :: xs) k = atKey xs k := by simp [atKey, List.find?_cons, hq]
          rw [e1, e2]
          exact ih
/-! ### both kinds -/
theorem dn_of {a : Addr} {xs : List (NestedKey × Addr × Value)} (h1 : ObjOk pw.P pw.w H h a (dnHO a xs)) (hk : ∀ x ∈ xs, (nestedKind pw.P pw.w).is h x.1 x.2.1) : xs.length ≤ sizeLine ∧ (a == sysModules) = false ∧ h.DictOfH (nestedKind pw.P pw.w) a xs := by
  obtain ⟨⟨z, y, o, es, ep, e1, e2, e3, e4, e5⟩, _, _⟩ := h1
  exact ⟨z, y, o, es, ep, e1, e2, e3, e4, hk, e5⟩
theorem dn_ok {a : Addr} {xs : List (NestedKey × Addr × Value)} (z : xs.length ≤ sizeLine) (y : (a == sysModules) = false) (d : h.DictOfH (nestedKind pw.P pw.w) a xs) : ObjOk pw.P pw.w H h a (dnHO a xs) := by
  obtain ⟨o, es, ep, e1, e2, e3, e4, _, e5⟩ := d
  refine ⟨⟨z, y, o, es, ep, e1, e2, e3, e4, e5⟩, ⟨o, e1⟩, fun h1 h2 p k => ?_⟩
  obtain ⟨z, y, o, es, ep, e1, r⟩ := p
  exact ⟨z, y, o, es, ep, k _ e1, r⟩
theorem is_all (ok : HOk pw.P pw.w H h) : ∀ {xs : List (NestedKey × Addr × Value)} {ks : List D}, ks.map D.toDK = xs.map (fun x => some (DK.t x.1)) → Rels K H fb ι ks (xs.map fun x => V.ref x.2.1) → ∀ x ∈ xs, (nestedKind pw.P pw.w).is h x.1 x.2.1
  | [], _, _, _, x, hx => nomatch hx
  | x0 :: xs, [], e, _, _, _ => by simp at e
  | x0 :: xs, k0 :: ks, e, r, x, hx => by
    rw [List.map_cons, List.map_cons] at e
    obtain ⟨e0, e⟩ := List.cons.inj e
    obtain ⟨y, ys, ey, r1, r2⟩ := r
    rw [List.map_cons] at ey
    obtain ⟨rfl, rfl⟩ := List.cons.inj ey
    rcases List.mem_cons.mp hx with z | z
    · subst z
      obtain ⟨b, e1, e2, q⟩ := key_t ok e0 r1 rfl
      cases e1
      exact q
    · exact is_all ok e r2 x z
/-- an empty dict is one of either kind -/
theorem nil_T {a : Addr} (h1 : ObjOk pw.P pw.w H h a (.dK [])) : (a == sysModules) = false ∧ h.DictOfH (nestedKind pw.P pw.w) a [] := by
  obtain ⟨_, y, vs, kv, o, es, ep, e1, e2, e3, _, e5, _⟩ := h1
  cases kv
  have : es.toList = [] := List.length_eq_zero_iff.mp e5.length
  exact ⟨y, o, es, ep, e1, e2, e3, by simpa using this, (fun x hx => nomatch hx), List.nodup_nil⟩
theorem nil_A {a : Addr} (h1 : ObjOk pw.P pw.w H h a (dnHO a [])) : ObjOk pw.P pw.w H h a (.dK []) := by
  obtain ⟨⟨z, y, o, es, ep, e1, e2, e3, e4, e5⟩, _, _⟩ := h1
  have e4 : es.toList = [] := by simpa using e4
  refine ⟨Nat.zero_le _, y, [], .nil, o, es, ep, e1, e2, e3, fun e he => ?_, by rw [e4]; exact .nil, List.nodup_nil⟩
  have := Array.mem_toList_iff.mpr he
  rw [e4] at this; cases this
/-- the dict at a, for a key of kind A -/
inductive View (K : PySem.W.Frag) (H : Hp) (fb ι : List Addr) (h : Heap) (a : Addr) (ks vs : List D) : DK → Prop
  | a (k : L2.Key) (kvs : List (L2.Key × V)) : ObjOk pw.P pw.w H h a (.dK kvs) → ks = kvs.map (fun kv => kD kv.1) → Rels K H fb ι vs (kvs.map (·.2)) → View K H fb ι h a ks vs (.a k)
  | t (k : NestedKey) (xs : List (NestedKey × Addr × Value)) (ws : List V) : xs.length ≤ sizeLine → (a == sysModules) = false → h.DictOfH (nestedKind pw.P pw.w) a xs → ks.map D.toDK = xs.map (fun x => some (DK.t x.1)) → Vals ws (xs.map (·.2.2)) → Rels K H fb ι ks (xs.map fun x => V.ref x.2.1) → Rels K H fb ι vs ws → View K H fb ι h a ks vs (.t k)
theorem view_of (ok : HOk pw.P pw.w H h) {a : Addr} {u : HO} {ks vs : List D} {k : DK} (rd : Rd H a u) (d : DicU K H fb ι u a ks vs) (fl : flOk ks k = true) : View K H fb ι h a ks vs k := by
  have x := rd.ok ok
  rcases d with ⟨kvs, rfl, hk, r⟩ | ⟨xs, ws, rfl, hk, hv, r1, r2⟩
  · cases k with
    | a k => exact .a k kvs x hk r
    | t k =>
      cases kvs with
      | nil =>
        subst hk
        obtain ⟨y, dd⟩ := nil_T x
        have r : vs = [] := by cases vs with | nil => rfl | cons d ds => obtain ⟨_, _, e, _⟩ := r; cases e
        subst r
        exact .t k [] [] (Nat.zero_le _) y dd rfl .nil rfl rfl
      | cons kv kvs =>
        subst hk
        simp [flOk, toDK_kD, DK.fl] at fl
  · obtain ⟨hk, hne⟩ := hk
    cases k with
    | t k =>
      obtain ⟨z, y, dd⟩ := dn_of x (is_all ok hk r1)
      exact .t k xs ws z y dd hk hv r1 r2
    | a k =>
      cases xs with
      | nil =>
        have : ks = [] := by simpa using hk
        subst this
        cases hv
        exact .a k [] (nil_A x) rfl r2
      | cons x0 xs =>
        cases ks with
        | nil => simp at hk
        | cons k0 ks =>
          rw [List.map_cons, List.map_cons] at hk
          have := (List.cons.inj hk).1
          simp [flOk, this, DK.fl] at fl
theorem Rels.len2 {ks vs : List D} {u : HO} {a : Addr} (d : DicU K H fb ι u a ks vs) : ks.length = vs.length := by
  rcases d with ⟨kvs, rfl, hk, r⟩ | ⟨xs, ws, rfl, hk, hv, r1, r2⟩
  · rw [hk, r.length]; simp
  · have h1 := r1.length
    have h2 := r2.length
    have h3 := hv.length
    simp at h1 h3
    omega
end
/-! ### stores -/
section
variable {K : PySem.W.Frag} {H : Hp} {fb ι : List Addr}
theorem putK_cons {q : L2.Key} {x v : V} {kvs : List (L2.Key × V)} {k : L2.Key} (hq : q ≠ k) : putK ((q, x) :: kvs) k v = (q, x) :: putK kvs k v := by
  unfold putK
  simp only [List.any_cons, hq, decide_false, Bool.false_or, List.map_cons, if_false]
  split <;> rfl
theorem putK_head {x v : V} {kvs : List (L2.Key × V)} {k : L2.Key} (hn : k ∉ kvs.map (·.1)) : putK ((k, x) :: kvs) k v = (k, v) :: kvs := by
  unfold putK
  simp only [List.any_cons, decide_true, Bool.true_or, if_true, List.map_cons]
  congr 1
  have : ∀ l : List (L2.Key × V), k ∉ l.map (·.1) → (l.map fun kv => if kv.1 = k then (kv.1, v) else kv) = l := by
    intro l
    induction l with
    | nil => intro _; rfl
    | cons y l ih =>
      intro h
      rw [List.map_cons, List.mem_cons, not_or] at h
      rw [List.map_cons, if_neg (fun e => h.1 e.symm), ih h.2]
  exact this kvs hn
theorem dput_cons {d0 c0 kd dv : D} {ks vs : List D} {k : DK} (h : d0.toDK ≠ some k) : dput (d0 :: ks) (c0 :: vs) kd k dv = (d0 :: (dput ks vs kd k dv).1, c0 :: (dput ks vs kd k dv).2) := by
  unfold dput
  rw [kIx, if_neg h]
  cases kIx ks k <;> rfl
theorem put_A {k : L2.Key} {dv : D} {v : V} (rv : Rel K H fb ι dv v) : ∀ {kvs : List (L2.Key × V)} {vs : List D}, (kvs.map (·.1)).Nodup → Rels K H fb ι vs (kvs.map (·.2)) →
    (dput (kvs.map fun kv => kD kv.1) vs (kD k) (.a k) dv).1 = (putK kvs k v).map (fun kv => kD kv.1) ∧ Rels K H fb ι (dput (kvs.map fun kv => kD kv.1) vs (kD k) (.a k) dv).2 ((putK kvs k v).map (·.2))
  | [], vs, _, r => by
    have r : vs = [] := by cases vs with | nil => rfl | cons d ds => obtain ⟨_, _, e, _⟩ := r; cases e
    subst r
    exact ⟨rfl, v, [], rfl, rv, rfl⟩
  | (q, x) :: kvs, [], _, r => by exact absurd (show (x :: kvs.map (·.2)) = [] from r) (by simp)
  | (q, x) :: kvs, d0 :: ds, hn, r => by
    obtain ⟨y, ys, e0, r1, r2⟩ := r
    cases e0
    rw [List.map_cons, List.nodup_cons] at hn
    by_cases hq : q = k
    · subst hq
      rw [putK_head hn.1]
      have e1 : dput (((q, x) :: kvs).map fun kv => kD kv.1) (d0 :: ds) (kD q) (.a q) dv = (((q, x) :: kvs).map fun kv => kD kv.1, dv :: ds) := by
        unfold dput; rw [List.map_cons, kIx, if_pos toDK_kD]; rfl
      rw [e1]
      exact ⟨rfl, v, _, rfl, rv, r2⟩
    · rw [putK_cons hq, List.map_cons, dput_cons (by rw [toDK_kD]; intro z; cases z; exact hq rfl)]
      obtain ⟨h1, h2⟩ := put_A (k := k) rv hn.2 r2
      exact ⟨by rw [List.map_cons, h1], _, _, rfl, r1, h2⟩
theorem storedH_cons {x0 : NestedKey × Addr × Value} {xs : List (NestedKey × Addr × Value)} {k : NestedKey} {b : Addr} {r : Value} (hq : x0.1 ≠ k) : storedH (x0 :: xs) k b r = x0 :: storedH xs k b r := by
  have e : atKey (x0 :: xs) k = atKey xs k := by simp [atKey, List.find?_cons, hq]
  unfold storedH
  rw [e]
  split
  · rw [List.map_cons, putAt, if_neg hq]
  · rfl
theorem stored_ne {xs : List (NestedKey × Addr × Value)} {k : NestedKey} {b : Addr} {r : Value} : storedH xs k b r ≠ [] := by
  unfold storedH
  split
  · rename_i h
    intro z
    have : xs = [] := List.map_eq_nil_iff.mp z
    subst this
    simp [atKey] at h
  · simp
theorem put_T {k : NestedKey} {kd dv : D} {b : Addr} {v : V} {r : Value} (hk : kd.toDK = some (.t k)) (rk : Rel K H fb ι kd (.ref b)) (rv : Rel K H fb ι dv v) (ru : L2.RelV v r) : ∀ {xs : List (NestedKey × Addr × Value)} {ks vs : List D} {ws : List V}, (xs.map (·.1)).Nodup → ks.map D.toDK = xs.map (fun x => some (DK.t x.1)) → Vals ws (xs.map (·.2.2)) →
    Rels K H fb ι ks (xs.map fun x => V.ref x.2.1) → Rels K H fb ι vs ws → (dput ks vs kd (.t k) dv).1.map D.toDK = (storedH xs k b r).map (fun x => some (DK.t x.1)) ∧ Rels K H fb ι (dput ks vs kd (.t k) dv).1 ((storedH xs k b r).map fun x => V.ref x.2.1) ∧
      ∃ ws', Vals ws' ((storedH xs k b r).map (·.2.2)) ∧ Rels K H fb ι (dput ks vs kd (.t k) dv).2 ws'
  | [], ks, vs, ws, _, e, hw, r1, r2 => by
    have : ks = [] := by simpa using e
    subst this
    cases hw
    have r2 : vs = [] := by cases vs with | nil => rfl | cons d ds => obtain ⟨_, _, e, _⟩ := r2; cases e
    subst r2
    exact ⟨by simp [dput, kIx, storedH, atKey, hk], ⟨_, [], rfl, rk, rfl⟩, [v], .cons ru .nil, ⟨_, [], rfl, rv, rfl⟩⟩
  | x0 :: xs, [], vs, ws, _, e, _, _, _ => by simp at e
  | x0 :: xs, k0 :: ks, vs, ws, hn, e, hw, r1, r2 => by
    rw [List.map_cons, List.map_cons] at e
    obtain ⟨e0, e⟩ := List.cons.inj e
    rw [List.map_cons] at hw
    rw [List.map_cons, List.nodup_cons] at hn
    cases hw with
    | @cons w0 u0 ws us rw0 rws =>
      cases vs with
      | nil => exact absurd (show w0 :: ws = [] from r2) (by simp)
      | cons d0 ds =>
        obtain ⟨y, ys, ey, q1, q2⟩ := r2
        cases ey
        obtain ⟨y, ys, ey, p1, p2⟩ := r1
        rw [List.map_cons] at ey
        obtain ⟨rfl, rfl⟩ := List.cons.inj ey
        by_cases hq : x0.1 = k
        · have e1 : dput (k0 :: ks) (d0 :: ds) kd (.t k) dv = (k0 :: ks, dv :: ds) := by
            unfold dput; rw [kIx, if_pos (by rw [e0, hq])]; rfl
          have e2 : storedH (x0 :: xs) k b r = (x0.1, x0.2.1, r) :: xs := by
            have : atKey (x0 :: xs) k = some x0.2 := by simp [atKey, hq]
            rw [storedH_old this, List.map_cons, map_putAt_of_not_mem xs k r (by rw [← hq]; exact hn.1), putAt, if_pos hq]
          rw [e1, e2]
          exact ⟨by rw [List.map_cons, List.map_cons, e0, e], ⟨_, _, rfl, p1, p2⟩, v :: ws, .cons ru rws, ⟨_, _, rfl, rv, q2⟩⟩
        · obtain ⟨h1, h2, ws', h3, h4⟩ := put_T hk rk rv ru hn.2 e rws p2 q2
          rw [storedH_cons hq, dput_cons (by rw [e0]; intro z; cases z; exact hq rfl)]
          exact ⟨by rw [List.map_cons, List.map_cons, e0, h1], ⟨_, _, rfl, p1, h2⟩, w0 :: ws', .cons rw0 h3, ⟨_, _, rfl, q1, h4⟩⟩
end
/-! ### operations -/
section
variable {X : Cx} {fb ι : List Addr} {st : Store} {pins : List (Addr × Obj)} {σ : L2.St} {H : Hp} {s : Shared} {E : Value → Shared → Prop} {A : Around}
theorem hok_of (hX : X.prog = pw.P ∧ X.w = pw.w ∧ X.mg = pw.mg) (I : L2.Inv X pins σ H s) : HOk pw.P pw.w H s.heap := by
  have := I.hok
  rw [hX.1, hX.2.1] at this
  exact this
/-- d[y], there -/
theorem d_get {Q : Value → Shared → Prop} (hX : X.prog = pw.P ∧ X.w = pw.w ∧ X.mg = pw.mg) (hu : A.units + 100 < cLine) (I : L2.Inv X pins σ H s) {a : Addr} {u : HO} {ks vs : List D} {kd dv : D} {k : DK} {ky : V} {uk : Value} (rd : Rd H a u) (d : DicU X.K H fb ι u a ks vs) (fl : flOk ks k = true) (hk : kd.toDK = some k) (rk : Rel X.K H fb ι kd ky) (ru : L2.RelV ky uk) (hv : dget ks vs k = some dv)
    (h : ∀ v w' s', L2.Inv X pins σ H s' → Rel X.K H fb ι dv v → L2.RelV v w' → Q w' s') : wpAny (model X.prog X.w) A (getItem (.ref a) uk) Q E s := by
  have ok := hok_of hX I
  cases view_of ok rd d fl with
  | a k kvs x e r =>
    obtain ⟨z, hd, us, rel, dd⟩ := x
    cases key_av hk rk
    subst e
    obtain ⟨v, h1, h2⟩ := (rel_A (k := k) r).1 dv hv
    obtain ⟨w', hw, rw'⟩ := RelO.some_of (v := v) (o := valueAt us k) (by rw [← h1]; exact rel.val k)
    rw [← hX.1, ← hX.2.1] at dd
    exact wpAny_getItem_of (kV_is ru) dd.mapOf hw (h v w' _ (I.tok _) h2 rw')
  | t k xs ws z y dd e hw r1 r2 =>
    obtain ⟨b, rfl, rfl, hkey⟩ := key_t ok hk rk ru
    obtain ⟨v, p, h1, h2, h3⟩ := (rel_T (k := k) e hw r2).1 dv hv
    rw [hX.1, hX.2.1]
    refine wpAny_getItem_heap (knd := nestedKind pw.P pw.w) (by show A.in1.units + 8 < cLine; simp only [Around.in1]; omega) hkey dd h1 (h v p.2 _ (I.tok _) h3 h2)
/-- y in d -/
theorem d_has {Q : Value → Shared → Prop} {o : CmpOp} (ho : o = .In ∨ o = .NotIn) (hX : X.prog = pw.P ∧ X.w = pw.w ∧ X.mg = pw.mg) (hu : A.units + 100 < cLine) (I : L2.Inv X pins σ H s) {a : Addr} {u : HO} {ks vs : List D} {kd : D} {k : DK} {ky : V} {uk : Value} (rd : Rd H a u) (d : DicU X.K H fb ι u a ks vs) (fl : flOk ks k = true) (hk : kd.toDK = some k) (rk : Rel X.K H fb ι kd ky) (ru : L2.RelV ky uk)
    (h : ∀ s', L2.Inv X pins σ H s' → Q (.bool (if o = .In then (dget ks vs k).isSome else !(dget ks vs k).isSome)) s') : wpAny (model X.prog X.w) A (compareOp o uk (.ref a)) Q E s := by
  have ok := hok_of hX I
  cases view_of ok rd d fl with
  | a k kvs x e r =>
    obtain ⟨z, hd, us, rel, dd⟩ := x
    cases key_av hk rk
    subst e
    have key : (dget (kvs.map fun kv => kD kv.1) vs (.a k)).isSome = (valueAt us k).isSome := by
      rw [← (rel.val k).isSome_eq]
      obtain ⟨q1, q2⟩ := rel_A (k := k) r
      cases q : dget (kvs.map fun kv => kD kv.1) vs (.a k) with
      | none => rw [q2 q]; rfl
      | some dv => obtain ⟨v, h1, _⟩ := q1 dv q; rw [h1]; rfl
    rw [key] at h
    rw [← hX.1, ← hX.2.1] at dd
    rcases ho with rfl | rfl
    · exact wpAny_in_of (kV_is ru) hd dd.mapOf (h _ (I.tok _))
    · exact wpAny_notIn_of (kV_is ru) hd dd.mapOf (h _ (I.tok _))
  | t k xs ws z y dd e hw r1 r2 =>
    obtain ⟨b, rfl, rfl, hkey⟩ := key_t ok hk rk ru
    have key : (dget ks vs (.t k)).isSome = (atKey xs k).isSome := by
      obtain ⟨q1, q2⟩ := rel_T (k := k) e hw r2
      cases q : dget ks vs (.t k) with
      | none => rw [q2 q]; rfl
      | some dv => obtain ⟨v, p, h1, _⟩ := q1 dv q; rw [h1]; rfl
    rw [key] at h
    rw [hX.1, hX.2.1]
    rcases ho with rfl | rfl
    · exact wpAny_in_heap (knd := nestedKind pw.P pw.w) (by show A.in1.units + 8 < cLine; simp only [Around.in1]; omega) hkey y dd (h _ (I.tok _))
    · exact wpAny_notIn_heap (knd := nestedKind pw.P pw.w) (by show A.in1.units + 8 < cLine; simp only [Around.in1]; omega) hkey y dd (h _ (I.tok _))
/-- what d[y] = v leaves -/
def Put (X : Cx) (pins : List (Addr × Obj)) (σ : L2.St) (H : Hp) (fb ι : List Addr) (a : Addr) (ks vs : List D) (kd : D) (k : DK) (dv : D) (Q : Hp → Shared → Prop) : Prop :=
  ∀ u' s', DicU X.K H fb ι u' a (dput ks vs kd k dv).1 (dput ks vs kd k dv).2 → L2.Inv X pins σ (upd H a u') s' → Q (upd H a u') s'
theorem dput_le {ks vs : List D} {kd dv : D} {k : DK} : (dput ks vs kd k dv).1.length ≤ ks.length + 1 := by
  unfold dput; split <;> simp
theorem nodup_kv {P : Program} {w : World} {h : Heap} {a : Addr} {kvs : List (L2.Key × V)} {us : List (L2.Key × Value)} (rel : KV kvs us) (dd : h.DictOf (mixKind P w) a us) : (kvs.map (·.1)).Nodup := by
  obtain ⟨o, es, ep, _, _, _, _, hp, hn⟩ := dd
  clear hp
  have : kvs.map (·.1) = us.map (·.1) := by
    unfold KV at rel
    clear hn
    induction rel with
    | nil => rfl
    | cons h t ih => rw [List.map_cons, List.map_cons, h.1, ih]
  rw [this]; exact hn
theorem d_new {P : Program} {w : World} {H' : Hp} {h : Heap} {a : Addr} {kvs : List (L2.Key × V)} (x : ObjOk P w H' h a (.dK kvs)) : kvs.length ≤ sizeLine := x.1
theorem d_put {Q : Unit → Shared → Prop} (hX : X.prog = pw.P ∧ X.w = pw.w ∧ X.mg = pw.mg) (hu : A.units + 100 < cLine) (I : L2.Inv X pins σ H s) {a : Addr} {u : HO} {ks vs : List D} {kd dv : D} {k : DK} {ky v : V} {uk r : Value} (rd : H a = some u) (d : DicU X.K H fb ι u a ks vs) (fl : flOk ks k = true) (hk : kd.toDK = some k) (rk : Rel X.K H fb ι kd ky) (ru : L2.RelV ky uk) (rv : Rel X.K H fb ι dv v) (rr : L2.RelV v r) (hz : ks.length < sizeLine)
    (h : Put X pins σ H fb ι a ks vs kd k dv fun _ s' => Q () s') : wpAny (model X.prog X.w) A (setItem (.ref a) uk r) Q E s := by
  have ok := hok_of hX I
  have mu : Mut (H a) := by rw [rd]; exact d.mut
  cases view_of ok (.inl rd) d fl with
  | a k kvs x e rs =>
    obtain ⟨z, hd, us, rel, dd⟩ := x
    cases key_av hk rk
    subst e
    have hn := nodup_kv rel dd
    obtain ⟨p1, p2⟩ := put_A (k := k) rv hn rs
    have hl : (putK kvs k v).length ≤ sizeLine := by have := length_putK kvs k v; simp at hz; omega
    rw [← hX.1, ← hX.2.1] at dd
    refine wpAny_setItem_pairs (hsz := by rw [← rel.length]; exact z) (kV_is ru) dd fun h' dd' hs => ?_
    have he : ∃ q, h'.get? a = some q := let ⟨q, _, _, hq, _⟩ := dd'; ⟨q, hq⟩
    rw [key_a hk] at h
    exact h (.dK (putK kvs k v)) _ (.inl ⟨_, rfl, p1, p2⟩) (d_write I mu hs he (dk_new hl hd (rel.put k rr) dd'))
  | t k xs ws z y dd e hw r1 r2 =>
    obtain ⟨b, rfl, rfl, hkey⟩ := key_t ok hk rk ru
    have hn : (xs.map (·.1)).Nodup := by obtain ⟨_, _, _, _, _, _, _, _, hn⟩ := dd; exact hn
    obtain ⟨p1, p2, ws', p3, p4⟩ := put_T (b := b) (r := r) hk rk rv rr hn e hw r1 r2
    have hl : (storedH xs k b r).length ≤ sizeLine := by
      have e1 := congrArg List.length p1
      have e2 := congrArg List.length e
      have := dput_le (ks := ks) (vs := vs) (kd := kd) (dv := dv) (k := .t k)
      simp at e1 e2
      omega
    rw [hX.1, hX.2.1]
    refine wpAny_setItem_heap (knd := nestedKind pw.P pw.w) (hsz := z) (by show A.in1.units + 8 < cLine; simp only [Around.in1]; omega) hkey dd fun h' dd' hs => ?_
    have he : ∃ q, h'.get? a = some q := let ⟨q, _, _, hq, _⟩ := dd'; ⟨q, hq⟩
    refine h (dnHO a (storedH xs k b r)) _ (.inr ⟨_, ws', rfl, ⟨p1, stored_ne⟩, p3, p2, p4⟩) (d_write I mu hs he ?_)
    rw [hX.1, hX.2.1]
    exact dn_ok hl y dd'
/-- .. as a display, a comprehension puts it -/
theorem d_dset {Q : Unit → Shared → Prop} (hX : X.prog = pw.P ∧ X.w = pw.w ∧ X.mg = pw.mg) (hu : A.units + 100 < cLine) (I : L2.Inv X pins σ H s) {a : Addr} {u : HO} {ks vs : List D} {kd dv : D} {k : DK} {ky v : V} {uk r : Value} (rd : H a = some u) (d : DicU X.K H fb ι u a ks vs) (fl : flOk ks k = true) (hk : kd.toDK = some k) (rk : Rel X.K H fb ι kd ky) (ru : L2.RelV ky uk) (rv : Rel X.K H fb ι dv v) (rr : L2.RelV v r) (hz : ks.length < sizeLine)
    (h : Put X pins σ H fb ι a ks vs kd k dv fun _ s' => Q () s') : wpAny (model X.prog X.w) A (dictSet a uk r) Q E s := by
  have ok := hok_of hX I
  have mu : Mut (H a) := by rw [rd]; exact d.mut
  cases view_of ok (.inl rd) d fl with
  | a k kvs x e rs =>
    obtain ⟨z, hd, us, rel, dd⟩ := x
    cases key_av hk rk
    subst e
    have hn := nodup_kv rel dd
    obtain ⟨p1, p2⟩ := put_A (k := k) rv hn rs
    have hl : (putK kvs k v).length ≤ sizeLine := by have := length_putK kvs k v; simp at hz; omega
    rw [← hX.1, ← hX.2.1] at dd
    refine wpAny_dictSet_pairs (hsz := by rw [← rel.length]; exact z) (kV_is ru) dd fun h' dd' hs => ?_
    have he : ∃ q, h'.get? a = some q := let ⟨q, _, _, hq, _⟩ := dd'; ⟨q, hq⟩
    rw [key_a hk] at h
    exact h (.dK (putK kvs k v)) _ (.inl ⟨_, rfl, p1, p2⟩) (d_write I mu hs he (dk_new hl hd (rel.put k rr) dd'))
  | t k xs ws z y dd e hw r1 r2 =>
    obtain ⟨b, rfl, rfl, hkey⟩ := key_t ok hk rk ru
    have hn : (xs.map (·.1)).Nodup := by obtain ⟨_, _, _, _, _, _, _, _, hn⟩ := dd; exact hn
    obtain ⟨p1, p2, ws', p3, p4⟩ := put_T (b := b) (r := r) hk rk rv rr hn e hw r1 r2
    have hl : (storedH xs k b r).length ≤ sizeLine := by
      have e1 := congrArg List.length p1
      have e2 := congrArg List.length e
      have := dput_le (ks := ks) (vs := vs) (kd := kd) (dv := dv) (k := .t k)
      simp at e1 e2
      omega
    rw [hX.1, hX.2.1]
    refine wpAny_dictSet_heap (knd := nestedKind pw.P pw.w) (hsz := z) (by show A.units + 8 < cLine; omega) hkey dd fun h' dd' hs => ?_
    have he : ∃ q, h'.get? a = some q := let ⟨q, _, _, hq, _⟩ := dd'; ⟨q, hq⟩
    refine h (dnHO a (storedH xs k b r)) _ (.inr ⟨_, ws', rfl, ⟨p1, stored_ne⟩, p3, p2, p4⟩) (d_write I mu hs he ?_)
    rw [hX.1, hX.2.1]
    exact dn_ok hl y dd'
end
end Wk

set_option maxRecDepth 100000
set_option maxHeartbeats 1000000
/-! Wk5: subscripts, slices, built-ins, methods, loops' sources by values. -/
namespace Wk
open PySem PySem.Spec PyProof.Rows L2
variable [pw : PrW]

section
variable {K : PySem.W.Frag} {H H' : Hp} {fb ι ι' : List Addr} {st : Store}
theorem atI_rel {ds : List D} {xs : List V} {i : Int} {d : D} (r : Rels K H fb ι ds xs) (e : atI ds i = some d) : ∃ v, atI xs i = some v ∧ Rel K H fb ι d v := by
  unfold atI at e ⊢
  rw [r.length] at e
  cases q : ixN xs.length i with
  | none => rw [q] at e; cases e
  | some j =>
    rw [q] at e
    exact r.get e
theorem atI_map {α β : Type} {f : α → β} {xs : List α} {i : Int} : atI (xs.map f) i = (atI xs i).map f := by
  unfold atI
  rw [List.length_map]
  cases ixN xs.length i with
  | none => rfl
  | some j => simp
theorem cut_rel {ds : List D} {xs : List V} (r : Rels K H fb ι ds xs) (lo hi : Option Int) : Rels K H fb ι (cutD ds lo hi) (cutV xs lo hi) := by
  unfold cutD cutV
  rw [r.length]
  exact (r.drop _).take _
theorem scr_rel {ns : List Int} : ∀ H : Hp, Rels K H fb ι (ns.map D.int) (ns.map V.int) := by
  intro H
  induction ns with
  | nil => rfl
  | cons n r ih => exact ⟨_, _, rfl, rfl, ih⟩
theorem scr_sql {ns : List Int} {v : V} (r : Rel K H fb ι (.scr ns) v) : ∃ a, v = .ref a ∧ SqL K H a (ns.map V.int) := by
  obtain ⟨a, rfl, ⟨o, q, _⟩ | q⟩ := r
  · exact ⟨a, rfl, .inl (.inr ⟨o, q⟩)⟩
  · exact ⟨a, rfl, q H⟩
end
section
variable {X : Cx}
/-- a dict by its keys, values, to be read -/
theorem dc_of {K : PySem.W.Frag} {H : Hp} {fb ι : List Addr} {st : Store} (S : RelS K H fb ι st) {d : D} {v : V} {p : List D × List D} (r : Rel K H fb ι d v) (e : dcOf st d = some p) : ∃ a u, v = .ref a ∧ Rd H a u ∧ DicU K H fb ι u a p.1 p.2 := by
  cases d with
  | dic ks vs =>
    cases e
    obtain ⟨a, u, rfl, h, d, _, _⟩ := dic_rel r
    exact ⟨a, u, rfl, .inl h, d⟩
  | loc n =>
    obtain ⟨a, rfl, hi⟩ := r
    unfold dcOf at e
    cases q : st[n]? with
    | none => simp only [q] at e; cases e
    | some o =>
      simp only [q] at e
      cases o with
      | lst l es => cases e
      | dic l ks vs =>
        cases e
        obtain ⟨u, d, ro⟩ := S.at_ n _ a q hi
        cases l with
        | false => exact ⟨a, u, rfl, .inl ro, d⟩
        | true => obtain ⟨od, ro⟩ := ro; exact ⟨a, u, rfl, .inr ⟨od, ro⟩, d⟩
  | _ => cases e
theorem dc_type {K : PySem.W.Frag} {fb ι : List Addr} (hX : X.prog = pw.P ∧ X.w = pw.w ∧ X.mg = pw.mg) {pins : List (Addr × Obj)} {σ : L2.St} {H : Hp} {s : Shared} (I : L2.Inv X pins σ H s) {a : Addr} {u : HO} {ks vs : List D} (rd : Rd H a u) (d : DicU K H fb ι u a ks vs) :
    (a == sysModules) = false ∧ ∃ o es ep, s.heap.get? a = some o ∧ o.ExactDict ∧ o.data = .dict es ep ∧ es.size = ks.length ∧ es.size ≤ sizeLine := by
  have ok := hok_of hX I
  have x := rd.ok ok
  rcases d with ⟨kvs, rfl, hk, r⟩ | ⟨xs, ws, rfl, hk, hv, r1, r2⟩
  · obtain ⟨z, hd, us, rel, o, es, ep, e1, e2, e3, e4, e5, _⟩ := x
    have l1 := e5.length
    have l2 := rel.length
    simp at l1
    exact ⟨hd, o, es, ep, e1, e2, e3, by rw [hk]; simp; omega, by omega⟩
  · obtain ⟨⟨z, y, o, es, ep, e1, e2, e3, e4, _⟩, _, _⟩ := x
    have l1 := congrArg List.length e4
    have l2 := congrArg List.length hk.1
    simp at l1 l2
    exact ⟨y, o, es, ep, e1, e2, e3, by omega, by omega⟩
theorem tail_dict {prog : Program} {w : World} {A : Around} {E : Value → Shared → Prop} {s : Shared} {value slice : Expr} {a : Addr} {u : Value} {Q : Value → Shared → Prop} (hT : s.TypeIs (.ref a) "dict") (hs : subscripted slice false (.ref a) u = operate [.ref a, u] (getItem (.ref a) u))
    (h : wpAny (model prog w) A (getItem (.ref a) u) Q E s) : wpAny (model prog w) A (subscriptTail value slice (.ref a) u) Q E s := by
  have fin : wpAny (model prog w) A (subscripted slice false (.ref a) u) (fun r s' => wpAny (model prog w) A (letTemporaryGo value (.ref a) r >>= fun _ => pure r) Q E s') E s := by
    rw [hs]; exact wpAny_operating (wpAny_mono h (fun r s' h' => wpAny_bind (wpAny_letTemporaryGo (wpAny_pure h'))) fun _ _ z => z)
  unfold subscriptTail; refine wpAny_bind ?_
  rw [getitemInPython_of_ne hT.not_modules]; refine wpAny_bind (wpAny_specialOf hT PySem.F.slot_dict_getitem.lookup ?_)
  first | exact wpAny_pure (wpAny_bind fin) | exact wpAny_bind (wpAny_pure (wpAny_bind fin)) | exact wpAny_bind fin
theorem find_of {st : Store} {x y : D} {o : Option D} (e : dfind st x y = some o) : ∃ p k, dcOf st x = some p ∧ y.toDK = some k ∧ flOk p.1 k = true ∧ o = dget p.1 p.2 k := by
  unfold dfind at e
  cases q : dcOf st x with
  | none => rw [q] at e; cases e
  | some p =>
    rw [q, Option.bind_some] at e
    cases z : y.toDK with
    | none => rw [z] at e; cases e
    | some k =>
      rw [z, Option.bind_some] at e
      split at e
      · rename_i hf; cases e; exact ⟨p, k, rfl, rfl, hf, rfl⟩
      · cases e
theorem ix_dict (hX : X.prog = pw.P ∧ X.w = pw.w ∧ X.mg = pw.mg) (hu : X.A.units + 200 < cLine) {value slice : Expr} {pins : List (Addr × Obj)} {s : Shared} {σ : L2.St} {H : Hp} {x y : V} {v u : Value} {Q : VK} {fb ι : List Addr} {st : Store} {dx dy d : D} (I : L2.Inv X pins σ H s) (rx : L2.RelV x v) (ry : L2.RelV y u) (S : RelS X.K H fb ι st) (hx : Rel X.K H fb ι dx x) (hy : Rel X.K H fb ι dy y)
    (e : (dfind st dx dy).join = some d) (q : Yl X.K fb ι st d Q H) (hs : subscripted slice false v u = operate [v, u] (getItem v u)) : wpAny (model X.prog X.w) X.A (subscriptTail value slice v u) (EP X pins σ Q) X.xe s := by
  cases z : dfind st dx dy with
  | none => rw [z] at e; cases e
  | some o =>
    rw [z] at e
    have e : o = some d := e
    obtain ⟨p, k, h1, h2, h3, h4⟩ := find_of z
    rw [e] at h4
    obtain ⟨a, w, rfl, rd, dd⟩ := dc_of S hx h1
    cases rx
    obtain ⟨_, o, es, ep, e1, e2, _⟩ := dc_type hX I rd dd
    exact tail_dict ⟨o, e1, e2.1⟩ hs (d_get hX (by omega) I rd dd h3 h2 hy ry h4.symm fun v w' s' I' rv rw' => ⟨v, H, I', rw', q.same S rv⟩)
theorem ix_dat (hX : X.prog = pw.P ∧ X.w = pw.w ∧ X.mg = pw.mg) (hu : X.A.units + 200 < cLine) : IxR X (rBin X.K fun x y st => ixD st x y) := by
  intro value slice pins s σ H x y v u Q I rx ry h hp
  obtain ⟨fb, ι, st, dx, dy, d, S, hx, hy, e, q⟩ := h
  replace e : ixD st dx dy = some d := e
  have seq : ∀ {k : Int}, (sqOf st dx).bind (fun xs => atI xs k) = some d → dy = .int k → wpAny (model X.prog X.w) X.A (subscriptTail value slice v u) (EP X pins σ Q) X.xe s := fun {k} e0 hd => by
    subst hd
    cases hy
    cases e2 : sqOf st dx with
    | none => rw [e2] at e0; cases e0
    | some ds =>
      rw [e2] at e0
      have e : atI ds k = some d := e0
      obtain ⟨a, xs, rfl, hs, r⟩ := sq_of S hx e2
      obtain ⟨w, hw, rw'⟩ := atI_rel r e
      rcases hs with hs | hs
      · exact ix_list value slice pins s σ H _ _ v u Q I rx ry ⟨a, xs, k, w, rfl, rfl, hs, hw, q.same S rw'⟩ hp
      · exact ix_tup value slice pins s σ H _ _ v u Q I rx ry ⟨a, xs, k, w, rfl, rfl, hs, hw, q.same S rw'⟩ hp
  unfold ixD at e
  split at e
  · rename_i ns k
    cases hy
    obtain ⟨a, rfl, hs⟩ := scr_sql hx
    cases e2 : atI ns k with
    | none => rw [e2] at e; cases e
    | some n =>
      rw [e2] at e; cases e
      exact ix_list value slice pins s σ H _ _ v u Q I rx ry ⟨a, _, k, .int n, rfl, rfl, hs, by rw [atI_map, e2]; rfl, q.same S rfl⟩ hp
  · exact ix_dict hX hu I rx ry S hx hy e q hp
  · split at e
    · exact ix_dict hX hu I rx ry S hx hy e q hp
    · split at e
      · exact seq e rfl
      · cases e
  · exact seq e rfl
  · cases e
/-- slices -/
def rCut (K : PySem.W.Frag) : V → Option Int → Option Int → Hp → VK → Prop := fun x lo hi H Q => ∃ fb ι st dx d, RelS K H fb ι st ∧ Rel K H fb ι dx x ∧
  sliceD st dx lo hi = some d ∧ Yl K fb ι st d Q H
theorem cut_whole {ds : List D} {lo hi : Option Int} (h : HT.sIx ds.length 0 lo = 0 ∧ HT.sIx ds.length ds.length hi = ds.length) : cutD ds lo hi = ds := by
  unfold cutD
  rw [h.1, h.2]
  simp
theorem sl_dat : SlR X (rCut X.K) := by
  intro pins s σ H x v vl vu lo hi sl Q I rx hs pl pu h
  obtain ⟨fb, ι, st, dx, d, S, hx, e, q⟩ := h
  unfold sliceD at e
  split at e
  · cases e
    rename_i ds
    obtain ⟨a, xs, rfl, ha, ra⟩ := tup_of hx
    refine sl_tupA pins s σ H _ v vl vu lo hi sl Q I rx hs pl pu ⟨a, xs, rfl, ha, fun z => ?_, fun _ p hp => q.tup S (cut_rel ra lo hi) hp⟩
    rw [← ra.length] at z
    rw [cut_whole z] at q
    exact q.same S hx
  · cases e
    obtain ⟨a, rfl, ha⟩ := scr_sql hx
    exact sl_list pins s σ H _ v vl vu lo hi sl Q I rx hs pl pu ⟨a, _, rfl, ha, fun p hp => q.lst S (cut_rel (scr_rel H) lo hi) hp⟩
  · cases e2 : lsOf st dx with
    | none => rw [e2] at e; cases e
    | some ds =>
      rw [e2] at e; cases e
      obtain ⟨a, xs, rfl, ha, ra⟩ := ls_of S hx e2
      exact sl_list pins s σ H _ v vl vu lo hi sl Q I rx hs pl pu ⟨a, xs, rfl, ha, fun p hp => q.lst S (cut_rel ra lo hi) hp⟩

/-! ### built-ins -/
def rBlt (K : PySem.W.Frag) (F : List D → Store → Option D) : List V → Hp → VK → Prop := fun vs H Q => ∃ fb ι st ds d, RelS K H fb ι st ∧ Rels K H fb ι ds vs ∧ F ds st = some d ∧ Yl K fb ι st d Q H
theorem rels1 {K : PySem.W.Frag} {H : Hp} {fb ι : List Addr} {d : D} {vs : List V} (h : Rels K H fb ι [d] vs) : ∃ v, vs = [v] ∧ Rel K H fb ι d v := by
  obtain ⟨y, ys, rfl, r, rs⟩ := h
  have rs : ys = [] := rs
  subst rs
  exact ⟨y, rfl, r⟩
theorem rels2 {K : PySem.W.Frag} {H : Hp} {fb ι : List Addr} {d e : D} {vs : List V} (h : Rels K H fb ι [d, e] vs) : ∃ v w, vs = [v, w] ∧ Rel K H fb ι d v ∧ Rel K H fb ι e w := by
  obtain ⟨y, ys, rfl, r, rs⟩ := h
  obtain ⟨w, rfl, r2⟩ := rels1 rs
  exact ⟨y, w, rfl, r, r2⟩
theorem bt_len (hX : X.prog = pw.P ∧ X.w = pw.w ∧ X.mg = pw.mg) : CallR X (.builtin "len") (rBlt X.K (bltD "len")) := by
  intro pins s σ H vs us Q I r h
  obtain ⟨fb, ι, st, ds, d, S, hd, e, q⟩ := h
  simp only [bltD, show ("len" : Str) == "len" from by decide, if_true] at e
  split at e
  · split at e
    · rename_i x hc
      cases e
      obtain ⟨v, rfl, r1⟩ := rels1 hd
      cases r1
      exact call_len_str pins s σ H _ us Q I r ⟨x, rfl, fit_le hc, q.same S rfl⟩
    · cases e
  · cases e
    rename_i ns
    obtain ⟨v, rfl, r1⟩ := rels1 hd
    obtain ⟨a, rfl, ha⟩ := scr_sql r1
    exact call_len_seq pins s σ H _ us Q I r ⟨a, _, rfl, .inl ha, by rw [List.length_map]; exact q.same S rfl⟩
  · rename_i x _ _
    obtain ⟨v, rfl, r1⟩ := rels1 hd
    cases e3 : dcOf st x with
    | some p =>
      rw [e3] at e; cases e
      obtain ⟨a, u, rfl, rd, dd⟩ := dc_of S r1 e3
      obtain ⟨hm, o, es, ep, e1, e2, e4, e5, e6⟩ := dc_type hX I rd dd
      obtain ⟨uu, rfl, ru⟩ := vals1 r
      cases ru
      have hr : s.heap.DictRaw a es ep := ⟨o, e1, e2, e4⟩
      refine PyProof.Rows.call_len_slot (n := p.1.length) hr.typeIs F.slot_dict_len (fun Q' hq => PySem.call_len_raw hm hr (by rw [e5]; exact hq)) (by omega) (by rw [sizeLine_eq] at e6; omega) ?_
      exact ⟨.int _, H, I.tok _, ⟨_, rfl⟩, q.same S rfl⟩
    | none =>
    rw [e3] at e
    cases e2 : sqOf st x with
    | none => rw [e2] at e; cases e
    | some ds =>
      rw [e2] at e; cases e
      obtain ⟨a, xs, rfl, ha, ra⟩ := sq_of S r1 e2
      exact call_len_seq pins s σ H _ us Q I r ⟨a, xs, rfl, ha, by rw [← ra.length]; exact q.same S rfl⟩
  · cases e
theorem bt_all (hc : X.calm = true) : CallR X (.builtin "all") (rBlt X.K (bltD "all")) := by
  intro pins s σ H vs us Q I r h
  obtain ⟨fb, ι, st, ds, d, S, hd, e, q⟩ := h
  simp only [bltD, show (("all" : Str) == "len") = false from by decide, show ("all" : Str) == "all" from by decide, if_true, Bool.false_eq_true, if_false] at e
  split at e
  · obtain ⟨v, rfl, r1⟩ := rels1 hd
    rename_i x
    cases e2 : lsOf st x with
    | none => rw [e2] at e; cases e
    | some ds =>
      cases e3 : blsOf ds with
      | none => rw [e2, Option.bind_some, e3] at e; cases e
      | some bs =>
        rw [e2, Option.bind_some, e3] at e; cases e
        obtain ⟨a, xs, rfl, ha, ra⟩ := ls_of S r1 e2
        have e4 := bls_rel ra e3
        subst e4
        exact cr_all hc pins s σ H _ us Q I r ⟨a, bs, rfl, ha, q.same S rfl⟩
  · cases e
theorem bt_any (hc : X.calm = true) : CallR X (.builtin "any") (rBlt X.K (bltD "any")) := by
  intro pins s σ H vs us Q I r h
  obtain ⟨fb, ι, st, ds, d, S, hd, e, q⟩ := h
  simp only [bltD, show (("any" : Str) == "len") = false from by decide, show (("any" : Str) == "all") = false from by decide, show ("any" : Str) == "any" from by decide, if_true, Bool.false_eq_true, if_false] at e
  split at e
  · obtain ⟨v, rfl, r1⟩ := rels1 hd
    rename_i x
    cases e2 : lsOf st x with
    | none => rw [e2] at e; cases e
    | some ds =>
      cases e3 : blsOf ds with
      | none => rw [e2, Option.bind_some, e3] at e; cases e
      | some bs =>
        rw [e2, Option.bind_some, e3] at e; cases e
        obtain ⟨a, xs, rfl, ha, ra⟩ := ls_of S r1 e2
        have e4 := bls_rel ra e3
        subst e4
        exact cr_any hc pins s σ H _ us Q I r ⟨a, bs, rfl, ha, q.same S rfl⟩
  · cases e
theorem bltD_tuple {vs : List D} {st : Store} : bltD "tuple" vs st = match vs with
    | [x] => (sqOf st x).map .tup
    | _ => none := rfl
theorem bltD_list {vs : List D} {st : Store} : bltD "list" vs st = match vs with
    | [x] => (sqOf st x).map .lst
    | _ => none := rfl
theorem bltD_sum {vs : List D} {st : Store} : bltD "sum" vs st = match vs with
    | [x] => ((lsOf st x).bind intsOf).map fun ns => .int ns.sum
    | _ => none := rfl
theorem bltD_max {vs : List D} {st : Store} : bltD "max" vs st = match vs with
    | [.int i, .int j] => some (.int (if j > i then j else i))
    | _ => none := rfl
theorem bltD_min {vs : List D} {st : Store} : bltD "min" vs st = match vs with
    | [.int i, .int j] => some (.int (if j < i then j else i))
    | _ => none := rfl
theorem bltD_int {vs : List D} {st : Store} : bltD "int" vs st = match vs with
    | [.int i] => some (.int i)
    | _ => none := rfl
theorem bltD_repr {vs : List D} {st : Store} : bltD "repr" vs st = match vs with
    | [x] => (showD st x).map .str
    | _ => none := rfl
theorem bt_tuple : CallR X (.type "tuple") (rBlt X.K (bltD "tuple")) := by
  intro pins s σ H vs us Q I r h
  obtain ⟨fb, ι, st, ds, d, S, hd, e, q⟩ := h
  rw [bltD_tuple] at e
  split at e
  · obtain ⟨v, rfl, r1⟩ := rels1 hd
    rename_i x
    cases e2 : sqOf st x with
    | none => rw [e2] at e; cases e
    | some ds =>
      rw [e2] at e; cases e
      cases x with
      | tup es =>
        cases e2
        obtain ⟨a, xs, rfl, ha, ra⟩ := tup_of r1
        exact call_tuple_of pins s σ H _ us Q I r ⟨a, xs, rfl, .inr ⟨ha, q.same S r1⟩⟩
      | lst es =>
        obtain ⟨a, xs, rfl, ha, ra⟩ := ls_of S r1 (show lsOf st (.lst es) = some ds from e2)
        exact call_tuple_of pins s σ H _ us Q I r ⟨a, xs, rfl, .inl ⟨ha, fun p hp => q.tup S ra hp⟩⟩
      | loc n =>
        obtain ⟨a, xs, rfl, ha, ra⟩ := ls_of S r1 (show lsOf st (.loc n) = some ds from e2)
        exact call_tuple_of pins s σ H _ us Q I r ⟨a, xs, rfl, .inl ⟨ha, fun p hp => q.tup S ra hp⟩⟩
      | _ => cases e2
  · cases e
theorem bt_list : CallR X (.type "list") (rBlt X.K (bltD "list")) := by
  intro pins s σ H vs us Q I r h
  obtain ⟨fb, ι, st, ds, d, S, hd, e, q⟩ := h
  rw [bltD_list] at e
  split at e
  · obtain ⟨v, rfl, r1⟩ := rels1 hd
    rename_i x
    cases e2 : sqOf st x with
    | none => rw [e2] at e; cases e
    | some ds =>
      rw [e2] at e; cases e
      obtain ⟨a, xs, rfl, ha, ra⟩ := sq_of S r1 e2
      exact call_list_of pins s σ H _ us Q I r ⟨a, xs, rfl, ha, fun p hp => q.lst S ra hp⟩
  · cases e
def rListA (K : PySem.W.Frag) : List V → Hp → VK → Prop := fun vs H Q => ∃ fb ι st ds ys, RelS K H fb ι st ∧ Rels K H fb ι ds vs ∧ bltD "list" ds st = some (.lst ys) ∧
  ∀ ι' H', Grow ι H ι' H' → RelS K H' fb ι' (st ++ [.lst false ys]) → ∀ v, Rel K H' fb ι' (.loc st.length) v → Q v H'
theorem bt_listA : CallR X (.type "list") (rListA X.K) := by
  intro pins s σ H vs us Q I r h
  obtain ⟨fb, ι, st, ds, ys, S, hd, e, q⟩ := h
  rw [bltD_list] at e
  split at e
  · obtain ⟨v, rfl, r1⟩ := rels1 hd
    rename_i x
    cases e2 : sqOf st x with
    | none => rw [e2] at e; cases e
    | some ds =>
      rw [e2] at e; cases e
      obtain ⟨a, xs, rfl, ha, ra⟩ := sq_of S r1 e2
      refine call_list_of pins s σ H _ us Q I r ⟨a, xs, rfl, ha, fun p hp => ?_⟩
      have g : Grow ι H (ι ++ [p]) (upd H p (.lst xs)) := Grow.alloc hp
      refine q _ _ g (S.alloc hp ⟨xs, upd_same, Rels.mono g _ _ ra⟩) _ ⟨p, rfl, ?_⟩
      rw [← S.len]
      simp
  · cases e
theorem bt_sum (hc : X.calm = true) : CallR X (.builtin "sum") (rBlt X.K (bltD "sum")) := by
  intro pins s σ H vs us Q I r h
  obtain ⟨fb, ι, st, ds, d, S, hd, e, q⟩ := h
  rw [bltD_sum] at e
  split at e
  · obtain ⟨v, rfl, r1⟩ := rels1 hd
    rename_i x
    cases e2 : lsOf st x with
    | none => rw [e2] at e; cases e
    | some ds =>
      cases e3 : intsOf ds with
      | none => rw [e2, Option.bind_some, e3] at e; cases e
      | some ns =>
        rw [e2, Option.bind_some, e3] at e; cases e
        obtain ⟨a, xs, rfl, ha, ra⟩ := ls_of S r1 e2
        have e4 := ints_rel ra e3
        subst e4
        exact cr_sum hc pins s σ H _ us Q I r ⟨a, ns, rfl, ha, q.same S rfl⟩
  · cases e
theorem bt_max (hc : X.calm = true) : CallR X (.builtin "max") (rBlt X.K (bltD "max")) := by
  intro pins s σ H vs us Q I r h
  obtain ⟨fb, ι, st, ds, d, S, hd, e, q⟩ := h
  rw [bltD_max] at e
  split at e
  · cases e
    obtain ⟨v, w, rfl, r1, r2⟩ := rels2 hd
    cases r1; cases r2
    exact call_max2 hc pins s σ H _ us Q I r ⟨_, _, rfl, q.same S rfl⟩
  · cases e
theorem bt_min (hc : X.calm = true) : CallR X (.builtin "min") (rBlt X.K (bltD "min")) := by
  intro pins s σ H vs us Q I r h
  obtain ⟨fb, ι, st, ds, d, S, hd, e, q⟩ := h
  rw [bltD_min] at e
  split at e
  · cases e
    obtain ⟨v, w, rfl, r1, r2⟩ := rels2 hd
    cases r1; cases r2
    exact call_min2 hc pins s σ H _ us Q I r ⟨_, _, rfl, q.same S rfl⟩
  · cases e
theorem bt_int : CallR X (.type "int") (rBlt X.K (bltD "int")) := by
  intro pins s σ H vs us Q I r h
  obtain ⟨fb, ι, st, ds, d, S, hd, e, q⟩ := h
  rw [bltD_int] at e
  split at e
  · cases e
    obtain ⟨v, rfl, r1⟩ := rels1 hd
    cases r1
    exact call_int1 pins s σ H _ us Q I r (.inl ⟨_, rfl, q.same S rfl⟩)
  · cases e
theorem noDict_of {K : PySem.W.Frag} {H : Hp} : ∀ {v : V} {p : PyData}, Dp K H v p → p.hasDict = false := by
  intro v p h
  refine Dp.rec (motive_1 := fun v p _ => p.hasDict = false) (motive_2 := fun vs ps _ => PyData.hasDictAll ps = false) ?_ ?_ ?_ ?_ ?_ ?_ ?_ ?_ h
  · rfl
  · intro b; rfl
  · intro i; rfl
  · intro x; rfl
  · intro a xs ds _ _ ih; simpa [PyData.hasDict] using ih
  · intro a xs ds _ _ ih; simpa [PyData.hasDict] using ih
  · rfl
  · intro v vs d ds _ _ h1 h2; simp [PyData.hasDictAll, h1, h2]
theorem bt_repr (hg : X.A.guards = some []) (hu : X.A.units + 200 < cLine) : CallR X (.builtin "repr") (rBlt X.K (bltD "repr")) := by
  intro pins s σ H vs us Q I r h
  obtain ⟨fb, ι, st, ds, d, S, hd, e, q⟩ := h
  rw [bltD_repr] at e
  split at e
  · obtain ⟨v, rfl, r1⟩ := rels1 hd
    rename_i x
    cases e2 : showD st x with
    | none => rw [e2] at e; cases e
    | some t =>
      rw [e2] at e; cases e
      unfold showD at e2
      split at e2
      · rename_i p ep
        split at e2
        · cases e2
        · split at e2
          · rename_i hr hc
            simp only [Bool.and_eq_true] at hc
            cases e2
            have dp := dp_rsv S r1 ep
            obtain ⟨u, rfl, ru⟩ := vals1 r
            obtain ⟨as, rd⟩ := Dp.reads I p v u dp ru
            have hdp : p.depth ≤ most := Nat.le_of_ble_eq_true hc.1.2
            have isr : ∃ a, u = .ref a := by
              cases rd with
              | list _ _ _ _ => exact ⟨_, rfl⟩
              | tuple _ _ _ _ => exact ⟨_, rfl⟩
              | dict _ _ _ _ _ => exact ⟨_, rfl⟩
              | _ => exact absurd rfl hr
            obtain ⟨a, rfl⟩ := isr
            refine repr_of_reads' rd hc.1.1 (PyData.noDict_hsm (noDict_of dp)) hg (by unfold most at hdp; omega) (fun _ _ e => e) (fun h' u' tk k => ?_) (Nat.le_of_ble_eq_true hc.2)
            exact ⟨.str _, H, I.kept k, ⟨_, rfl⟩, q.same S rfl⟩
          · cases e2
      · cases e2
  · cases e
end
end Wk

set_option maxRecDepth 100000
set_option maxHeartbeats 1000000
/-! WkE: enumerate of a tuple. -/
namespace Wk
open PySem PySem.Spec PyProof.Rows L2
open AutoSeq1 (wpAny_loadPart')

theorem enumT_made (l : Addr) (items : Array Value) :
    Meets (Builtin.«enumerate.__new__» ⟨[.type "enumerate", .ref l], []⟩) (fun _ R s => s.heap.IsTuple l items ∧
      R (.ok (.ret (.ref (s.heap.push { cls := .type "tuple_iterator", data := .fields #[.ref l, .int 0 0] }).objs.size)))
        { s with heap := (s.heap.push { cls := .type "tuple_iterator", data := .fields #[.ref l, .int 0 0] }).push { cls := .type "enumerate", data := .fields #[.none, .bool false, .ref s.heap.objs.size, rawInt 0, .none, .none] } }) :=
  .of_wp fun prog w A R s h => by
    obtain ⟨hp, g, d, tk, os⟩ := s
    obtain ⟨hL, h⟩ := h
    have hsub := sub_enumerate
    have hL2 : Heap.IsTuple (Shared.heap ⟨hp, g, d, tk, os⟩) l items := hL
    obtain ⟨⟨oc, od, dt, sl⟩, hl, hc, n, hd⟩ := id hL
    replace hc : oc = .type "tuple" := hc
    replace hd : dt = .seq items n := hd
    subst hc hd
    wp_walk using wpAny_loadPart' hl
    refine wpAny_stack_any fun st => wpAny_pure ?_
    split
    · rename_i c _ _ _ _ _
      cases (c == Value.type "enumerate")
      · wp_walk using wpAny_loadPart' hl, wpAny_pyIter_tuple hL2
        exact ⟨_, rfl, h⟩
      · wp_walk using wpAny_loadPart' hl, wpAny_pyIter_tuple hL2
        exact ⟨_, rfl, h⟩
    · wp_walk using wpAny_loadPart' hl, wpAny_pyIter_tuple hL2
      exact ⟨_, rfl, h⟩
section
variable {prog : Program} {w : World} {A : Around} {E : Value → Shared → Prop} {s : Shared}
theorem enumT_call {l : Addr} {items : Array Value} {Q : Value → Shared → Prop} (hL : s.heap.IsTuple l items)
    (h : ∀ h', IsEnum h' (s.heap.objs.size + 1) s.heap.objs.size 0 .none → h'.IsTupleIter s.heap.objs.size l 0 →
      (∀ b o, s.heap.get? b = some o → h'.get? b = some o) → Q (.ref (s.heap.objs.size + 1)) { s with heap := h' }) :
    wpAny (model prog w) A (call (.type "enumerate") [.ref l]) Q E s := by
  refine callType_new F.called_enumerate (by decide) (F.typeCall_enumerate_1 _) (F.newCall_enumerate_1 _) (fun obj => F.args_object_init_2 obj _) F.entry_enumerate_new
    (enumT_made l items) ⟨hL, ?_⟩
  have hz : (s.heap.push { cls := .type "tuple_iterator", data := .fields #[.ref l, .int 0 0] }).objs.size = s.heap.objs.size + 1 := Heap.size_push ..
  show _ ∧ _
  rw [hz]
  have q := Heap.get?_push_size (s.heap.push { cls := .type "tuple_iterator", data := .fields #[.ref l, .int 0 0] }) (o := { cls := .type "enumerate", data := .fields #[.none, .bool false, .ref s.heap.objs.size, rawInt 0, .none, .none] }) rfl
  rw [hz] at q
  exact ⟨⟨_, q, rfl⟩, h _ q ⟨_, Heap.get?_push_of_some _ (Heap.get?_push_size _ rfl), rfl, rfl⟩ fun b o x => Heap.get?_push_of_some _ (Heap.get?_push_of_some _ x)⟩
theorem drawsT (hh : A.handled = none) (it l : Addr) (hne : l ≠ it) (items : Array Value) :
    Draws prog w A it [it, l] items.size (fun i v => items[i]? = some v) (fun i h => h.IsTupleIter it l i ∧ h.IsTuple l items) where
  live := fun _ _ st => let ⟨o, ho, _⟩ := st.1; ⟨o, ho⟩
  frame := fun _ _ _ st hk => ⟨st.1.at fun o e => hk it (by simp) o e, by
    obtain ⟨o, ho, r⟩ := st.2
    exact ⟨o, hk l (by simp) o ho, r⟩⟩
  item := fun i s Q E hi st hQ => by
    refine RZ.nextOf_tuple_item st.1 st.2 (x := items[i]) (by simp [hi]) fun h' hit' hs' => ?_
    obtain ⟨o, ho, r⟩ := st.2
    exact hQ _ h' s.toks (by simp [hi]) ⟨hit', ⟨o, (hs'.2 l hne).trans ho, r⟩⟩ hs'
  done := fun s Q E st hE => RZ.nextOf_tuple_end hh st.1 st.2 (by simp) hE
end
/-- the tuple at a, each item in a new pair -/
def IteT (K : PySem.W.Frag) (a : Addr) : It :=
  ⟨fun i H => ∃ (xs : List V) (x : V), SqT K H a xs ∧ xs[i]? = some x, fun i H v H' => ∃ T x, v = .ref T ∧ H T = none ∧ H' = upd H T (.tup [.int (i : Nat), x]) ∧ ∀ xs, SqT K H a xs → xs[i]? = some x, fun i H => ∃ xs : List V, SqT K H a xs ∧ xs.length = i⟩
theorem turn_enumT {P : Program} {w : World} {K : PySem.W.Frag} {elts : List Expr} {kk : Nat} {tpos : Pos} (a e it : Addr) (hea : e ≠ a) (hia : a ≠ it) :
    Turn P w K (.Tuple elts kk tpos) (IteT K a) [e, it] e (fun i h => (∃ old, IsEnum h e it ((i : Nat) : Int) old) ∧ h.IsTupleIter it a i ∧ e ≠ it) where
  mem := by simp
  obj := fun i h st b hb => by
    obtain ⟨⟨old, he⟩, ⟨o, ho, hc, hd⟩, _⟩ := st
    have e' : b = e ∨ b = it := by simpa using hb
    rcases e' with z | z
    · rw [z]; exact ⟨_, he, fun v q => nomatch q⟩
    · rw [z]; exact ⟨o, ho, fun v q => by rw [hd] at q; cases q⟩
  keep := fun i h h' st k => let ⟨⟨old, he⟩, hi, hne⟩ := st; ⟨⟨old, k e (by simp) _ he⟩, hi.at fun o q => k it (by simp) o q, hne⟩
  item := by
    intro X hP hw hK hc i pins s σ H E I hf st hg
    subst hP hw hK
    obtain ⟨⟨old, he⟩, hit, hne⟩ := st
    obtain ⟨xs, x, hq, hx⟩ := hg
    obtain ⟨its, rv, p, hz⟩ := I.tuple hq
    have hlt : i < its.toArray.size := by
      have h1 := (List.getElem?_eq_some_iff.mp hx).1
      have h2 := rv.length
      simp; omega
    have hel : e < s.heap.objs.size := Heap.lt_size he
    have hil : it < s.heap.objs.size := by obtain ⟨_, q, _⟩ := hit; exact Heap.lt_size q
    have hh : X.A.in1.handled = none := by
      have := I.ok.hd hc
      exact this
    refine wpAny_pyNext_enum_itemD (drawsT hh it a hia its.toArray) he ⟨hit, p⟩ hlt hne (by simp [hne, hea]) fun u h' tk hPx ho st' hT hsz hk => ?_
    obtain ⟨u', hu, ru'⟩ := rv.get hx
    have eu : u = u' := by
      have z : its.toArray[i]? = some u := hPx
      simp at z
      rw [hu] at z; cases z; rfl
    subst eu
    refine ⟨_, rfl, wpAny_letOwnedTupleGo_enum (s := { s with heap := h', toks := tk + 1 }) ho fun h'' he' sb => ?_⟩
    have hT2 : h''.get? s.heap.objs.size = some { cls := .type "tuple", data := .seq #[.int i tk, u] } := (sb.2 _ (Nat.ne_of_gt hel)).trans hT
    have new : ObjOk X.prog X.w (upd H s.heap.objs.size (.tup [.int (i : Nat), x])) h'' s.heap.objs.size (.tup [.int (i : Nat), x]) :=
      ⟨by show 2 ≤ sizeLine; decide, [.int i tk, u], .cons ⟨_, rfl⟩ (.cons ru' .nil), ⟨_, hT2, rfl, _, rfl⟩⟩
    have I1 : L2.Inv X pins σ (upd H s.heap.objs.size (.tup [.int (i : Nat), x])) { s with heap := h'', toks := tk + 1 } :=
      I.turnedNew (ch := [e, it]) (fun b ob hb q => (sb.2 b (fun z => hb (by simp [z]))).trans (hk b ob (fun z => hb (by simp [z])) (fun z => hb (by simp [z])) q)) hf (Nat.le_refl _) new
    refine ⟨.ref s.heap.objs.size, _, I1, rfl, ⟨_, x, rfl, I.hok.fresh (Nat.le_refl _), rfl, fun ys hy => by rw [I.tuple_inj hy hq]; exact hx⟩, ⟨⟨u, ?_⟩, st'.1.at fun o q => (sb.2 it (Ne.symm hne)).trans q, hne⟩, fun b hb => ?_⟩
    · have e1 : ((i + 1 : Nat) : Int) = (i : Int) + 1 := by omega
      rw [e1]; exact he'
    · have hb' : b < s.heap.objs.size := by
        have e' : b = e ∨ b = it := by simpa using hb
        rcases e' with z | z
        · rw [z]; exact hel
        · rw [z]; exact hil
      rw [upd_ne (Nat.ne_of_lt hb')]
      exact (hf b hb).1
  done := by
    intro X hP hw hK hc i pins s σ H E I hf st hg
    subst hP hw hK
    obtain ⟨⟨old, he⟩, hit, hne⟩ := st
    obtain ⟨xs, hq, hx⟩ := hg
    obtain ⟨its, rv, p, hz⟩ := I.tuple hq
    obtain ⟨f0, f1, f2, f3, f4, f5⟩ := hf it (by simp)
    have hh : X.A.in1.handled = none := I.ok.hd hc
    have hl : i = its.toArray.size := by
      have hl := rv.length
      simp; omega
    refine wpAny_pyNext_enum_endD (drawsT hh it a hia its.toArray) he (by rw [← hl]; exact ⟨hit, p⟩) fun h' eb => ⟨rfl, I.turned (t' := s.toks) (fun b o hb q => eb b o hb q) f0 f1 f3 f4 f5⟩
  self := fun A i s Q E st h => let ⟨⟨_, he⟩, _⟩ := st; wpAny_pyIter_enum he h
end Wk

set_option maxRecDepth 100000
set_option maxHeartbeats 1000000
/-! Wk6: isinstance, methods, stores, loops' sources by values. -/
namespace Wk
open PySem PySem.Spec PyProof.Rows L2
variable [pw : PrW]

section
variable {X : Cx}
/-! ### isinstance -/
theorem ty_dat {K : PySem.W.Frag} {H : Hp} {fb ι : List Addr} {st : Store} (S : RelS K H fb ι st) {d : D} {v : V} {t : String} (r : Rel K H fb ι d v) (e : tyOf st d = some t) : TyX K H v (.type t) := by
  cases d with
  | non => cases e; cases r; exact .base .non
  | bl b => cases e; cases r; exact .base (.bl b)
  | int i => cases e; cases r; exact .base (.int i)
  | str x => cases e; cases r; exact .base (.str x)
  | tup ds => cases e; obtain ⟨a, xs, rfl, q, _⟩ := r; exact .base (.tup q)
  | lst ds => cases e; obtain ⟨a, xs, rfl, q, _⟩ := r; exact .base (.lst q)
  | loc n =>
    obtain ⟨a, rfl, hi⟩ := r
    unfold tyOf at e
    cases q : st[n]? with
    | none => simp only [q] at e; cases e
    | some o =>
      simp only [q] at e
      cases o with
      | dic l ks vs => cases e
      | lst l es =>
        cases e
        have ro := S.at_ n _ a q hi
        cases l with
        | false => obtain ⟨xs, h1, h2⟩ := ro; exact .base (.lst h1)
        | true => obtain ⟨od, xs, h1, h2⟩ := ro; exact .base (.frz h1)
  | _ => cases e
/-- the classes that are asked -/
def isiTys : List String := ["int", "bool", "str", "tuple", "list"]
theorem kit_dat {K : PySem.W.Frag} {st : Store} {d : D} {t u : String} (e : tyOf st d = some t) (hu : u ∈ isiTys) : PySem.W.kitOne K (.type t) (.type u) = some (isTy t u) := by
  have ht : t ∈ ["NoneType", "bool", "int", "str", "tuple", "list"] := by
    unfold tyOf at e
    split at e <;> first | (cases e; decide) | (split at e <;> first | (cases e; decide) | cases e) | cases e
  have key : ∀ t ∈ ["NoneType", "bool", "int", "str", "tuple", "list"], ∀ u ∈ isiTys, kitB t u = some (isTy t u) := by decide +kernel
  exact kit_ty (key t ht u hu)
def rIsiD (K : PySem.W.Frag) (u : String) : List V → Hp → VK → Prop := fun vs H Q => ∃ fb ι st d v t, RelS K H fb ι st ∧ Rel K H fb ι d v ∧ tyOf st d = some t ∧ vs = [v, .ty u] ∧ Yl K fb ι st (.bl (isTy t u)) Q H
theorem bt_isi {u : String} (hu : u ∈ isiTys) : CallR X (.builtin "isinstance") (rIsiD X.K u) := by
  intro pins s σ H vs us Q I r h
  obtain ⟨fb, ι, st, d, v, t, S, hd, e, rfl, q⟩ := h
  exact call_isi pins s σ H _ us Q I r ⟨v, .ty u, .type t, .type u, _, rfl, .ty u, ty_dat S hd e, kit_dat e hu, q.same S rfl⟩

/-! ### methods that change a list -/
def Ch (K : PySem.W.Frag) (fb ι : List Addr) (st' : Store) (d : D) (Q : VK) (H : Hp) : Prop := ∀ ι' H', Grow ι H ι' H' → RelS K H' fb ι' st' → ∀ v, Rel K H' fb ι' d v → Q v H'
def rMet (K : PySem.W.Frag) (F : D → List D → Store → Option (D × Store)) : V → List V → Hp → VK → Prop := fun x vs H Q => ∃ fb ι st dx ds d st', RelS K H fb ι st ∧ Rel K H fb ι dx x ∧ Rels K H fb ι ds vs ∧ F dx ds st = some (d, st') ∧ Ch K fb ι st' d Q H
/-- an unwalked list of the store, changed -/
theorem Ch.lst {K : PySem.W.Frag} {fb ι : List Addr} {st : Store} {d : D} {Q : VK} {H : Hp} {n : Nat} {a : Addr} {ds : List D} {xs ys : List V} {v : V} (h : Ch K fb ι (st.set n (.lst false ds)) d Q H) (S : RelS K H fb ι st) (hi : ι[n]? = some a) (hl : H a = some (.lst xs))
    (r : Rels K H fb ι ds ys) (rv : Rel K H fb ι d v) : Q v (upd H a (.lst ys)) := by
  have m : a ∈ ι := List.mem_of_getElem? hi
  have g : Grow ι H ι (upd H a (.lst ys)) := Grow.wr m hl (fun _ _ z => nomatch z)
  exact h ι _ g (S.wr hi hl (fun _ _ z => nomatch z) ⟨ys, upd_same, Rels.mono g ds ys r⟩) v (rv.mono g)
theorem metD_append {x : D} {vs : List D} {st : Store} : metD "append" x vs st = match x, vs with
    | .loc n, [y] => match st[n]? with
      | some (.lst false xs) => if Nat.blt xs.length sizeLine then some (.non, st.set n (.lst false (xs ++ [y]))) else none
      | _ => none
    | _, _ => none := rfl
theorem metD_insert {x : D} {vs : List D} {st : Store} : metD "insert" x vs st = match x, vs with
    | .loc n, [.int i, y] => match st[n]? with
      | some (.lst false xs) => if Nat.blt xs.length sizeLine && decide (0 ≤ i) && decide (i ≤ xs.length) then
          some (.non, st.set n (.lst false (xs.take i.toNat ++ y :: xs.drop i.toNat))) else none
      | _ => none
    | _, _ => none := rfl
theorem md_append : MtR X "list.append" (rMet X.K (metD "append")) := by
  intro pins s σ H x vs v us Q I rx rv h
  obtain ⟨fb, ι, st, dx, ds, d, st', S, hx, hd, e, q⟩ := h
  rw [metD_append] at e
  split at e
  · split at e
    · rename_i n y _ xs hn
      split at e
      · rename_i hc
        cases e
        obtain ⟨a, rfl, hi⟩ := hx
        obtain ⟨w, rfl, rw'⟩ := rels1 hd
        obtain ⟨ws, h1, h2⟩ := S.at_ n _ a hn hi
        exact mt_append pins s σ H _ _ v us Q I rx rv ⟨a, ws, w, rfl, rfl, h1, by rw [← h2.length]; exact Nat.le_of_ble_eq_true hc, q.lst S hi h1 (h2.append (.one rw')) rfl⟩
      · cases e
    · cases e
  · cases e
theorem md_insert : MtR X "list.insert" (rMet X.K (metD "insert")) := by
  intro pins s σ H x vs v us Q I rx rv h
  obtain ⟨fb, ι, st, dx, ds, d, st', S, hx, hd, e, q⟩ := h
  rw [metD_insert] at e
  split at e
  · split at e
    · rename_i n i y _ xs hn
      split at e
      · rename_i hc
        simp only [Bool.and_eq_true, decide_eq_true_eq] at hc
        cases e
        obtain ⟨a, rfl, hi⟩ := hx
        obtain ⟨w1, w, rfl, rw1, rw'⟩ := rels2 hd
        cases rw1
        obtain ⟨ws, h1, h2⟩ := S.at_ n _ a hn hi
        have hz : xs.length < sizeLine := Nat.le_of_ble_eq_true hc.1.1
        have hz2 : sizeLine < 2 ^ 63 := line63
        refine mt_insert pins s σ H _ _ v us Q I rx rv ⟨a, ws, i, w, rfl, rfl, h1, by rw [← h2.length]; exact hz, hc.1.2, by omega, ?_⟩
        rw [List.append_assoc]
        exact q.lst S hi h1 ((h2.take _).append ((Rels.one rw').append (h2.drop _))) rfl
      · cases e
    · cases e
  · cases e
/-- xs[i] = v -/
def rSetD (K : PySem.W.Frag) : V → V → V → Hp → (Hp → Prop) → Prop := fun o i v H Q => ∃ fb ι st dx di dv st', RelS K H fb ι st ∧ Rel K H fb ι dx o ∧ Rel K H fb ι di i ∧ Rel K H fb ι dv v ∧ setIxD dx di dv st = some ((), st') ∧
  ∀ ι' H', Grow ι H ι' H' → RelS K H' fb ι' st' → Q H'
theorem set_dat (hX : X.prog = pw.P ∧ X.w = pw.w ∧ X.mg = pw.mg) (hu : X.A.units + 200 < cLine) : PSet X (rSetD X.K) := by
  intro pins s σ H o i v ov iv u Q I ro ri rv h
  obtain ⟨fb, ι, st, dx, di, dv, st', S, hx, hi, hv, e, q⟩ := h
  unfold setIxD at e
  split at e
  · split at e
    · split at e
      case h_2 => cases e
      rename_i n _ xs hn _ k
      cases hi
      obtain ⟨a, rfl, ha⟩ := hx
      obtain ⟨ws, h1, h2⟩ := S.at_ n _ a hn ha
      cases e2 : ixN xs.length k with
      | none => rw [e2] at e; cases e
      | some j =>
        rw [e2] at e; cases e
        have m : a ∈ ι := List.mem_of_getElem? ha
        have g : Grow ι H ι (upd H a (.lst (ws.set j v))) := Grow.wr m h1 (fun _ _ z => nomatch z)
        exact set_list pins s σ H _ _ v ov iv u Q I ro ri rv ⟨a, ws, k, j, rfl, rfl, h1, by rw [← h2.length]; exact e2, q ι _ g (S.wr ha h1 (fun _ _ z => nomatch z) ⟨_, upd_same, Rels.mono g _ _ (h2.set j hv)⟩)⟩
    · rename_i n _ ks vs hn
      cases hk : di.toDK with
      | none => rw [hk] at e; cases e
      | some k =>
        rw [hk, Option.bind_some] at e
        split at e
        · rename_i hc
          rw [Bool.and_eq_true] at hc
          cases e
          obtain ⟨a, rfl, ha⟩ := hx
          cases ro
          obtain ⟨w, d, h1⟩ := S.at_ n _ a hn ha
          refine d_put hX (by omega) I h1 d hc.1 hk hi ri hv rv (Nat.blt_eq.mp hc.2) fun u' s' d' I' => ⟨_, I', ?_⟩
          have m : a ∈ ι := List.mem_of_getElem? ha
          have nf : ∀ o' u', w ≠ .frz o' u' := fun o' u' z => by have := d.mut; rw [z] at this; exact this
          have g : Grow ι H ι (upd H a u') := Grow.wr m h1 nf
          exact q ι _ g (S.wr ha h1 nf ⟨u', d'.map fun ds xs _ r => Rels.mono g ds xs r, upd_same⟩)
        · cases e
    · cases e
  · cases e
/-- x op= y -/
def rAug (K : PySem.W.Frag) (o : Operator) : TIp := fun x y H Q => ∃ fb ι st dx dy d st', RelS K H fb ι st ∧ Rel K H fb ι dx x ∧ Rel K H fb ι dy y ∧ augD o dx dy st = some (d, st') ∧ Ch K fb ι st' d Q H
theorem Ch.same {K : PySem.W.Frag} {fb ι : List Addr} {st : Store} {d : D} {Q : VK} {H : Hp} {v : V} (h : Ch K fb ι st d Q H) (S : RelS K H fb ι st) (r : Rel K H fb ι d v) : Q v H := h ι H Grow.refl S v r
theorem ip_dat {o : Operator} : PIp X o (rAug X.K o) := by
  intro pins s σ H x y v u Q I rx ry h
  obtain ⟨fb, ι, st, dx, dy, d, st', S, hx, hy, e, q⟩ := h
  unfold augD at e
  split at e
  · cases e; cases hx; cases hy
    exact iop_add pins s σ H _ _ v u Q I rx ry ⟨_, _, rfl, rfl, q.same S rfl⟩
  · cases e; cases hx; cases hy
    exact iop_sub pins s σ H _ _ v u Q I rx ry ⟨_, _, rfl, rfl, q.same S rfl⟩
  · split at e
    · rename_i hc
      cases e; cases hx; cases hy
      exact iop_add_str pins s σ H _ _ v u Q I rx ry ⟨_, _, rfl, rfl, fit_le hc, q.same S rfl⟩
    · cases e
  · split at e
    · rename_i n _ _ xs ys hn hy2
      split at e
      · rename_i hc
        cases e
        have hx0 := hx
        obtain ⟨a, rfl, hi⟩ := hx
        obtain ⟨ws, h1, h2⟩ := S.at_ n _ a hn hi
        obtain ⟨b, zs, rfl, h3, h4⟩ := lu_of S hy hy2
        exact iop_ext pins s σ H _ _ v u Q I rx ry ⟨a, b, ws, zs, rfl, rfl, h1, h3, by rw [← h2.length, ← h4.length]; exact fit_le hc, q.lst S hi h1 (h2.append h4) hx0⟩
      · cases e
    · cases e
  · cases e

/-! ### in, not in -/
theorem op_inW {o : CmpOp} (hX : X.prog = pw.P ∧ X.w = pw.w ∧ X.mg = pw.mg) (hu : X.A.units + 200 < cLine) (ho : o = .In ∨ o = .NotIn) : OpR X (compareOp o) (rCmp X.K o) := by
  intro pins s σ H x y v u Q I rx ry h
  obtain ⟨fb, ι, st, dx, dy, d, S, hx, hy, e, q⟩ := h
  have key : ∃ b : Bool, inD st dx dy = some b ∧ ((o = .In ∧ d = .bl b) ∨ (o = .NotIn ∧ d = .bl (!b))) := by
    have e : Option.map D.bl (cmpD o dx dy st) = some d := e
    rcases ho with rfl | rfl
    · cases e2 : inD st dx dy with
      | none => simp only [cmpD, e2] at e; cases e
      | some b => simp only [cmpD, e2] at e; cases e; exact ⟨b, rfl, .inl ⟨rfl, rfl⟩⟩
    · cases e2 : inD st dx dy with
      | none => simp only [cmpD, e2] at e; cases e
      | some b => simp only [cmpD, e2] at e; cases e; exact ⟨b, rfl, .inr ⟨rfl, rfl⟩⟩
  obtain ⟨b, eb, hd⟩ := key
  unfold inD at eb
  split at eb
  · rename_i a z
    split at eb
    · rename_i hc
      cases eb; cases hx; cases hy
      have ea := sign_of hc
      generalize hc0 : a.cps.getD 0 0 = c at ea hd
      have eb : (z.cps.toList.contains c) = decide (c ∈ z.cps.toList) := by simp
      rcases hd with ⟨rfl, rfl⟩ | ⟨rfl, rfl⟩
      · exact op_in_sign pins s σ H _ _ v u Q I rx ry ⟨c, z, by rw [ea], rfl, by rw [← eb]; exact q.same S rfl⟩
      · exact op_notIn_sign pins s σ H _ _ v u Q I rx ry ⟨c, z, by rw [ea], rfl, by rw [← eb]; exact q.same S rfl⟩
    · cases eb
  · split at eb
    · cases z : dfind st dy dx with
      | none => rw [z] at eb; cases eb
      | some oo =>
        rw [z] at eb
        obtain ⟨p, k, h1, h2, h3, h4⟩ := find_of z
        subst h4
        cases eb
        obtain ⟨a, w, rfl, rd, dd⟩ := dc_of S hy h1
        cases ry
        refine d_has ho hX (by omega) I rd dd h3 h2 hx rx fun s' I' => ?_
        rcases hd with ⟨rfl, rfl⟩ | ⟨rfl, rfl⟩
        · exact ⟨.bl _, H, I', rfl, q.same S rfl⟩
        · exact ⟨.bl _, H, I', rfl, q.same S rfl⟩
    split at eb
    · rename_i p qs e1 e2
      split at eb
      · rename_i hc
        simp only [Bool.and_eq_true] at hc
        cases eb
        cases e3 : memOf st dy with
        | none => rw [e3] at e2; cases e2
        | some ys =>
          rw [e3] at e2
          have two : (∃ ds, dy = .tup ds ∧ ds = ys) ∨ lsOf st dy = some ys := by cases dy <;> first | exact .inl ⟨_, rfl, Option.some.inj e3⟩ | exact .inr e3
          rcases two with ⟨_, rfl, rfl⟩ | e3
          · obtain ⟨a, xs, rfl, ha, na, ma, ra⟩ := hy
            have dl : Dp X.K H (.ref a) (.tuple qs) := .tup (SqT.of ha) (dps_of _ xs qs ra e2)
            have dx' := dp_of _ _ p hx e1
            obtain ⟨as, r1⟩ := Dp.reads I p x v dx' rx
            obtain ⟨bs, r2⟩ := Dp.reads I (.tuple qs) (.ref a) u dl ry
            rcases hd with ⟨rfl, rfl⟩ | ⟨rfl, rfl⟩
            · refine SeqAt.in_tuple_reads r2 r1 (SeqAt.canLay_of_shaped hc.2) (SeqAt.canLay_of_shaped hc.1) ?_ ⟨.bl _, H, I, rfl, q.same S rfl⟩
              exact room_in_shaped hc.1 (by omega)
            · refine SeqAt.notIn_tuple_reads r2 r1 (SeqAt.canLay_of_shaped hc.2) (SeqAt.canLay_of_shaped hc.1) ?_ ⟨.bl _, H, I, rfl, q.same S rfl⟩
              exact room_in_shaped hc.1 (by omega)
          obtain ⟨a, xs, rfl, ha, ra⟩ := ls_of S hy e3
          have dl : Dp X.K H (.ref a) (.list qs) := .lst ha (dps_of ys xs qs ra e2)
          have dx' := dp_of _ _ p hx e1
          rcases hd with ⟨rfl, rfl⟩ | ⟨rfl, rfl⟩
          · exact op_inD (by omega) pins s σ H _ _ v u Q I rx ry ⟨p, qs, dx', dl, hc.1, hc.2, q.same S rfl⟩
          · exact op_notInD (by omega) pins s σ H _ _ v u Q I rx ry ⟨p, qs, dx', dl, hc.1, hc.2, q.same S rfl⟩
      · cases eb
    · cases eb
theorem op_cmpD {o : CmpOp} (hX : X.prog = pw.P ∧ X.w = pw.w ∧ X.mg = pw.mg) (hu : X.A.units + 200 < cLine) : OpR X (compareOp o) (rCmp X.K o) := by
  by_cases h : o = .In ∨ o = .NotIn
  · exact op_inW hX hu h
  · exact op_cmp hu (fun z => h (.inl z)) (fun z => h (.inr z))

end
/-! ### what a loop walks -/
structure Src (K : PySem.W.Frag) (fb ι : List Addr) (H : Hp) (its : List D) (J : It) : Prop where
  ex : ∃ G Y, Walk J its.length G Y ∧ (∀ ι' H', GrowF fb ι H ι' H' → G H') ∧
    ∀ i x ι' H' H'' st' fb', i < its.length → (∀ a ∈ fb', a ∈ fb ∨ H a = none) → GrowF fb ι H ι' H' → RelS K H' fb' ι' st' → Y i H' x H'' → ∃ d, its[i]? = some d ∧ Grow ι' H' ι' H'' ∧ RelS K H'' fb' ι' st' ∧ Rel K H'' fb' ι' d x
/-- whether a list of the store comes to be walked -/
def lkOf (st : Store) (n : Option Nat) : Option Nat := match n with
  | some n => match st[n]? with
    | some o => if o.locked then none else some n
    | none => none
  | none => none
def lkS (st : Store) (n : Option Nat) : Store := match lkOf st n with
  | some n => match st[n]? with
    | some o => st.set n (o.setLock true)
    | none => st
  | none => st
section
variable {K : PySem.W.Frag} {H : Hp} {fb ι : List Addr} {st : Store}
theorem src_same {ds : List D} {xs : List V} {J : It} {G : Hp → Prop} (w : Walk J ds.length G (YAt xs)) (g : ∀ ι' H', GrowF fb ι H ι' H' → G H') (r : Rels K H fb ι ds xs) : Src K fb ι H ds J :=
  ⟨G, _, w, g, fun i x ι' H' H'' st' fb' hlt hf gr S y => by
    obtain ⟨rfl, hx⟩ := y
    have r' := r.go gr hf
    have hl : i < xs.length := (List.getElem?_eq_some_iff.mp hx).1
    have hd : i < ds.length := by rw [r.length]; exact hl
    obtain ⟨v, h1, h2⟩ := r'.get (i := i) (d := ds[i]) (by simp [hd])
    rw [hx] at h1; cases h1
    exact ⟨ds[i], by simp [hd], Grow.refl, S, h2⟩⟩
end
end Wk

set_option maxRecDepth 100000
set_option maxHeartbeats 1000000
/-! WkK: walks over dicts. -/
namespace Wk
open PySem PySem.Spec PyProof.Rows L2
variable [pw : PrW]

/-- keys that are tuples, of a locked dict -/
def ItkN (d : Addr) (o : Obj) (xs : List (NestedKey × Addr × Value)) : It where
  go := fun i H => H d = some (.frz o (dnHO d xs)) ∧ i < xs.length
  yld := fun i H x H' => H' = H ∧ ∃ q, xs[i]? = some q ∧ x = .ref q.2.1
  stop := fun i H => H d = some (.frz o (dnHO d xs)) ∧ xs.length ≤ i
theorem walk_keysN {d : Addr} {o : Obj} {xs : List (NestedKey × Addr × Value)} : Walk (ItkN d o xs) xs.length (fun H => H d = some (.frz o (dnHO d xs))) (fun i H x H' => H' = H ∧ ∃ q, xs[i]? = some q ∧ x = .ref q.2.1) :=
  ⟨fun _ _ hi q => ⟨q, hi⟩, fun _ q => ⟨q, Nat.le_refl _⟩, fun _ _ _ _ _ _ y => y⟩
section
variable {X : Cx} {pins : List (Addr × Obj)} {σ : L2.St} {H : Hp} {s : Shared} {d : Addr} {o : Obj}
theorem frzN {xs : List (NestedKey × Addr × Value)} (I : L2.Inv X pins σ H s) (h : H d = some (.frz o (dnHO d xs))) :
    (d == sysModules) = false ∧ s.heap.get? d = some o ∧ o.ExactDict ∧ ∃ (es : Array DictEntry) (ep : Nat), o.data = .dict es ep ∧ es.toList = xs.map (entryOfKey (nestedKind pw.P pw.w)) := by
  obtain ⟨hd, ⟨z, y, o', es, ep, e1, e2, e3, e4, e5⟩, _, _⟩ := I.hok d _ h
  rw [hd] at e1
  cases e1
  exact ⟨y, hd, e2, es, ep, e3, e4⟩
end
section
variable {P : Program} {w : World} {K : PySem.W.Frag} {tg : Expr} {d : Addr} {o : Obj} {es : Array DictEntry} {ep : Nat}
theorem turn_keysN {xs : List (NestedKey × Addr × Value)} (it : Addr) (hod : o.data = .dict es ep) : Turn P w K tg (ItkN d o xs) [it] it (fun i h => h.IsKeyIter it d i xs.length ep) := by
  refine ⟨by simp, fun i h st b hb => ?_, fun i h h' st k => st.at fun oi e => k it (by simp) oi e, ?_, ?_, fun A i s Q E st h => ?_⟩
  · obtain ⟨oi, e, c, dd⟩ := st
    cases (show b = it by simpa using hb)
    exact ⟨oi, e, fun v z => (by rw [dd] at z; cases z)⟩
  · intro X hP hw hK hc i pins s σ H E I hf st hg; subst hP hw hK
    obtain ⟨hd, hi⟩ := hg
    obtain ⟨f0, f1, f2, f3, f4, f5⟩ := hf it (by simp); obtain ⟨hs, hgd, hx, es', ep', hdt, he⟩ := frzN I hd
    obtain ⟨rfl, rfl⟩ := dict_ep hod hdt
    have hq : xs[i]? = some xs[i] := by simp [hi]
    have hen : es'[i]? = some (entryOfKey (nestedKind pw.P pw.w) xs[i]) := by rw [← Array.getElem?_toList, he, List.getElem?_map, hq]; rfl
    have hsz : es'.size = xs.length := by have := congrArg List.length he; simpa using this
    refine next_key_item st hgd hdt hsz hen fun h' st' sb => ?_
    have I1 : L2.Inv X pins σ H { s with heap := h' } := I.turned (t' := s.toks) (fun b ob hb e => (sb.2 b hb).trans e) f0 f1 f3 f4 f5
    obtain ⟨oi, e, c, dd⟩ := id st'; exact ⟨_, rfl, go_of (s := { s with heap := h' }) e c dd (by decide) ⟨.ref xs[i].2.1, H, I1, rfl, ⟨rfl, _, hq, rfl⟩, st', fun b hb => (hf b hb).1⟩⟩
  · intro X hP hw hK hc i pins s σ H E I hf st hg; subst hP hw hK
    obtain ⟨hd, hi⟩ := hg
    obtain ⟨f0, f1, f2, f3, f4, f5⟩ := hf it (by simp); obtain ⟨hs, hgd, hx, es', ep', hdt, he⟩ := frzN I hd
    obtain ⟨rfl, rfl⟩ := dict_ep hod hdt
    have hsz : es'.size = xs.length := by have := congrArg List.length he; simpa using this
    refine next_key_end (I.ok.hd hc) st hgd hdt hsz hi fun h' eb => ?_
    exact ⟨rfl, I.turned (t' := s.toks) (fun b ob hb e => eb b ob hb e) f0 f1 f3 f4 f5⟩
  · exact wpAny_pyIter_keyiter st h
end
section
variable {K : PySem.W.Frag} {H : Hp} {fb ι : List Addr} {st : Store}
theorem src_kA {a : Addr} {od : Obj} {kvs : List (L2.Key × V)} (h : H a = some (.frz od (.dK kvs))) : Src K fb ι H (kvs.map fun kv => kD kv.1) (Itk a od kvs) := by
  refine ⟨fun H => H a = some (.frz od (.dK kvs)), _, by rw [List.length_map]; exact walk_keys, fun ι' H' g => g.frz a _ _ h, ?_⟩
  intro i x ι' H' H'' st' fb' hlt hf g S y
  obtain ⟨rfl, k, v, hk, rfl⟩ := y
  refine ⟨kD k, by simp [hk], Grow.refl, S, ?_⟩
  cases k <;> rfl
theorem src_kT {a : Addr} {od : Obj} {xs : List (NestedKey × Addr × Value)} {ks : List D} (h : H a = some (.frz od (dnHO a xs))) (r : Rels K H fb ι ks (xs.map fun x => V.ref x.2.1)) : Src K fb ι H ks (ItkN a od xs) := by
  have hl : ks.length = xs.length := by have := r.length; simpa using this
  refine ⟨fun H => H a = some (.frz od (dnHO a xs)), _, by rw [hl]; exact walk_keysN, fun ι' H' g => g.frz a _ _ h, ?_⟩
  intro i x ι' H' H'' st' fb' hlt hf g S y
  obtain ⟨rfl, q, hq, rfl⟩ := y
  have r' := r.go g hf
  obtain ⟨v, h1, h2⟩ := r'.get (i := i) (d := ks[i]) (by simp [hlt])
  rw [List.getElem?_map, hq] at h1
  cases h1
  exact ⟨ks[i], by simp [hlt], Grow.refl, S, h2⟩
end
section
variable {X : Cx} {tg : Expr}
/-- a locked dict is walked -/
theorem it_dic {pins : List (Addr × Obj)} {σ : L2.St} {H : Hp} {s : Shared} {a : Addr} {R : It → Hp → Prop} {fb ι : List Addr} {od : Obj} {u : HO} {ks vs : List D} (I : L2.Inv X pins σ H s) (h : H a = some (.frz od u)) (d : DicU X.K H fb ι u a ks vs) (q : ∀ J, Src X.K fb ι H ks J → R J H) :
    wpAny (model X.prog X.w) X.A (pyIter (.ref a)) (PIE X pins σ tg R) X.xe s := by
  rcases d with ⟨kvs, rfl, hk, r⟩ | ⟨xs, ws, rfl, hk, hv, r1, r2⟩
  · subst hk
    obtain ⟨hs, hgd, hx, es, ep, vs', hdt, hsz, kv, hm⟩ := I.frzK h
    refine wpAny_pyIter_dict_raw hs ⟨od, hgd, hx, hdt⟩ (pi_one (tk := s.toks) I _ (turn_keys _ hdt) ⟨_, Heap.get?_push_size _ rfl, rfl, ?_⟩ (q _ (src_kA h)))
    rw [hsz]; rfl
  · obtain ⟨hs, hgd, hx, es, ep, hdt, he⟩ := frzN I h
    refine wpAny_pyIter_dict_raw hs ⟨od, hgd, hx, hdt⟩ (pi_one (tk := s.toks) I _ (turn_keysN _ hdt) ⟨_, Heap.get?_push_size _ rfl, rfl, ?_⟩ (q _ (src_kT h r1)))
    have hsz : es.size = xs.length := by have := congrArg List.length he; simpa using this
    rw [hsz]; rfl
end
end Wk

set_option maxRecDepth 100000
set_option maxHeartbeats 1000000
/-! Wk7: what is wanted of a yield; loops' sources in the text. -/
namespace Wk
open PySem PySem.Spec PyProof.Rows L2
variable [pw : PrW]

/-- r yields what ok | ex wants, wherever the heap may stand behind it -/
def Po {α : Type} (K : PySem.W.Frag) (fb : List Addr) (r : Option (Out α)) (ok : α → Store → List Addr → Hp → Prop) (ex : D → Store → List Addr → Hp → Prop) (ι : List Addr) (H : Hp) : Prop :=
  match r with
  | none => False
  | some (.ok a st') => ∀ ι' H', Grow ι H ι' H' → RelS K H' fb ι' st' → ok a st' ι' H'
  | some (.ex e st') => ∀ ι' H', Grow ι H ι' H' → RelS K H' fb ι' st' → ex e st' ι' H'
section
variable {α β : Type} {K : PySem.W.Frag} {fb : List Addr} {ok ok' : α → Store → List Addr → Hp → Prop} {ex ex' : D → Store → List Addr → Hp → Prop} {ι : List Addr} {H : Hp} {st : Store} {m : M α}
theorem Po.mono {r : Option (Out α)} (h : Po K fb r ok ex ι H) (h1 : ∀ a st' ι' H', Grow ι H ι' H' → RelS K H' fb ι' st' → ok a st' ι' H' → ok' a st' ι' H') (h2 : ∀ e st' ι' H', Grow ι H ι' H' → RelS K H' fb ι' st' → ex e st' ι' H' → ex' e st' ι' H') : Po K fb r ok' ex' ι H := by
  match r, h with
  | some (.ok a st'), h => exact fun ι' H' g S => h1 a st' ι' H' g S (h ι' H' g S)
  | some (.ex e st'), h => exact fun ι' H' g S => h2 e st' ι' H' g S (h ι' H' g S)
theorem Po.bind {f : α → M β} {ok : β → Store → List Addr → Hp → Prop} (h : Po K fb ((m >>= f) st) ok ex ι H) : Po K fb (m st) (fun a st1 ι1 H1 => Po K fb (f a st1) ok ex ι1 H1) ex ι H := by
  have h : Po K fb (M.bind m f st) ok ex ι H := h
  unfold M.bind at h
  match hm : m st, h with
  | none, h => exact h
  | some (.ok a st1), h =>
    intro ι1 H1 g1 S1
    match hf : f a st1, h with
    | none, h => simp only [hf] at h; exact h.elim
    | some (.ok b st2), h =>
      simp only [hf] at h
      exact fun ι2 H2 g2 S2 => h ι2 H2 (g1.trans g2) S2
    | some (.ex e st2), h =>
      simp only [hf] at h
      exact fun ι2 H2 g2 S2 => h ι2 H2 (g1.trans g2) S2
  | some (.ex e st1), h => exact h
theorem Po.ret {a : α} (h : Po K fb ((pure a : M α) st) ok ex ι H) (S : RelS K H fb ι st) : ok a st ι H := h ι H Grow.refl S
theorem Po.of {o : Option α} (h : Po K fb (M.of o st) ok ex ι H) : ∃ a, o = some a ∧ Po K fb (some (.ok a st)) ok ex ι H := by
  cases o with
  | none => exact h.elim
  | some a => exact ⟨a, rfl, h⟩
theorem Po.rd {f : Store → Option α} (h : Po K fb (M.rd f st) ok ex ι H) : ∃ a, f st = some a ∧ Po K fb (some (.ok a st)) ok ex ι H := by
  unfold M.rd at h
  cases q : f st with
  | none => rw [q] at h; exact h.elim
  | some a => rw [q] at h; exact ⟨a, rfl, h⟩
theorem Po.wr {f : Store → Option (α × Store)} (h : Po K fb (M.wr f st) ok ex ι H) : ∃ a st', f st = some (a, st') ∧ Po K fb (some (.ok a st')) ok ex ι H := by
  unfold M.wr at h
  cases q : f st with
  | none => rw [q] at h; exact h.elim
  | some p => obtain ⟨a, st'⟩ := p; rw [q] at h; exact ⟨a, st', rfl, h⟩
theorem Po.ite {c : Bool} {m1 m2 : M α} (h : Po K fb ((if c then m1 else m2) st) ok ex ι H) : if c = true then Po K fb (m1 st) ok ex ι H else Po K fb (m2 st) ok ex ι H := by
  cases c with
  | true => exact h
  | false => exact h
end
theorem Yl.of {K : PySem.W.Frag} {fb ι : List Addr} {st : Store} {d : D} {Q : VK} {H : Hp} {ex : D → Store → List Addr → Hp → Prop} (h : Po K fb (some (.ok d st)) (fun d _ ι' H' => ∀ v, Rel K H' fb ι' d v → Q v H') ex ι H) : Yl K fb ι st d Q H :=
  fun ι' H' g S v r => h ι' H' g S v r

/-! ### an own exception on its way -/
def RelX (mg : Str → Option Value) (e : D) (cls : Value) (dx : Option Addr) : Prop := ∃ c C, e = .exc c [] ∧ mg c = some (.ref C) ∧ cls = .ref C ∧ dx = none

/-- an expression's reading -/
def sE (X : Cx) (C : Ctx) (W : WX) (e : Ex) : TE := fun σ H Q => ∃ fb ι env st, RelE X.K H fb ι env σ ∧ RelS X.K H fb ι st ∧
  Po X.K fb (evE C e env st) (fun d _ ι' H' => ∀ v, Rel X.K H' fb ι' d v → Q v H') (fun e _ ι' H' => ∀ cls dx, RelX X.mg e cls dx → W cls dx σ H') ι H
def sT (X : Cx) (C : Ctx) (W : WX) (e : Ex) : TT := fun σ H Q => ∃ fb ι env st, RelE X.K H fb ι env σ ∧ RelS X.K H fb ι st ∧
  Po X.K fb ((evE C e env >>= asB) st) (fun b _ _ H' => Q b H') (fun e _ ι' H' => ∀ cls dx, RelX X.mg e cls dx → W cls dx σ H') ι H
def sA (X : Cx) (C : Ctx) (W : WX) (es : Exs) : TA := fun σ H Q => ∃ fb ι env st, RelE X.K H fb ι env σ ∧ RelS X.K H fb ι st ∧
  Po X.K fb (evA C es env st) (fun ds _ ι' H' => ∀ vs, Rels X.K H' fb ι' ds vs → Q vs H') (fun e _ ι' H' => ∀ cls dx, RelX X.mg e cls dx → W cls dx σ H') ι H
theorem PE.weaken {X : Cx} {e : Expr} {t t' : TE} (h : PE X e t) (w : ∀ σ H Q, t' σ H Q → t σ H Q) : PE X e t' := ⟨fun pins s σ H Q I q => h.run pins s σ H Q I (w σ H Q q)⟩
theorem PT.weaken {X : Cx} {e : Expr} {t t' : TT} (h : PT X e t) (w : ∀ σ H Q, t' σ H Q → t σ H Q) : PT X e t' := ⟨fun pins s σ H Q I q => h.run pins s σ H Q I (w σ H Q q)⟩
theorem PW.weaken {X : Cx} {e : Expr} {t t' : TT} (h : PW X e t) (w : ∀ σ H Q, t' σ H Q → t σ H Q) : PW X e t' := ⟨fun wh pins s σ H Q I q => h.run wh pins s σ H Q I (w σ H Q q)⟩
theorem PA.weaken {X : Cx} {e : List Expr} {t t' : TA} (h : PA X e t) (w : ∀ σ H Q, t' σ H Q → t σ H Q) : PA X e t' := ⟨fun pos pins s σ H Q I q => h.run pos pins s σ H Q I (w σ H Q q)⟩
theorem PS.weaken {X : Cx} {e : Stmt} {t t' : TS} (h : PS X e t) (w : ∀ D σ H, t' D σ H → t D σ H) : PS X e t' := ⟨fun pins s σ H D I q => h.run pins s σ H D I (w D σ H q)⟩
theorem PSs.weaken {X : Cx} {e : List Stmt} {t t' : TS} (h : PSs X e t) (w : ∀ D σ H, t' D σ H → t D σ H) : PSs X e t' := ⟨fun pins s σ H D I q => h.run pins s σ H D I (w D σ H q)⟩
theorem PI.weaken {X : Cx} {tg e : Expr} {t t' : TI} (h : PI X tg e t) (w : ∀ σ H R, t' σ H R → t σ H R) : PI X tg e t' := ⟨fun pins s σ H R I q => h.run pins s σ H R I (w σ H R q)⟩

/-! ### sources -/
/-- a source by values, what it walks locked where it is the store's own -/
def rSrc (X : Cx) (k : IK) (vs : List V) (H : Hp) (R : It → Hp → Prop) : Prop := ∃ fb ι st ds its n, RelS X.K H fb ι st ∧ Rels X.K H fb ι ds vs ∧ itD k ds st = some (its, n) ∧
  ((lkOf st n = none ∧ ∀ J, Src X.K fb ι H its J → R J H) ∨
   (∃ m a u, lkOf st n = some m ∧ ι[m]? = some a ∧ H a = some u ∧ Mut (some u) ∧ ((∀ o' u', X.H_0 a ≠ some (.frz o' u')) → ∀ od J, Src X.K fb ι (upd H a (.frz od u)) its J → R J (upd H a (.frz od u)))))
section
variable {K : PySem.W.Frag} {H : Hp} {fb ι : List Addr} {st : Store}
theorem src_tup {ds : List D} {xs : List V} {a : Addr} (S : RelS K H fb ι st) (h : H a = some (.tup xs)) (n : a ∉ ι) (m : a ∉ fb) (r : Rels K H fb ι ds xs) : Src K fb ι H ds (Itt K a) := by
  refine src_same (G := fun H => SqT K H a xs) ?_ (fun ι' H' g => SqT.of (g.keep a _ h n m)) r
  rw [r.length]
  exact walk_tup
theorem src_lst {ds : List D} {xs : List V} {a : Addr} (h : H a = some (.lst xs)) (n : a ∉ ι) (m : a ∉ fb) (r : Rels K H fb ι ds xs) : Src K fb ι H ds (Itl K a) := by
  refine src_same (G := fun H => SqL K H a xs) ?_ (fun ι' H' g => SqL.of (g.keep a _ h n m)) r
  rw [r.length]
  exact walk_list
theorem src_frz {ds : List D} {xs : List V} {a : Addr} {od : Obj} (h : H a = some (.frz od (.lst xs))) (r : Rels K H fb ι ds xs) : Src K fb ι H ds (Itl K a) := by
  refine src_same (G := fun H => SqL K H a xs) ?_ (fun ι' H' g => .inl (.inr ⟨od, g.frz a od _ h⟩)) r
  rw [r.length]
  exact walk_list
theorem src_str {x : Str} : Src K fb ι H (x.cps.toList.map fun c => .str ⟨#[c]⟩) (Its x) := by
  refine ⟨fun _ => True, fun i H v H' => H' = H ∧ ∃ c, x.cps[i]? = some c ∧ v = .str ⟨#[c]⟩, ?_, fun _ _ _ => trivial, ?_⟩
  · rw [List.length_map, Array.length_toList]
    exact walk_str
  · intro i v ι' H' H'' st' fb' hlt hf g S y
    obtain ⟨rfl, c, hc, rfl⟩ := y
    exact ⟨.str ⟨#[c]⟩, by simp [hc], Grow.refl, S, rfl⟩
theorem src_fn {J : It} {n : Nat} {G : Hp → Prop} {f : Nat → Int} (w : Walk J n G (YFn fun i => .int (f i))) (g : ∀ H, G H) : Src K fb ι H ((List.range n).map fun i => .int (f i)) J := by
  refine ⟨G, _, by rw [List.length_map, List.length_range]; exact w, fun _ H' _ => g H', ?_⟩
  intro i v ι' H' H'' st' fb' hlt hf gr S y
  obtain ⟨rfl, rfl⟩ := y
  rw [List.length_map, List.length_range] at hlt
  exact ⟨.int (f i), by simp [hlt], Grow.refl, S, rfl⟩
theorem src_pair {J : It} {its : List D} {G : Hp → Prop} {f g : Nat → Option V} {fd gd : Nat → D} (w : Walk J its.length G (YPair f g)) (hG : ∀ ι' H', GrowF fb ι H ι' H' → G H') (hi : ∀ i, i < its.length → its[i]? = some (.tup [fd i, gd i]))
    (hff : ∀ i x ι' H' fb', i < its.length → (∀ a ∈ fb', a ∈ fb ∨ H a = none) → GrowF fb ι H ι' H' → f i = some x → Rel K H' fb' ι' (fd i) x) (hgg : ∀ i x ι' H' fb', i < its.length → (∀ a ∈ fb', a ∈ fb ∨ H a = none) → GrowF fb ι H ι' H' → g i = some x → Rel K H' fb' ι' (gd i) x) : Src K fb ι H its J := by
  refine ⟨G, _, w, hG, ?_⟩
  intro i v ι' H' H'' st' fb' hlt hf gr S y
  obtain ⟨T, x, y, rfl, hT, rfl, h1, h2⟩ := y
  refine ⟨_, hi i hlt, Grow.laid hT, S.laid hT, ?_⟩
  have r1 := hff i x ι' H' fb' hlt hf gr h1
  have r2 := hgg i y ι' H' fb' hlt hf gr h2
  exact rel_tup S hT ⟨x, [y], rfl, r1, y, [], rfl, r2, rfl⟩
theorem zipIdx_at {ds : List D} {i : Nat} (h : i < ds.length) : (ds.zipIdx.map fun p => D.tup [.int p.2, p.1])[i]? = some (.tup [.int i, ds.getD i .non]) := by
  simp [h, List.getD]
theorem rel_at {ds : List D} {xs : List V} {i : Nat} {x : V} (r : Rels K H fb ι ds xs) (h : xs[i]? = some x) : Rel K H fb ι (ds.getD i .non) x := by
  have hl : i < ds.length := by
    have := (List.getElem?_eq_some_iff.mp h).1
    rw [r.length]; exact this
  obtain ⟨v, h1, h2⟩ := r.get (i := i) (d := ds[i]) (by simp [hl])
  rw [h] at h1; cases h1
  simpa [List.getD, hl] using h2
theorem walk_enumT {K : PySem.W.Frag} {a : Addr} {xs : List V} : Walk (IteT K a) xs.length (fun H => SqT K H a xs) (YPair (fun i => some (.int (i : Nat))) (fun i => xs[i]?)) := by
  refine ⟨fun i _ hi q => ⟨xs, xs[i], q, by simp [hi]⟩, fun _ q => ⟨xs, q, rfl⟩, fun i H v H' _ q y => ?_⟩
  obtain ⟨T, x, h1, h2, h3, h4⟩ := y
  exact ⟨T, .int (i : Nat), x, h1, h2, h3, rfl, h4 xs q⟩
theorem src_enum {J : It} {ds : List D} {xs : List V} {G : Hp → Prop} (w : Walk J xs.length G (YPair (fun i => some (.int (i : Nat))) (fun i => xs[i]?))) (hG : ∀ ι' H', GrowF fb ι H ι' H' → G H') (r : Rels K H fb ι ds xs) :
    Src K fb ι H (ds.zipIdx.map fun p => D.tup [.int p.2, p.1]) J := by
  have e : (ds.zipIdx.map fun p => D.tup [.int p.2, p.1]).length = xs.length := by simp [r.length]
  refine src_pair (fd := fun i => .int i) (gd := fun i => ds.getD i .non) (by rw [e]; exact w) hG (fun i hi => zipIdx_at (by rw [e] at hi; rw [r.length]; exact hi)) ?_ ?_
  · intro i x ι' H' fb' _ _ _ h; cases h; rfl
  · intro i x ι' H' fb' _ hf g h
    exact rel_at (r.go g hf) h
theorem walk_zipT {K : PySem.W.Frag} {a b : Addr} {xs ys : List V} {n : Nat} (hn : n = min xs.length ys.length) : Walk (RZ.ItzT K a b) n (fun H => SqT K H a xs ∧ SqT K H b ys) (YPair (fun i => xs[i]?) (fun i => ys[i]?)) := by
  subst hn
  refine ⟨fun i _ hi q => ?_, fun _ q => ⟨xs, ys, q.1, q.2, by omega⟩, fun i H v H' _ q y => ?_⟩
  · have h1 : i < xs.length := by omega
    have h2 : i < ys.length := by omega
    exact ⟨xs, ys, xs[i], ys[i], q.1, q.2, by simp [h1], by simp [h2]⟩
  · obtain ⟨T, x, z, h1, h2, h3, h4, h5⟩ := y
    exact ⟨T, x, z, h1, h2, h3, h4 xs q.1, h5 ys q.2⟩
theorem src_zip {J : It} {ds es : List D} {xs ys : List V} {G : Hp → Prop} (w : Walk J (min xs.length ys.length) G (YPair (fun i => xs[i]?) (fun i => ys[i]?))) (hG : ∀ ι' H', GrowF fb ι H ι' H' → G H') (r : Rels K H fb ι ds xs) (q : Rels K H fb ι es ys) :
    Src K fb ι H ((ds.zip es).map fun p => D.tup [p.1, p.2]) J := by
  have e : ((ds.zip es).map fun p => D.tup [p.1, p.2]).length = min xs.length ys.length := by simp [r.length, q.length]
  refine src_pair (fd := fun i => ds.getD i .non) (gd := fun i => es.getD i .non) (by rw [e]; exact w) hG (fun i hi => ?_) ?_ ?_
  · rw [e, ← r.length, ← q.length] at hi
    have h1 : i < ds.length := by omega
    have h2 : i < es.length := by omega
    simp [List.getD, h1, h2, List.getElem?_zip_eq_some]
  · intro i x ι' H' fb' _ hf g h
    exact rel_at (r.go g hf) h
  · intro i x ι' H' fb' _ hf g h
    exact rel_at (q.go g hf) h
end
/-! ### sources in the text -/
section
variable {X : Cx} {tg : Expr}
/-- a walked value -/
theorem it_val {pins : List (Addr × Obj)} {σ : L2.St} {H : Hp} {s : Shared} {x : V} {v : Value} {R : It → Hp → Prop} (I : L2.Inv X pins σ H s) (r : L2.RelV x v) (h : rSrc X .val [x] H R) :
    wpAny (model X.prog X.w) X.A (pyIter v) (PIE X pins σ tg R) X.xe s := by
  obtain ⟨fb, ι, st, ds, its, n, S, hd, e, h⟩ := h
  have goL : ∀ {H2 : Hp} {a : Addr} {xs : List V}, L2.Inv X pins σ H2 s → v = .ref a → SqL X.K H2 a xs → R (Itl X.K a) H2 → wpAny (model X.prog X.w) X.A (pyIter v) (PIE X pins σ tg R) X.xe s := fun {H2 a xs} I2 ev hq q => by
    subst ev
    obtain ⟨its, rv, p, hz⟩ := I2.list hq
    refine wpAny_pyIter_list p.isList ?_
    refine ⟨s.heap.objs.size, [s.heap.objs.size], _, _, H2, rfl, I2.kept (t' := s.toks) fun b o e => Heap.get?_push_of_some _ e, turn_list a _, ⟨_, Heap.get?_push_size _ rfl, rfl, rfl⟩, fun b hb => ?_, q⟩
    have e : b = s.heap.objs.size := by simpa using hb
    subst e
    exact I2.fpOk (Nat.le_refl _) (I2.hok.fresh (Nat.le_refl _))
  replace e : itVal ds st = some (its, n) := e
  unfold itVal at e
  split at e
  · rename_i es
    cases e
    obtain ⟨y, ey, hx⟩ := rels1 hd
    cases ey
    obtain ⟨a, xs, rfl, q, na, ma, rr⟩ := hx
    cases r
    rcases h with ⟨_, h⟩ | ⟨m, a, u, hm, _⟩
    · obtain ⟨its, rv, p, hz⟩ := I.tuple (SqT.of q)
      refine wpAny_pyIter_tuple (show s.heap.IsTuple a its.toArray from p) ?_
      refine ⟨s.heap.objs.size, [s.heap.objs.size], _, _, H, rfl, I.kept (t' := s.toks) fun b o e => Heap.get?_push_of_some _ e, turn_tuple a _, ⟨_, Heap.get?_push_size _ rfl, rfl, rfl⟩, fun b hb => ?_, h _ (src_tup S q na ma rr)⟩
      have e : b = s.heap.objs.size := by simpa using hb
      subst e
      exact I.fpOk (Nat.le_refl _) (I.hok.fresh (Nat.le_refl _))
    · cases hm
  · rename_i es
    cases e
    obtain ⟨y, ey, hx⟩ := rels1 hd
    cases ey
    obtain ⟨a, xs, rfl, q, na, ma, rr⟩ := hx
    rcases h with ⟨_, h⟩ | ⟨m, a, u, hm, _⟩
    · exact goL I r (SqL.of q) (h _ (src_lst q na ma rr))
    · cases hm
  · rename_i z
    cases e
    obtain ⟨y, ey, hx⟩ := rels1 hd
    cases ey
    cases hx
    rcases h with ⟨_, h⟩ | ⟨m, a, u, hm, _⟩
    · obtain ⟨t, rfl⟩ := r
      have q := h _ (src_str (K := X.K) (fb := fb) (ι := ι) (H := H) (x := z))
      cases ha : z.cps.all (· < 128)
      · exact wpAny_pyIter_wide ha (pi_one (tk := s.toks) I _ (turn_str _ z t "str_iterator" (.inr rfl)) ⟨_, Heap.get?_push_size _ rfl, rfl, rfl⟩ q)
      · exact wpAny_pyIter_ascii ha (pi_one (tk := s.toks) I _ (turn_str _ z t "str_ascii_iterator" (.inl rfl)) ⟨_, Heap.get?_push_size _ rfl, rfl, rfl⟩ q)
    · cases hm
  · rename_i k
    obtain ⟨y, ey, hx⟩ := rels1 hd
    cases ey
    obtain ⟨a, rfl, hi⟩ := hx
    cases hk : st[k]? with
    | none => rw [hk] at e; cases e
    | some o =>
      rw [hk] at e
      cases o with
      | dic l ks vs =>
        cases e
        obtain ⟨w, d, ro⟩ := S.at_ k _ a hk hi
        cases r
        cases l with
        | true =>
          obtain ⟨od, ro⟩ := ro
          rcases h with ⟨_, h⟩ | ⟨m, a', u, hm, _⟩
          · exact it_dic I ro d h
          · simp [lkOf, hk, Ob.locked] at hm
        | false =>
          rcases h with ⟨hm, h⟩ | ⟨m, a', u, hm, hi', hu, mu, h⟩
          · simp [lkOf, hk, Ob.locked] at hm
          · have em : m = k := by simpa [lkOf, hk, Ob.locked] using hm.symm
            subst em
            rw [hi] at hi'; cases hi'
            rw [ro] at hu; cases hu
            obtain ⟨od, I2⟩ := I.lock ro mu
            exact it_dic I2 upd_same (d.map fun ds xs _ r => Rels.mono (Grow.wr (List.mem_of_getElem? hi) ro (fun o' u' z => by rw [z] at mu; exact mu)) ds xs r) fun J hJ => h (I.nofrz ro mu) od J hJ
      | lst l es =>
        cases e
        have ro := S.at_ k _ a hk hi
        cases l with
        | true =>
          obtain ⟨od, xs, h1, h2⟩ := ro
          rcases h with ⟨_, h⟩ | ⟨m, a', u, hm, _⟩
          · exact goL I r (.inl (.inr ⟨od, h1⟩)) (h _ (src_frz h1 h2))
          · simp [lkOf, hk, Ob.locked] at hm
        | false =>
          obtain ⟨xs, h1, h2⟩ := ro
          rcases h with ⟨hm, h⟩ | ⟨m, a', u, hm, hi', hu, mu, h⟩
          · simp [lkOf, hk, Ob.locked] at hm
          · have em : m = k := by simpa [lkOf, hk, Ob.locked] using hm.symm
            subst em
            rw [hi] at hi'; cases hi'
            rw [h1] at hu; cases hu
            obtain ⟨od, I2⟩ := I.lock h1 trivial
            refine goL I2 r (.inl (.inr ⟨od, upd_same⟩)) (h (I.nofrz h1 trivial) od _ ?_)
            exact src_frz (xs := xs) upd_same (Rels.mono (Grow.wr (List.mem_of_getElem? hi) h1 (fun _ _ z => nomatch z)) _ _ h2)
  · cases e
end
end Wk

set_option maxRecDepth 100000
set_option maxHeartbeats 1000000
/-! Wk8: each construct of an expression. -/
namespace Wk
open PySem PySem.Spec PyProof.Rows L2
variable [pw : PrW]

/-! ### a def's promise -/
structure FnG (P : Program) (w : World) (K : PySem.W.Frag) (mg : Str → Option Value) (base : Heap) (k : Nat) (f : Addr) (fd : FuncData) (ps : List Str) (sp : Sp) : Prop where
  len : ∀ vs H Q E, sp vs H Q E → vs.length = ps.length
  run : ∀ (A : Around) (outer : List PySem.Env) (s : Shared) (H : Hp) (args : Args) (us : List Value) (vs : List V) (Q : VK) (E : XK), Room k A → A.guards = some [] → Env0 P w K mg base A outer s H →
    BindsTo s fd args (ps.zip us) → Vals vs us → sp vs H Q E → codeAny (model P w) A (.call (.ref f) args) (CR (L2.CX P w) outer P w H s Q E) s
/-- what the n-argument def f of the text keeps: it yields as C.call says -/
def spOf (K : PySem.W.Frag) (mg : Str → Option Value) (C : Ctx) (f : Str) : Sp := fun vs H Q E => ∃ fb ι st ds, RelS K H fb ι st ∧ Rels K H fb ι ds vs ∧
  Po K fb (C.call f ds st) (fun d _ ι' H' => ∀ v, Rel K H' fb ι' d v → Q v H') (fun e _ ι' H' => ∀ cls dx, RelX mg e cls dx → E cls dx H') ι H
/-- the text's tables -/
structure Pr where
  fns : Str → Option Fn
  globs : Str → Option D
  blts : List Str
  excs : List Str
  isx : List (Str × Str × Bool)
/-- the class that a name stands for -/
def ClsV (mg : Str → Option Value) (c : Str) (cv : Value) : Prop := (mg c = some cv ∧ ∃ C, cv = .ref C) ∨ (mg c = none ∧ bootBuiltins c = some cv ∧ c ≠ "__name__" ∧ ∃ t, cv = .type t)
/-- own exceptions, asked for a class -/
def IsxOk (K : PySem.W.Frag) (mg : Str → Option Value) (q : Str × Str × Bool) : Prop := ∃ D cv, mg q.1 = some (.ref D) ∧ ExcC K D ∧ ClsV mg q.2.1 cv ∧ PySem.W.kitOne K (.ref D) cv = some q.2.2 ∧ PySem.W.exmOne K (.ref D) cv = some q.2.2
structure Txt (G : Pr) (P : Program) (w : World) (K : PySem.W.Frag) (mg : Str → Option Value) (base : Heap) (C : Ctx) (k : Nat) : Prop where
  fn : ∀ f F, G.fns f = some F → ∃ fa fd ps, ps.length = F.p ∧ mg f = some (.ref fa) ∧ PySem.W.keepIn K (.ref fa) = true ∧ Binds K fd ps [] ∧ FnG P w K mg base k fa fd ps (spOf K mg C f)
  blt : ∀ b ∈ G.blts, mg b = none
  glo : ∀ x d, C.glob x = some d → ∃ v u, mg x = some u ∧ L2.RelV v u ∧ ∀ H fb ι, Rel K H fb ι d v
  exc : ∀ c ∈ G.excs, ∃ Ca, mg c = some (.ref Ca) ∧ PySem.W.excIn K Ca He.veBase "ValueError.__new__" = true ∧ PySem.W.keepIn K (.ref Ca) = true ∧ PySem.W.subIn K (.ref Ca) (.type "BaseException") = some true ∧ PySem.W.typeIn K (.ref Ca) = some (.type "type")
  isx : ∀ q ∈ G.isx, IsxOk K mg q
structure Cok (G : Pr) (X : Cx) (C : Ctx) (W : WX) (k : Nat) : Prop where
  calm : X.calm = true
  hX : X.prog = pw.P ∧ X.w = pw.w ∧ X.mg = pw.mg
  nd : X.N.Nodup
  gd : X.A.guards = some []
  room : Room k X.A
  tk : Takes X W
  txt : Txt G X.prog X.w X.K X.mg X.base C k
theorem Cok.hu {G : Pr} {X : Cx} {C : Ctx} {W : WX} {k : Nat} (h : Cok G X C W k) : X.A.units + 200 < cLine := by have := h.room.un; omega

section
variable {G : Pr} {X : Cx} {C : Ctx} {W : WX} {k : Nat}
abbrev okE (K : PySem.W.Frag) (fb : List Addr) (Q : VK) : D → Store → List Addr → Hp → Prop := fun d _ ι' H' => ∀ v, Rel K H' fb ι' d v → Q v H'
abbrev exE (mg : Str → Option Value) (W : WX) (σ : L2.St) : D → Store → List Addr → Hp → Prop := fun e _ _ H' => ∀ cls dx, RelX mg e cls dx → W cls dx σ H'
theorem retE {K : PySem.W.Frag} {fb ι : List Addr} {st : Store} {H : Hp} {d : D} {Q : VK} {ex : D → Store → List Addr → Hp → Prop} {v : V} (h : Po K fb ((pure d : M D) st) (okE K fb Q) ex ι H) (S : RelS K H fb ι st) (r : Rel K H fb ι d v) : Q v H := h ι H Grow.refl S v r
/-- one part, then f -/
theorem s_bind1 {ex a : Ex} {f : D → M D} (hev : ∀ env, evE C ex env = evE C a env >>= f) {σ : L2.St} {H : Hp} {Q : VK} (h : sE X C W ex σ H Q) :
    sE X C W a σ H fun x H1 => ∃ fb ι st dx, RelS X.K H1 fb ι st ∧ Rel X.K H1 fb ι dx x ∧ Po X.K fb (f dx st) (okE X.K fb Q) (exE X.mg W σ) ι H1 := by
  obtain ⟨fb, ι, env, st, he, hs, hp⟩ := h
  rw [hev] at hp
  exact ⟨fb, ι, env, st, he, hs, hp.bind.mono (fun d st1 ι1 H1 g S q v r => ⟨fb, ι1, st1, d, S, r, q⟩) fun _ _ _ _ _ _ q => q⟩
/-- two parts, then f -/
theorem s_bind2 {ex a b : Ex} {f : D → D → M D} (hev : ∀ env, evE C ex env = evE C a env >>= fun x => evE C b env >>= fun y => f x y) {σ : L2.St} {H : Hp} {Q : VK} (h : sE X C W ex σ H Q) :
    sE X C W a σ H fun x H1 => sE X C W b σ H1 fun y H2 => ∃ fb ι st dx dy, RelS X.K H2 fb ι st ∧ Rel X.K H2 fb ι dx x ∧ Rel X.K H2 fb ι dy y ∧ Po X.K fb (f dx dy st) (okE X.K fb Q) (exE X.mg W σ) ι H2 := by
  obtain ⟨fb, ι, env, st, he, hs, hp⟩ := h
  rw [hev] at hp
  exact ⟨fb, ι, env, st, he, hs, hp.bind.mono (fun d st1 ι1 H1 g S q v r => ⟨fb, ι1, env, st1, he.mono g, S, q.bind.mono (fun d2 st2 ι2 H2 g2 S2 q2 v2 r2 => ⟨fb, ι2, st2, d, d2, S2, r.mono g2, r2, q2⟩) fun _ _ _ _ _ _ q => q⟩) fun _ _ _ _ _ _ q => q⟩
theorem s_cst {c : D} {v : V} {e : Expr} (hv : ∀ K H fb ι, Rel K H fb ι c v) (he : PE X e (tC v)) : PE X e (sE X C W (.cst c)) :=
  PE.weaken he fun σ H Q ⟨fb, ι, env, st, hE, hS, hp⟩ => hp.ret hS v (hv _ _ _ _)
theorem s_var {i : Nat} {x : Str} {pos : Pos} (hN : X.N[i]? = some x) (hv : Vis X.env.scope x) (hd : (x == ("__debug__" : Str)) = false) (hcd : (x == ("__classdict__" : Str)) = false) : PE X (.Name x pos) (sE X C W (.var i)) :=
  PE.weaken (pe_var (i := i) hN hv hd hcd) fun σ H Q ⟨fb, ι, env, st, hE, hS, hp⟩ => by
    obtain ⟨d, e, q⟩ := Po.of hp
    have e : env[i]? = some (some d) := by
      cases h : env[i]? with
      | none => rw [h] at e; cases e
      | some o => rw [h] at e; have : o = some d := e; rw [this]
    obtain ⟨v, h1, h2⟩ := hE.2 i d e
    exact ⟨v, h1, q ι H Grow.refl hS v h2⟩
theorem s_gst (ok : Cok G X C W k) {x : Str} {pos : Pos} (hg : Gl X x) (hd : (x == ("__debug__" : Str)) = false) : PE X (.Name x pos) (sE X C W (.gst x)) := by
  cases h : C.glob x with
  | none => exact ⟨fun pins s σ H Q I ⟨fb, ι, env, st, hE, hS, hp⟩ => by
      obtain ⟨d, e, q⟩ := Po.of hp
      rw [h] at e; cases e⟩
  | some d =>
    obtain ⟨v, u, h1, h2, h3⟩ := ok.txt.glo x d h
    refine PE.weaken (pe_glob hg h1 h2 hd) fun σ H Q ⟨fb, ι, env, st, hE, hS, hp⟩ => ?_
    obtain ⟨d', e, q⟩ := Po.of hp
    rw [h] at e; cases e
    exact q ι H Grow.refl hS v (h3 _ _ _)
theorem sE.mono {a : Ex} {σ : L2.St} {H : Hp} {Q Q' : VK} (h : sE X C W a σ H Q) (m : ∀ x H1, Q x H1 → Q' x H1) : sE X C W a σ H Q' := by
  obtain ⟨fb, ι, env, st, he, hs, hp⟩ := h
  exact ⟨fb, ι, env, st, he, hs, hp.mono (fun d st1 ι1 H1 g S q v r => m v H1 (q v r)) fun _ _ _ _ _ _ q => q⟩
theorem sA.mono {a : Exs} {σ : L2.St} {H : Hp} {Q Q' : List V → Hp → Prop} (h : sA X C W a σ H Q) (m : ∀ x H1, Q x H1 → Q' x H1) : sA X C W a σ H Q' := by
  obtain ⟨fb, ι, env, st, he, hs, hp⟩ := h
  exact ⟨fb, ι, env, st, he, hs, hp.mono (fun d st1 ι1 H1 g S q v r => m v H1 (q v r)) fun _ _ _ _ _ _ q => q⟩
theorem s_bin {o : Operator} {a b : Ex} {a' b' : Expr} {pos : Pos} (ha : PE X a' (sE X C W a)) (hb : PE X b' (sE X C W b)) : PE X (.BinOp a' o b' pos) (sE X C W (.bin o a b)) :=
  PE.weaken (pe_op op_bin ha hb) fun σ H Q h =>
    (s_bind2 (f := fun x y => .rd (binD o x y)) (fun _ => rfl) h).mono fun x H1 q => q.mono fun y H2 ⟨fb, ι, st, dx, dy, S, rx, ry, q⟩ => by
      obtain ⟨d, e, q⟩ := q.rd
      exact ⟨fb, ι, st, dx, dy, d, S, rx, ry, e, Yl.of q⟩
theorem s_neg {a : Ex} {a' : Expr} {pos : Pos} (ha : PE X a' (sE X C W a)) : PE X (.UnaryOp .USub a' pos) (sE X C W (.neg a)) :=
  PE.weaken (pe_un un_neg ha) fun σ H Q h =>
    (s_bind1 (f := fun x => match x with
      | .int i => pure (.int (-i))
      | _ => .no) (fun _ => rfl) h).mono fun x H1 ⟨fb, ι, st, dx, S, rx, q⟩ => by
      cases dx with
      | int i => cases rx; exact ⟨i, rfl, q.ret S _ rfl⟩
      | _ => exact q.elim
theorem s_cmp (ok : Cok G X C W k) {o : CmpOp} {a b : Ex} {a' b' : Expr} {pos : Pos} (ha : PE X a' (sE X C W a)) (hb : PE X b' (sE X C W b)) (hm : behindInMarks o b' = false) : PE X (.Compare a' [o] [b'] pos) (sE X C W (.cmp o a b)) :=
  PE.weaken (pe_cmpR (op_cmpD ok.hX ok.hu) ha hb hm) fun σ H Q h =>
    (s_bind2 (f := fun x y => .rd fun st => (cmpD o x y st).map .bl) (fun _ => rfl) h).mono fun x H1 q => q.mono fun y H2 ⟨fb, ι, st, dx, dy, S, rx, ry, q⟩ => by
      obtain ⟨d, e, q⟩ := q.rd
      exact ⟨fb, ι, st, dx, dy, d, S, rx, ry, e, Yl.of q⟩
/-- a bool at a yield -/
theorem asB_ok {α : Type} {K : PySem.W.Frag} {fb : List Addr} {d : D} {f : Bool → M α} {st : Store} {ok : α → Store → List Addr → Hp → Prop} {ex : D → Store → List Addr → Hp → Prop} {ι : List Addr} {H : Hp}
    (h : Po K fb ((asB d >>= f) st) ok ex ι H) : ∃ b, d = .bl b ∧ Po K fb (f b st) ok ex ι H := by
  cases d with
  | bl b => exact ⟨b, rfl, h⟩
  | _ => exact h.elim
theorem sT_of {a : Ex} {σ : L2.St} {H : Hp} {Q : Bool → Hp → Prop} (h : sT X C W a σ H Q) : sE X C W a σ H fun x H1 => ∃ b, x = .bl b ∧ Q b H1 := by
  obtain ⟨fb, ι, env, st, he, hs, hp⟩ := h
  refine ⟨fb, ι, env, st, he, hs, hp.bind.mono (fun d st1 ι1 H1 g S q v r => ?_) fun _ _ _ _ _ _ q => q⟩
  cases d with
  | bl b => cases r; exact ⟨b, rfl, Po.ret (a := b) q S⟩
  | _ => exact q.elim
/-- the rest behind a part, the names as they were -/
theorem s_seq {ex a : Ex} {f : D → Env → M D} (hev : ∀ env, evE C ex env = evE C a env >>= fun x => f x env) {σ : L2.St} {H : Hp} {Q : VK} (h : sE X C W ex σ H Q) :
    sE X C W a σ H fun x H1 => ∃ fb ι env st dx, RelE X.K H1 fb ι env σ ∧ RelS X.K H1 fb ι st ∧ Rel X.K H1 fb ι dx x ∧ Po X.K fb (f dx env st) (okE X.K fb Q) (exE X.mg W σ) ι H1 := by
  obtain ⟨fb, ι, env, st, he, hs, hp⟩ := h
  rw [hev] at hp
  exact ⟨fb, ι, env, st, he, hs, hp.bind.mono (fun d st1 ι1 H1 g S q v r => ⟨fb, ι1, env, st1, d, he.mono g, S, r, q⟩) fun _ _ _ _ _ _ q => q⟩
theorem s_and {a b : Ex} {a' b' : Expr} {rest : List Expr} {pos : Pos} (ha : PE X a' (sE X C W a)) (hb : PE X (.BoolOp .And (b' :: rest) pos) (sE X C W b)) : PE X (.BoolOp .And (a' :: b' :: rest) pos) (sE X C W (.and a b)) :=
  PE.weaken (pe_and ha hb) fun σ H Q h =>
    (s_seq (f := fun x env => asB x >>= fun r => if r then evE C b env else pure (.bl false)) (fun _ => rfl) h).mono fun x H1 ⟨fb, ι, env, st, dx, he, S, rx, q⟩ => by
      obtain ⟨c, rfl, q⟩ := asB_ok q
      cases rx
      refine ⟨c, rfl, ?_⟩
      cases c with
      | true => exact ⟨fb, ι, env, st, he, S, q⟩
      | false => exact retE (d := .bl false) q S rfl
theorem s_or {a b : Ex} {a' b' : Expr} {rest : List Expr} {pos : Pos} (ha : PE X a' (sE X C W a)) (hb : PE X (.BoolOp .Or (b' :: rest) pos) (sE X C W b)) : PE X (.BoolOp .Or (a' :: b' :: rest) pos) (sE X C W (.or a b)) :=
  PE.weaken (pe_or ha hb) fun σ H Q h =>
    (s_seq (f := fun x env => asB x >>= fun r => if r then pure (.bl true) else evE C b env) (fun _ => rfl) h).mono fun x H1 ⟨fb, ι, env, st, dx, he, S, rx, q⟩ => by
      obtain ⟨c, rfl, q⟩ := asB_ok q
      cases rx
      refine ⟨c, rfl, ?_⟩
      cases c with
      | false => exact ⟨fb, ι, env, st, he, S, q⟩
      | true => exact retE (d := .bl true) q S rfl
theorem s_not {a : Ex} {a' : Expr} {pos : Pos} (ha : PE X a' (sE X C W a)) : PE X (.UnaryOp .Not a' pos) (sE X C W (.not a)) :=
  PE.weaken (pe_not ha) fun σ H Q h =>
    (s_bind1 (f := fun x => asB x >>= fun r => pure (.bl (!r))) (fun _ => rfl) h).mono fun x H1 ⟨fb, ι, st, dx, S, rx, q⟩ => by
      obtain ⟨c, rfl, q⟩ := asB_ok q
      cases rx
      exact ⟨c, rfl, retE (d := .bl (!c)) q S rfl⟩
theorem s_one {op} {a : Ex} {a' : Expr} {pos : Pos} (ha : PE X a' (sE X C W a)) : PE X (.BoolOp op [a'] pos) (sE X C W a) := pe_one ha
/-- as tests -/
theorem sT.mono {a : Ex} {σ : L2.St} {H : Hp} {Q Q' : Bool → Hp → Prop} (h : sT X C W a σ H Q) (m : ∀ x H1, Q x H1 → Q' x H1) : sT X C W a σ H Q' := by
  obtain ⟨fb, ι, env, st, he, hs, hp⟩ := h
  exact ⟨fb, ι, env, st, he, hs, hp.mono (fun d st1 ι1 H1 g S q => m d H1 q) fun _ _ _ _ _ _ q => q⟩
theorem t_seq {ex a : Ex} {f : Bool → Env → M D} (hev : ∀ env, evE C ex env = evE C a env >>= fun x => asB x >>= fun r => f r env) {σ : L2.St} {H : Hp} {Q : Bool → Hp → Prop} (h : sT X C W ex σ H Q) :
    sT X C W a σ H fun r H1 => ∃ fb ι env st, RelE X.K H1 fb ι env σ ∧ RelS X.K H1 fb ι st ∧ Po X.K fb ((f r env >>= asB) st) (fun b _ _ H' => Q b H') (exE X.mg W σ) ι H1 := by
  obtain ⟨fb, ι, env, st, he, hs, hp⟩ := h
  rw [hev] at hp
  have e : ((evE C a env >>= fun x => asB x >>= fun r => f r env) >>= asB) st = ((evE C a env >>= asB) >>= fun r => f r env >>= asB) st := by
    show M.bind (M.bind _ _) _ st = M.bind (M.bind _ _) _ st
    unfold M.bind
    cases q : evE C a env st with
    | none => simp
    | some o =>
      cases o with
      | ex e' st' => simp
      | ok d st' =>
        cases d with
        | bl b => rfl
        | _ => rfl
  rw [e] at hp
  exact ⟨fb, ι, env, st, he, hs, hp.bind.mono (fun d st1 ι1 H1 g S q => ⟨fb, ι1, env, st1, he.mono g, S, q⟩) fun _ _ _ _ _ _ q => q⟩
theorem t_and {a b : Ex} {a' b' : Expr} {rest : List Expr} {pos : Pos} (ha : PT X a' (sT X C W a)) (hb : PW X (.BoolOp .And (b' :: rest) pos) (sT X C W b)) : PW X (.BoolOp .And (a' :: b' :: rest) pos) (sT X C W (.and a b)) :=
  PW.weaken (pw_and ha hb) fun σ H Q h =>
    (t_seq (f := fun r env => if r then evE C b env else pure (.bl false)) (fun _ => rfl) h).mono fun c H1 ⟨fb, ι, env, st, he, S, q⟩ => by
      cases c with
      | true => exact ⟨fb, ι, env, st, he, S, q⟩
      | false => exact Po.ret (a := false) q S
theorem t_or {a b : Ex} {a' b' : Expr} {rest : List Expr} {pos : Pos} (ha : PT X a' (sT X C W a)) (hb : PW X (.BoolOp .Or (b' :: rest) pos) (sT X C W b)) : PW X (.BoolOp .Or (a' :: b' :: rest) pos) (sT X C W (.or a b)) :=
  PW.weaken (pw_or ha hb) fun σ H Q h =>
    (t_seq (f := fun r env => if r then pure (.bl true) else evE C b env) (fun _ => rfl) h).mono fun c H1 ⟨fb, ι, env, st, he, S, q⟩ => by
      cases c with
      | false => exact ⟨fb, ι, env, st, he, S, q⟩
      | true => exact Po.ret (a := true) q S
theorem t_not {a : Ex} {a' : Expr} {pos : Pos} (ha : PT X a' (sT X C W a)) : PT X (.UnaryOp .Not a' pos) (sT X C W (.not a)) :=
  PT.weaken (pt_not ha) fun σ H Q h =>
    (t_seq (f := fun r env => pure (.bl (!r))) (fun _ => rfl) h).mono fun c H1 ⟨fb, ι, env, st, he, S, q⟩ => Po.ret (a := (!c)) q S
theorem t_val {a : Ex} {e : Expr} (h : PE X e (sE X C W a)) (he : ∀ whole, isTrue e X.env whole = (do let v ← whole; standAt e.pos; holding [v] (truthy v))) : PT X e (sT X C W a) :=
  PT.weaken (pt_val h he) fun σ H Q q => sT_of q
theorem t_cmp (ok : Cok G X C W k) {o : CmpOp} {a b : Ex} {a' b' : Expr} {pos : Pos} (ha : PE X a' (sE X C W a)) (hb : PE X b' (sE X C W b)) (hm : behindInMarks o b' = false) : PT X (.Compare a' [o] [b'] pos) (sT X C W (.cmp o a b)) :=
  PT.weaken (pt_cmpR (op_cmpD ok.hX ok.hu) ha hb hm) fun σ H Q h =>
    (s_bind2 (f := fun x y => .rd fun st => (cmpD o x y st).map .bl) (fun _ => rfl) (sT_of h)).mono fun x H1 q => q.mono fun y H2 ⟨fb, ι, st, dx, dy, S, rx, ry, q⟩ => by
      obtain ⟨d, e, q⟩ := q.rd
      exact ⟨fb, ι, st, dx, dy, d, S, rx, ry, e, Yl.of q⟩
theorem s_cmp2F (ok : Cok G X C W k) {o o' : CmpOp} {a b c : Ex} {σ : L2.St} {H : Hp} {Q : VK} (h : sE X C W (.cmp2 o o' a b c) σ H Q) : tChain (rCmp X.K o) (rCmp X.K o') (sE X C W a) (sE X C W b) (sE X C W c) σ H Q := by
  obtain ⟨fb, ι, env, st, he, hs, hp⟩ := h
  refine ⟨fb, ι, env, st, he, hs, (Po.bind (m := evE C a env) hp).mono (fun dx st1 ι1 H1 g1 S1 q v r => ?_) fun _ _ _ _ _ _ q => q⟩
  refine ⟨fb, ι1, env, st1, he.mono g1, S1, q.bind.mono (fun dy st2 ι2 H2 g2 S2 q v2 r2 => ?_) fun _ _ _ _ _ _ q => q⟩
  obtain ⟨b1, e1, q⟩ := (Po.bind q).rd
  refine ⟨fb, ι2, st2, dx, dy, .bl b1, S2, r.mono g2, r2, by show Option.map D.bl (cmpD o dx dy st2) = _; rw [e1]; rfl, fun ι3 H3 g3 S3 v3 r3 => ?_⟩
  cases r3
  refine ⟨b1, rfl, ?_⟩
  have q := q ι3 H3 g3 S3
  cases b1 with
  | false =>
    rw [if_neg Bool.false_ne_true]
    exact retE (d := .bl false) q S3 rfl
  | true =>
    rw [if_pos rfl]
    refine ⟨fb, ι3, env, st2, ((he.mono g1).mono g2).mono g3, S3, (Po.bind (m := evE C c env) q).mono (fun dz st4 ι4 H4 g4 S4 q v4 r4 => ?_) fun _ _ _ _ _ _ q => q⟩
    obtain ⟨d, e, q⟩ := q.rd
    exact ⟨fb, ι4, st4, dy, dz, d, S4, (r2.mono g3).mono g4, r4, e, Yl.of q⟩
theorem s_cmp2 (ok : Cok G X C W k) {o o' : CmpOp} {a b c : Ex} {a' b' c' : Expr} {pos : Pos} (ha : PE X a' (sE X C W a)) (hb : PE X b' (sE X C W b)) (hc : PE X c' (sE X C W c)) (hm : lastMarks [o, o'] [b', c'] = false) :
    PE X (.Compare a' [o, o'] [b', c'] pos) (sE X C W (.cmp2 o o' a b c)) :=
  PE.weaken (pe_chain (op_cmpD ok.hX ok.hu) (op_cmpD ok.hX ok.hu) ha hb hc hm) fun σ H Q h => s_cmp2F ok h
theorem t_cmp2 (ok : Cok G X C W k) {o o' : CmpOp} {a b c : Ex} {a' b' c' : Expr} {pos : Pos} (ha : PE X a' (sE X C W a)) (hb : PE X b' (sE X C W b)) (hc : PE X c' (sE X C W c)) (hm : lastMarks [o, o'] [b', c'] = false) :
    PT X (.Compare a' [o, o'] [b', c'] pos) (sT X C W (.cmp2 o o' a b c)) :=
  PT.weaken (pt_chain (op_cmpD ok.hX ok.hu) (op_cmpD ok.hX ok.hu) ha hb hc hm) fun σ H Q h => s_cmp2F ok (sT_of h)
theorem s_ife {c a b : Ex} {c' a' b' : Expr} {pos : Pos} (hc : PT X c' (sT X C W c)) (ha : PE X a' (sE X C W a)) (hb : PE X b' (sE X C W b)) : PE X (.IfExp c' a' b' pos) (sE X C W (.ife c a b)) :=
  PE.weaken (pe_ifExp hc ha hb) fun σ H Q h => by
    obtain ⟨fb, ι, env, st, he, hs, hp⟩ := h
    have e : (evE C c env >>= fun x => asB x >>= fun r => if r then evE C a env else evE C b env) st = ((evE C c env >>= asB) >>= fun r => if r then evE C a env else evE C b env) st := by
      show M.bind _ _ st = M.bind (M.bind _ _) _ st
      unfold M.bind
      cases q : evE C c env st with
      | none => simp
      | some o =>
        cases o with
        | ex e' st' => simp
        | ok d st' => cases d <;> rfl
    have hp : Po X.K fb ((evE C c env >>= fun x => asB x >>= fun r => if r then evE C a env else evE C b env) st) (okE X.K fb Q) (exE X.mg W σ) ι H := hp
    rw [e] at hp
    refine ⟨fb, ι, env, st, he, hs, hp.bind.mono (fun r st1 ι1 H1 g S q => ?_) fun _ _ _ _ _ _ q => q⟩
    cases r with
    | true => exact ⟨fb, ι1, env, st1, he.mono g, S, q⟩
    | false => exact ⟨fb, ι1, env, st1, he.mono g, S, q⟩
/-! ### argument lists, displays -/
theorem a_nil : PA X [] (sA X C W .nil) := PA.weaken pa_nil fun σ H Q ⟨fb, ι, env, st, hE, hS, hp⟩ => hp.ret hS [] rfl
theorem a_cons {e : Ex} {r : Exs} {e' : Expr} {es : List Expr} (he : PE X e' (sE X C W e)) (hr : PA X es (sA X C W r)) (hs : starEach (e' :: es) X.env = (false, eval e' X.env) :: starEach es X.env) : PA X (e' :: es) (sA X C W (.cons false e r)) :=
  PA.weaken (pa_cons he hr hs) fun σ H Q ⟨fb, ι, env, st, hE, hS, hp⟩ => by
    refine ⟨fb, ι, env, st, hE, hS, (Po.bind (m := evE C e env) hp).mono (fun d st1 ι1 H1 g S q v rv => ?_) fun _ _ _ _ _ _ q => q⟩
    refine ⟨fb, ι1, env, st1, hE.mono g, S, (Po.bind (m := evA C r env) q).mono (fun ds st2 ι2 H2 g2 S2 q vs rs => ?_) fun _ _ _ _ _ _ q => q⟩
    exact Po.ret (a := (d :: ds)) q S2 _ ⟨v, vs, rfl, rv.mono g2, rs⟩
theorem a_star {e : Ex} {r : Exs} {e' : Expr} {es : List Expr} {p : Pos} (he : PE X e' (sE X C W e)) (hr : PA X es (sA X C W r)) : PA X (.Starred e' p :: es) (sA X C W (.cons true e r)) :=
  PA.weaken (StX.pa_star he hr) fun σ H Q ⟨fb, ι, env, st, hE, hS, hp⟩ => by
    refine ⟨fb, ι, env, st, hE, hS, (Po.bind (m := evE C e env) hp).mono (fun d st1 ι1 H1 g S q v rv => ?_) fun _ _ _ _ _ _ q => q⟩
    obtain ⟨ys, ey, q⟩ := (Po.bind q).rd
    obtain ⟨a, xs, rfl, hx, rx⟩ := sq_of S rv ey
    have q := q ι1 H1 Grow.refl S
    refine ⟨a, xs, rfl, hx.symm, fb, ι1, env, st1, hE.mono g, S, (Po.bind (m := evA C r env) q).mono (fun ds st2 ι2 H2 g2 S2 q vs rs => ?_) fun _ _ _ _ _ _ q => q⟩
    exact Po.ret (a := (ys ++ ds)) q S2 _ ((Rels.mono g2 _ _ rx).append rs)
theorem s_tup {es : Exs} {es' : List Expr} {x1} {pos : Pos} (h : PA X es' (sA X C W es)) : PE X (.Tuple es' x1 pos) (sE X C W (.tup es)) :=
  PE.weaken (pe_tup h) fun σ H Q ⟨fb, ι, env, st, hE, hS, hp⟩ => by
    refine ⟨fb, ι, env, st, hE, hS, (Po.bind (m := evA C es env) hp).mono (fun ds st1 ι1 H1 g S q vs rs => ?_) fun _ _ _ _ _ _ q => q⟩
    have q := q.ite
    cases hf : fit ds.length with
    | false => rw [hf] at q; exact q.elim
    | true =>
      rw [hf, if_pos rfl] at q
      exact ⟨by rw [← rs.length]; exact fit_le hf, fun p hp => q ι1 _ (Grow.laid hp) (S.laid hp) _ (rel_tup S hp rs)⟩
/-- a new list: as data, or in the store -/
theorem mk_ok {K : PySem.W.Frag} {fb ι : List Addr} {st : Store} {H : Hp} {al : Bool} {ds : List D} {xs : List V} {Q : VK} {ex : D → Store → List Addr → Hp → Prop} (S : RelS K H fb ι st) (r : Rels K H fb ι ds xs) (h : Po K fb (mkL al ds st) (okE K fb Q) ex ι H) :
    ds.length ≤ sizeLine ∧ ∀ p, H p = none → Q (.ref p) (upd H p (.lst xs)) := by
  unfold mkL at h
  have h := h.ite
  cases hf : fit ds.length with
  | false => rw [hf] at h; exact h.elim
  | true =>
    rw [hf, if_pos rfl] at h
    refine ⟨fit_le hf, fun p hp => ?_⟩
    cases al with
    | false => exact h ι _ (Grow.laid hp) (S.laid hp) _ (rel_lst S hp r)
    | true =>
      have g : Grow ι H (ι ++ [p]) (upd H p (.lst xs)) := Grow.alloc hp
      refine h _ _ g (S.alloc hp ⟨xs, upd_same, Rels.mono g _ _ r⟩) _ ⟨p, rfl, ?_⟩
      rw [← S.len]
      simp
theorem s_cat {a b : Ex} {a' b' : Expr} {pos : Pos} (ha : PE X a' (sE X C W a)) (hb : PE X b' (sE X C W b)) : PE X (.BinOp a' .Add b' pos) (sE X C W (.cat a b)) :=
  PE.weaken (pe_op op_cat ha hb) fun σ H Q h =>
    (s_bind2 (f := fun x y => M.rd (catD x y) >>= fun zs => mkL true zs) (fun _ => rfl) h).mono fun x H1 q => q.mono fun y H2 ⟨fb, ι, st, dx, dy, S, rx, ry, q1⟩ => by
      obtain ⟨zs, e, q2⟩ := (Po.bind q1).rd
      have q3 := q2 ι H2 Grow.refl S
      unfold catD at e
      split at e
      · rename_i xs ys h1 h2
        cases e
        obtain ⟨a, us, rfl, ha, ra⟩ := lu_of S rx h1
        obtain ⟨b, vs, rfl, hb, rb⟩ := lu_of S ry h2
        obtain ⟨m1, m2⟩ := mk_ok S (ra.append rb) q3
        exact ⟨a, b, us, vs, rfl, rfl, ha, hb, by rw [← ra.length, ← rb.length, ← List.length_append]; exact m1, m2⟩
      · cases e
theorem s_lst {al : Bool} {es : Exs} {es' : List Expr} {pos : Pos} (h : PA X es' (sA X C W es)) : PE X (.List es' pos) (sE X C W (.lst al es)) :=
  PE.weaken (pe_lst h) fun σ H Q ⟨fb, ι, env, st, hE, hS, hp⟩ => by
    refine ⟨fb, ι, env, st, hE, hS, (Po.bind (m := evA C es env) hp).mono (fun ds st1 ι1 H1 g S q vs rs => ?_) fun _ _ _ _ _ _ q => q⟩
    obtain ⟨h1, h2⟩ := mk_ok S rs q
    exact ⟨by rw [← rs.length]; exact h1, h2⟩
theorem s_ix (ok : Cok G X C W k) {a b : Ex} {a' b' : Expr} {pos : Pos} (ha : PE X a' (sE X C W a)) (hb : PE X b' (sE X C W b)) (hs : PlainIx b') : PE X (.Subscript a' b' pos) (sE X C W (.ix a b)) :=
  PE.weaken (pe_ix (ix_dat ok.hX ok.hu) ha hb hs) fun σ H Q h =>
    (s_bind2 (f := fun x y => .rd fun st => ixD st x y) (fun _ => rfl) h).mono fun x H1 q => q.mono fun y H2 ⟨fb, ι, st, dx, dy, S, rx, ry, q⟩ => by
      obtain ⟨d, e, q⟩ := q.rd
      exact ⟨fb, ι, st, dx, dy, d, S, rx, ry, e, Yl.of q⟩
end
end Wk

set_option maxRecDepth 100000
set_option maxHeartbeats 1000000
/-! Wk9: loops' sources in the text, targets, comprehensions. -/
namespace Wk
open PySem PySem.Spec PyProof.Rows L2
variable [pw : PrW]

section
variable {G : Pr} {X : Cx} {C : Ctx} {W : WX} {k : Nat} {tg : Expr}
def sI (X : Cx) (C : Ctx) (W : WX) (k : IK) (xs : Exs) : TI := fun σ H R => sA X C W xs σ H fun vs H1 => rSrc X k vs H1 R
theorem sA1 {e : Ex} {σ : L2.St} {H : Hp} {Q : List V → Hp → Prop} (h : sA X C W (.cons false e .nil) σ H Q) : sE X C W e σ H fun x H1 => Q [x] H1 := by
  obtain ⟨fb, ι, env, st, he, hs, hp⟩ := h
  refine ⟨fb, ι, env, st, he, hs, (Po.bind (m := evE C e env) hp).mono (fun d st1 ι1 H1 g S q v r => ?_) fun _ _ _ _ _ _ q => q⟩
  have q : Po X.K fb ((evA C .nil env >>= fun xs => (pure (d :: xs) : M (List D))) st1) _ _ ι1 H1 := q
  exact q ι1 H1 Grow.refl S [v] (Rels.one r)
theorem i_val {e : Ex} {e' : Expr} (he : PE X e' (sE X C W e)) : PI X tg e' (sI X C W .val (.cons false e .nil)) :=
  ⟨fun pins s σ H R I h => thn (he.run pins s σ H _ I (sA1 h)) fun v s1 ⟨x, H1, I1, r1, q1⟩ => it_val I1 r1 q1⟩
theorem no_lk {n : Option Nat} {st : Store} {m : Nat} (h : lkOf st n = some m) (hn : n = none) : False := by subst hn; cases h
theorem i_range1 {xs : Exs} {a : Expr} {p pos : Pos} (hg : Gl X "range") (hm : X.mg "range" = none) (ha : PA X [a] (sA X C W xs)) (hs : starEach [a] X.env = [(false, eval a X.env)]) : PI X tg (.Call (.Name "range" p) [a] [] pos) (sI X C W .range1 xs) :=
  PI.weaken (pi_range1 hg hm ha hs) fun σ H R h => sA.mono h fun vs H1 ⟨fb, ι, st, ds, its, n, S, hd, e, h⟩ => by
    replace e : itR1 ds = some (its, n) := e
    unfold itR1 at e
    split at e
    · rename_i j
      obtain ⟨v, rfl, r⟩ := rels1 hd
      cases r
      split at e
      · rename_i hc
        simp only [Bool.and_eq_true, decide_eq_true_eq] at hc
        cases e
        rcases h with ⟨_, h⟩ | ⟨m, a, u, hm, _⟩
        · refine ⟨j, rfl, hc.1, hc.2, h _ ?_⟩
          have w : Walk (Itr 0 j.toNat) j.toNat (fun _ => True) (YFn fun i => .int ((i : Nat) : Int)) := by
            have w := walk_range (lo := 0) (n := j.toNat)
            simpa using w
          exact src_fn w fun _ => trivial
        · cases hm
      · cases e
    · cases e
theorem i_range2 {xs : Exs} {a b : Expr} {p pos : Pos} (hg : Gl X "range") (hm : X.mg "range" = none) (ha : PA X [a, b] (sA X C W xs)) (hs : starEach [a, b] X.env = [(false, eval a X.env), (false, eval b X.env)]) (hs2 : starEach [b] X.env = [(false, eval b X.env)]) :
    PI X tg (.Call (.Name "range" p) [a, b] [] pos) (sI X C W .range2 xs) :=
  PI.weaken (pi_range2 hg hm ha hs hs2) fun σ H R h => sA.mono h fun vs H1 ⟨fb, ι, st, ds, its, n, S, hd, e, h⟩ => by
    replace e : itR2 ds = some (its, n) := e
    unfold itR2 at e
    split at e
    · rename_i i j
      split at e
      · rename_i hc
        simp only [Bool.and_eq_true, decide_eq_true_eq] at hc
        cases e
        obtain ⟨v, w, rfl, r, r2⟩ := rels2 hd
        cases r; cases r2
        rcases h with ⟨_, h⟩ | ⟨m, a, u, hm, _⟩
        · exact ⟨i, j, rfl, ⟨hc.1.1.1, hc.1.1.2, hc.1.2, hc.2⟩, h _ (src_fn (walk_range (lo := i) (n := (j - i).toNat)) fun _ => trivial)⟩
        · cases hm
      · cases e
    · cases e
theorem i_enum {xs : Exs} {a : Expr} {elts : List Expr} {kk : Nat} {tpos p pos : Pos} (hg : Gl X "enumerate") (hm : X.mg "enumerate" = none) (ha : PA X [a] (sA X C W xs)) (hs : starEach [a] X.env = [(false, eval a X.env)]) :
    PI X (.Tuple elts kk tpos) (.Call (.Name "enumerate" p) [a] [] pos) (sI X C W .enum xs) := by
  refine ⟨fun pins s σ H R I h => ?_⟩
  refine Call_ (ld_blt I hg hm boot_enumerate (PyProof.Rows.callWith_type1 (thn (ha.run pos pins s σ H _ I h) fun us s1 ⟨vs, H1, I1, r1, q1⟩ => ?_) hs rfl))
  obtain ⟨fb, ι, st, ds, its, n, S, hd, e, h⟩ := q1
  replace e : itEn ds = some (its, n) := e
  have pair : ∀ {b : Addr}, b ∈ [s1.heap.objs.size + 1, s1.heap.objs.size] → FpOk X pins H1 b := fun {b} hb => by
    have e' : b = s1.heap.objs.size + 1 ∨ b = s1.heap.objs.size := by simpa using hb
    have hle : s1.heap.objs.size ≤ b := by exact e'.elim (fun z => z ▸ Nat.le_succ _) (fun z => z ▸ Nat.le_refl _)
    exact I1.fpOk hle (I1.hok.fresh hle)
  unfold itEn at e
  split at e
  · rename_i es
    cases e
    obtain ⟨v, rfl, r⟩ := rels1 hd
    obtain ⟨a, ws, rfl, q, na, ma, rr⟩ := r
    cases r1 with
    | cons r rr2 =>
      cases rr2
      cases r
      rcases h with ⟨_, h⟩ | ⟨m, a, u, hm, _⟩
      · obtain ⟨its, rv, p', hz⟩ := I1.tuple (SqT.of q)
        have hal : a < s1.heap.objs.size := by obtain ⟨o, ho, _⟩ := p'; exact Heap.lt_size ho
        refine enumT_call (show s1.heap.IsTuple a its.toArray from p') fun h' he hit hk => wpAny_pyIter_enum he ?_
        have I2 : L2.Inv X pins σ H1 { s1 with heap := h' } := I1.kept (t' := s1.toks) hk
        refine ⟨s1.heap.objs.size + 1, [s1.heap.objs.size + 1, s1.heap.objs.size], _, _, H1, rfl, I2, turn_enumT a (s1.heap.objs.size + 1) s1.heap.objs.size (Nat.ne_of_gt (Nat.lt_succ_of_lt hal)) (Nat.ne_of_lt hal), ⟨⟨.none, he⟩, hit, Nat.succ_ne_self _⟩, fun b hb => pair hb, h _ ?_⟩
        exact src_enum walk_enumT (fun ι' H' g => SqT.of (g.keep a _ q na ma)) rr
      · cases hm
  · rename_i es
    cases e
    obtain ⟨v, rfl, r⟩ := rels1 hd
    obtain ⟨a, ws, rfl, q, na, ma, rr⟩ := r
    cases r1 with
    | cons r rr2 =>
      cases rr2
      cases r
      rcases h with ⟨_, h⟩ | ⟨m, a, u, hm, _⟩
      · obtain ⟨its, rv, p', hz⟩ := I1.list (SqL.of q)
        refine call_enumerate_list p'.isList fun h' he hit hsz hk => wpAny_pyIter_enum he ?_
        have I2 : L2.Inv X pins σ H1 { s1 with heap := h' } := I1.kept (t' := s1.toks) hk
        refine ⟨s1.heap.objs.size + 1, [s1.heap.objs.size + 1, s1.heap.objs.size], _, _, H1, rfl, I2, turn_enum a (s1.heap.objs.size + 1) s1.heap.objs.size, ⟨⟨.none, he⟩, hit, Nat.succ_ne_self _⟩, fun b hb => pair hb, h _ ?_⟩
        exact src_enum walk_enum (fun ι' H' g => SqL.of (g.keep a _ q na ma)) rr
      · cases hm
  · cases e
theorem i_zip {xs : Exs} {a b : Expr} {elts : List Expr} {kk : Nat} {tpos p pos : Pos} (hg : Gl X "zip") (hm : X.mg "zip" = none) (ha : PA X [a, b] (sA X C W xs)) (hs : starEach [a, b] X.env = (false, eval a X.env) :: starEach [b] X.env) (hpl : (backTo pos (starEach [b] X.env)).any (·.1) = false) :
    PI X (.Tuple elts kk tpos) (.Call (.Name "zip" p) [a, b] [] pos) (sI X C W .zip xs) :=
  PI.weaken (RZ.pi_zipA hg hm ha hs hpl) fun σ H R h => sA.mono h fun vs H1 ⟨fb, ι, st, ds, its, n, S, hd, e, h⟩ => by
    replace e : itZip ds = some (its, n) := e
    unfold itZip at e
    split at e
    · cases e
      obtain ⟨v, w, rfl, r, r2⟩ := rels2 hd
      obtain ⟨a, ws, rfl, q, na, ma, rr⟩ := r
      obtain ⟨b, zs, rfl, q2, nb, mb, rr2⟩ := r2
      rcases h with ⟨_, h⟩ | ⟨m, a, u, hm, _⟩
      · exact ⟨a, b, ws, zs, rfl, .inr ⟨SqT.of q, SqT.of q2, h _ (src_zip (walk_zipT rfl) (fun ι' H' g => ⟨SqT.of (g.keep a _ q na ma), SqT.of (g.keep b _ q2 nb mb)⟩) rr rr2)⟩⟩
      · cases hm
    · cases e
      obtain ⟨v, w, rfl, r, r2⟩ := rels2 hd
      obtain ⟨a, ws, rfl, q, na, ma, rr⟩ := r
      obtain ⟨b, zs, rfl, q2, nb, mb, rr2⟩ := r2
      rcases h with ⟨_, h⟩ | ⟨m, a, u, hm, _⟩
      · exact ⟨a, b, ws, zs, rfl, .inl ⟨SqL.of q, SqL.of q2, h _ (src_zip (walk_zip rfl) (fun ι' H' g => ⟨SqL.of (g.keep a _ q na ma), SqL.of (g.keep b _ q2 nb mb)⟩) rr rr2)⟩⟩
      · cases hm
    · cases e
end
end Wk

set_option maxRecDepth 100000
set_option maxHeartbeats 1000000
/-! Wk10: slices, calls. -/
namespace Wk
open PySem PySem.Spec PyProof.Rows L2
variable [pw : PrW]

section
variable {G : Pr} {X : Cx} {C : Ctx} {W : WX} {k : Nat}
theorem M.assoc {α β γ : Type} (m : M α) (f : α → M β) (g : β → M γ) : ((m >>= f) >>= g) = (m >>= fun x => f x >>= g) := by
  funext st
  show M.bind (M.bind m f) g st = M.bind m (fun x => M.bind (f x) g) st
  unfold M.bind
  cases m st with
  | none => rfl
  | some o =>
    cases o with
    | ok a st' => rfl
    | ex e st' => rfl
/-! ### slices -/
def sO (X : Cx) (C : Ctx) (W : WX) (lo : Ex) : TO := fun σ H Q => ∃ fb ι env st, RelE X.K H fb ι env σ ∧ RelS X.K H fb ι st ∧
  Po X.K fb ((evE C lo env >>= fun d => M.of (endP lo d)) st) (fun l _ _ H' => Q l H') (exE X.mg W σ) ι H
theorem PO.weaken {e : Option Expr} {t t' : TO} (h : PO X e t) (w : ∀ σ H Q, t' σ H Q → t σ H Q) : PO X e t' := ⟨fun pins s σ H Q I q => h.run pins s σ H Q I (w σ H Q q)⟩
theorem o_none : PO X none (sO X C W (.cst .non)) := PO.weaken po_none fun σ H Q ⟨fb, ι, env, st, hE, hS, hp⟩ => hp ι H Grow.refl hS
def isNon : Ex → Bool
  | .cst .non => true
  | _ => false
theorem o_some {lo : Ex} {e : Expr} (h : PE X e (sE X C W lo)) (hn : isNon lo = false) : PO X (some e) (sO X C W lo) :=
  PO.weaken (po_some h) fun σ H Q ⟨fb, ι, env, st, hE, hS, hp⟩ => by
    refine ⟨fb, ι, env, st, hE, hS, hp.bind.mono (fun d st1 ι1 H1 g S q v r => ?_) fun _ _ _ _ _ _ q => q⟩
    obtain ⟨l, e, q⟩ := Po.of q
    unfold endP at e
    split at e
    · cases hn
    · cases e; cases r
      exact ⟨_, rfl, q ι1 H1 Grow.refl S⟩
    · cases e
theorem s_sl {a lo hi : Ex} {a' : Expr} {lo' hi' : Option Expr} {p2 pos : Pos} (ha : PE X a' (sE X C W a)) (hl : PO X lo' (sO X C W lo)) (hu : PO X hi' (sO X C W hi)) : PE X (.Subscript a' (.Slice lo' hi' none p2) pos) (sE X C W (.sl a lo hi)) :=
  PE.weaken (pe_slice sl_dat ha hl hu) fun σ H Q ⟨fb, ι, env, st, hE, hS, hp⟩ => by
    refine ⟨fb, ι, env, st, hE, hS, (Po.bind (m := evE C a env) hp).mono (fun dx st1 ι1 H1 g S q v r => ?_) fun _ _ _ _ _ _ q => q⟩
    have q : Po X.K fb ((evE C lo env >>= fun l => M.of (endP lo l) >>= fun l => evE C hi env >>= fun h => M.of (endP hi h) >>= fun h => M.rd fun st => sliceD st dx l h) st1) (okE X.K fb Q) (exE X.mg W σ) ι1 H1 := q
    rw [← M.assoc] at q
    refine ⟨fb, ι1, env, st1, hE.mono g, S, q.bind.mono (fun l st2 ι2 H2 g2 S2 q => ?_) fun _ _ _ _ _ _ q => q⟩
    rw [← M.assoc] at q
    refine ⟨fb, ι2, env, st2, (hE.mono g).mono g2, S2, q.bind.mono (fun h st3 ι3 H3 g3 S3 q => ?_) fun _ _ _ _ _ _ q => q⟩
    obtain ⟨d, e, q⟩ := q.rd
    exact ⟨fb, ι3, st3, dx, d, S3, (r.mono g2).mono g3, e, Yl.of q⟩

/-! ### what a call hands over -/
variable {K : PySem.W.Frag} {H : Hp} {fb fb' ι ι' : List Addr} {st st' : Store}
mutual
theorem Rel.move (hs : ∀ a, a ∉ ι → a ∉ fb → a ∉ ι' ∧ a ∉ fb') : ∀ (d : D) (v : V), d.pure = true → Rel K H fb ι d v → Rel K H fb' ι' d v
  | .non, v, _, h => h
  | .bl b, v, _, h => h
  | .int i, v, _, h => h
  | .str x, v, _, h => h
  | .tup ds, v, p, h => by
    obtain ⟨a, xs, e, q, n, m, r⟩ := h
    exact ⟨a, xs, e, q, (hs a n m).1, (hs a n m).2, Rels.move hs ds xs p r⟩
  | .lst ds, v, p, h => by
    obtain ⟨a, xs, e, q, n, m, r⟩ := h
    exact ⟨a, xs, e, q, (hs a n m).1, (hs a n m).2, Rels.move hs ds xs p r⟩
  | .dic ks vs, v, p, h => by
    have p : (D.pures ks && D.pures vs) = true := p
    rw [Bool.and_eq_true] at p
    obtain ⟨a, e, n, m, h⟩ := h
    rcases h with ⟨kvs, q, hk, r⟩ | ⟨xs, ws, q, hk, hv, r1, r2⟩
    · exact ⟨a, e, (hs a n m).1, (hs a n m).2, .inl ⟨kvs, q, hk, Rels.move hs vs _ p.2 r⟩⟩
    · exact ⟨a, e, (hs a n m).1, (hs a n m).2, .inr ⟨xs, ws, q, hk, hv, Rels.move hs ks _ p.1 r1, Rels.move hs vs ws p.2 r2⟩⟩
  | .loc n, v, p, h => nomatch p
  | .scr ns, v, p, h => by
    obtain ⟨a, e, q | q⟩ := h
    · obtain ⟨o, q, n, m⟩ := q
      exact ⟨a, e, .inl ⟨o, q, hs a n m⟩⟩
    · exact ⟨a, e, .inr q⟩
  | .exc c vs, v, p, h => by
    obtain ⟨e0, a, C, e, hm, q, n, m⟩ := h
    exact ⟨e0, a, C, e, hm, q, (hs a n m).1, (hs a n m).2⟩
theorem Rels.move (hs : ∀ a, a ∉ ι → a ∉ fb → a ∉ ι' ∧ a ∉ fb') : ∀ (ds : List D) (vs : List V), D.pures ds = true → Rels K H fb ι ds vs → Rels K H fb' ι' ds vs
  | [], vs, _, h => h
  | d :: ds, vs, p, h => by
    obtain ⟨y, ys, e, r, rs⟩ := h
    have p : (d.pure && D.pures ds) = true := p
    rw [Bool.and_eq_true] at p
    exact ⟨y, ys, e, Rel.move hs d y p.1 r, Rels.move hs ds ys p.2 rs⟩
end
theorem RelO.move (hs : ∀ a, a ∉ ι → a ∉ fb → a ∉ ι' ∧ a ∉ fb') {a : Addr} {o : Ob} (p : o.pure = true) (h : RelO K H fb ι a o) : RelO K H fb' ι' a o := by
  cases o with
  | lst l ds =>
    cases l with
    | false => obtain ⟨xs, e, r⟩ := h; exact ⟨xs, e, Rels.move hs ds xs p r⟩
    | true => obtain ⟨od, xs, e, r⟩ := h; exact ⟨od, xs, e, Rels.move hs ds xs p r⟩
  | dic l ks vs =>
    have p : (D.pures ks && D.pures vs) = true := p
    rw [Bool.and_eq_true] at p
    obtain ⟨u, d, q⟩ := h
    exact ⟨u, d.map fun ds xs z r => Rels.move hs ds xs (by rcases z with rfl | rfl; exact p.1; exact p.2) r, q⟩
theorem subs_atoms {ρ : Nat → Option D} : ∀ {kvs : List (L2.Key × V)} {ks : List D}, D.subs ρ (kvs.map fun kv => kD kv.1) = some ks → ks = kvs.map fun kv => kD kv.1
  | [], ks, e => by cases e; rfl
  | kv :: kvs, ks, e => by
    have e : ((D.sub ρ (kD kv.1)).bind fun y => (D.subs ρ (kvs.map fun kv => kD kv.1)).map fun ys => y :: ys) = some ks := e
    have h1 : D.sub ρ (kD kv.1) = some (kD kv.1) := by obtain ⟨k, v⟩ := kv; cases k <;> rfl
    rw [h1, Option.bind_some] at e
    cases z : D.subs ρ (kvs.map fun kv => kD kv.1) with
    | none => rw [z] at e; cases e
    | some ys => rw [z] at e; cases e; rw [subs_atoms z]; rfl
mutual
theorem sub_key {ρ : Nat → Option D} : ∀ {d e : D}, d.toN.isSome = true → d.sub ρ = some e → e = d
  | .non, e, _, h => by cases h; rfl
  | .bl b, e, _, h => by cases h; rfl
  | .int i, e, _, h => by cases h; rfl
  | .str x, e, _, h => by cases h; rfl
  | .tup ds, e, n, h => by
    have h : (D.subs ρ ds).map D.tup = some e := h
    have n : ((D.toNs ds).map NestedKey.tup).isSome = true := n
    rw [Option.isSome_map] at n
    cases z : D.subs ρ ds with
    | none => rw [z] at h; cases h
    | some es => rw [z] at h; cases h; rw [subs_key n z]
  | .lst _, e, n, h => by cases n
  | .dic _ _, e, n, h => by cases n
  | .loc _, e, n, h => by cases n
  | .scr _, e, n, h => by cases n
  | .exc _ _, e, n, h => by cases n
theorem subs_key {ρ : Nat → Option D} : ∀ {ds es : List D}, (D.toNs ds).isSome = true → D.subs ρ ds = some es → es = ds
  | [], es, _, h => by cases h; rfl
  | d :: ds, es, n, h => by
    have n : ((D.toN d).bind fun y => (D.toNs ds).map fun ys => y :: ys).isSome = true := n
    have h : ((D.sub ρ d).bind fun y => (D.subs ρ ds).map fun ys => y :: ys) = some es := h
    cases z1 : D.toN d with
    | none => rw [z1] at n; cases n
    | some y =>
      rw [z1, Option.bind_some, Option.isSome_map] at n
      cases z2 : D.sub ρ d with
      | none => rw [z2] at h; cases h
      | some d' =>
        rw [z2, Option.bind_some] at h
        cases z3 : D.subs ρ ds with
        | none => rw [z3] at h; cases h
        | some ds' => rw [z3] at h; cases h; rw [sub_key (by rw [z1]; rfl) z2, subs_key n z3]
end
theorem dk_toN {d : D} {k : DK} (h : d.toDK = some k) : d.toN.isSome = true := by
  cases d with
  | int i => rfl
  | str x => rfl
  | tup ds =>
    have h : ((D.toNs ds).bind fun ks => if Nat.ble (NestedKey.tup ks).depth 8 then some (DK.t (.tup ks)) else none) = some k := h
    show ((D.toNs ds).map NestedKey.tup).isSome = true
    cases z : D.toNs ds with
    | none => rw [z] at h; cases h
    | some ks => rfl
  | _ => cases h
theorem subs_keys {ρ : Nat → Option D} : ∀ {xs : List (NestedKey × Addr × Value)} {ks ks' : List D}, ks.map D.toDK = xs.map (fun x => some (DK.t x.1)) → D.subs ρ ks = some ks' → ks' = ks
  | _, [], ks', _, h => by cases h; rfl
  | [], k0 :: ks, ks', e, _ => by simp at e
  | x :: xs, k0 :: ks, ks', e, h => by
    rw [List.map_cons, List.map_cons] at e
    obtain ⟨e0, e⟩ := List.cons.inj e
    have h : ((D.sub ρ k0).bind fun y => (D.subs ρ ks).map fun ys => y :: ys) = some ks' := h
    cases z2 : D.sub ρ k0 with
    | none => rw [z2] at h; cases h
    | some d' =>
      rw [z2, Option.bind_some] at h
      cases z3 : D.subs ρ ks with
      | none => rw [z3] at h; cases h
      | some ds' => rw [z3] at h; cases h; rw [sub_key (dk_toN e0) z2, subs_keys e z3]
/-- what stands for ρ's -/
def Rho (K : PySem.W.Frag) (H : Hp) (fb ι fb' ι' : List Addr) (ρ : Nat → Option D) : Prop := ∀ n d a, ρ n = some d → ι[n]? = some a → Rel K H fb' ι' d (.ref a)
mutual
theorem Rel.sub {ρ : Nat → Option D} (hs : ∀ a, a ∉ ι → a ∉ fb → a ∉ ι' ∧ a ∉ fb') (hr : Rho K H fb ι fb' ι' ρ) : ∀ (d e : D) (v : V), d.sub ρ = some e → Rel K H fb ι d v → Rel K H fb' ι' e v
  | .non, e, v, p, h => by cases p; exact h
  | .bl b, e, v, p, h => by cases p; exact h
  | .int i, e, v, p, h => by cases p; exact h
  | .str x, e, v, p, h => by cases p; exact h
  | .tup ds, e, v, p, h => by
    obtain ⟨a, xs, ev, q, n, m, r⟩ := h
    have p : (D.subs ρ ds).map D.tup = some e := p
    cases z : D.subs ρ ds with
    | none => rw [z] at p; cases p
    | some es =>
      rw [z] at p; cases p
      exact ⟨a, xs, ev, q, (hs a n m).1, (hs a n m).2, Rels.sub hs hr ds es xs z r⟩
  | .lst ds, e, v, p, h => by
    obtain ⟨a, xs, ev, q, n, m, r⟩ := h
    have p : (D.subs ρ ds).map D.lst = some e := p
    cases z : D.subs ρ ds with
    | none => rw [z] at p; cases p
    | some es =>
      rw [z] at p; cases p
      exact ⟨a, xs, ev, q, (hs a n m).1, (hs a n m).2, Rels.sub hs hr ds es xs z r⟩
  | .dic ks vs, e, v, p, h => by
    have p : ((D.subs ρ ks).bind fun a => (D.subs ρ vs).map fun b => D.dic a b) = some e := p
    cases z1 : D.subs ρ ks with
    | none => rw [z1] at p; cases p
    | some ks' =>
      rw [z1, Option.bind_some] at p
      cases z2 : D.subs ρ vs with
      | none => rw [z2] at p; cases p
      | some vs' =>
        rw [z2] at p; cases p
        obtain ⟨a, e, n, m, h⟩ := h
        rcases h with ⟨kvs, q, hk, r⟩ | ⟨xs, ws, q, hk, hv, r1, r2⟩
        · refine ⟨a, e, (hs a n m).1, (hs a n m).2, .inl ⟨kvs, q, ?_, Rels.sub hs hr vs vs' _ z2 r⟩⟩
          rw [← hk]
          subst hk
          exact subs_atoms z1
        · exact ⟨a, e, (hs a n m).1, (hs a n m).2, .inr ⟨xs, ws, q, ⟨by rw [← hk.1, subs_keys hk.1 z1], hk.2⟩, hv, Rels.sub hs hr ks ks' _ z1 r1, Rels.sub hs hr vs vs' ws z2 r2⟩⟩
  | .loc n, e, v, p, h => by
    obtain ⟨a, ev, q⟩ := h
    subst ev
    exact hr n e a p q
  | .scr ns, e, v, p, h => by
    cases p
    obtain ⟨a, e, q | q⟩ := h
    · obtain ⟨o, q, n, m⟩ := q
      exact ⟨a, e, .inl ⟨o, q, hs a n m⟩⟩
    · exact ⟨a, e, .inr q⟩
  | .exc c vs, e, v, p, h => by
    obtain ⟨e0, a, C, ev, hm, q, n, m⟩ := h
    subst e0
    cases p
    exact ⟨rfl, a, C, ev, hm, q, (hs a n m).1, (hs a n m).2⟩
theorem Rels.sub {ρ : Nat → Option D} (hs : ∀ a, a ∉ ι → a ∉ fb → a ∉ ι' ∧ a ∉ fb') (hr : Rho K H fb ι fb' ι' ρ) : ∀ (ds es : List D) (vs : List V), D.subs ρ ds = some es → Rels K H fb ι ds vs → Rels K H fb' ι' es vs
  | [], es, vs, p, h => by cases p; exact h
  | d :: ds, es, vs, p, h => by
    obtain ⟨y, ys, e, r, rs⟩ := h
    have p : ((D.sub ρ d).bind fun y => (D.subs ρ ds).map fun ys => y :: ys) = some es := p
    cases z : D.sub ρ d with
    | none => rw [z] at p; cases p
    | some d' =>
      rw [z] at p
      cases z2 : D.subs ρ ds with
      | none => rw [z2] at p; cases p
      | some ds' =>
        rw [z2] at p
        cases p
        exact ⟨y, ys, e, Rel.sub hs hr d d' y z r, Rels.sub hs hr ds ds' ys z2 rs⟩
end
theorem DicU.sub {ρ : Nat → Option D} (hs : ∀ a, a ∉ ι → a ∉ fb → a ∉ ι' ∧ a ∉ fb') (hr : Rho K H fb ι fb' ι' ρ) {u : HO} {a : Addr} {ks vs ks' vs' : List D} (z1 : D.subs ρ ks = some ks') (z2 : D.subs ρ vs = some vs') (h : DicU K H fb ι u a ks vs) : DicU K H fb' ι' u a ks' vs' := by
  rcases h with ⟨kvs, q, hk, r⟩ | ⟨xs, ws, q, hk, hv, r1, r2⟩
  · refine .inl ⟨kvs, q, ?_, Rels.sub hs hr vs vs' _ z2 r⟩
    subst hk
    exact subs_atoms z1
  · exact .inr ⟨xs, ws, q, ⟨by rw [← hk.1, subs_keys hk.1 z1], hk.2⟩, hv, Rels.sub hs hr ks ks' _ z1 r1, Rels.sub hs hr vs vs' ws z2 r2⟩
/-- the things from k on, as data -/
theorem rho_deep (S : RelS K H fb ι st) (hs : ∀ a, a ∉ ι → a ∉ fb → a ∉ ι' ∧ a ∉ fb') {n0 : Nat} (hn : ∀ n a, n0 ≤ n → ι[n]? = some a → a ∉ ι' ∧ a ∉ fb') : ∀ f, Rho K H fb ι fb' ι' (deepAt st n0 f)
  | 0 => fun n d a e _ => by cases e
  | f + 1 => fun n d a e hi => by
    unfold deepAt at e
    split at e
    · cases e
    · rename_i hlt
      cases q : st[n]? with
      | none => rw [q] at e; cases e
      | some o =>
        rw [q] at e
        have ro := S.at_ n o a q hi
        cases o with
        | dic l ks vs =>
          cases l with
          | true => cases e
          | false =>
            have e : ((D.subs (deepAt st n0 f) ks).bind fun a => (D.subs (deepAt st n0 f) vs).map fun b => D.dic a b) = some d := e
            cases z1 : D.subs (deepAt st n0 f) ks with
            | none => rw [z1] at e; cases e
            | some ks' =>
              rw [z1, Option.bind_some] at e
              cases z2 : D.subs (deepAt st n0 f) vs with
              | none => rw [z2] at e; cases e
              | some vs' =>
                rw [z2] at e; cases e
                obtain ⟨u, dd, h1⟩ := ro
                have w := hn n a (Nat.le_of_not_lt hlt) hi
                exact rel_dic h1 (dd.sub hs (rho_deep S hs hn f) z1 z2) w.1 w.2
        | lst l ds =>
          cases l with
          | true => cases e
          | false =>
            have e : (D.subs (deepAt st n0 f) ds).map D.lst = some d := e
            cases z : D.subs (deepAt st n0 f) ds with
            | none => rw [z] at e; cases e
            | some es =>
              rw [z] at e; cases e
              obtain ⟨xs, h1, r⟩ := ro
              have w := hn n a (Nat.le_of_not_lt hlt) hi
              exact ⟨a, xs, rfl, h1, w.1, w.2, Rels.sub hs (rho_deep S hs hn f) ds es xs z r⟩
end
end Wk

set_option maxRecDepth 100000
set_option maxHeartbeats 1000000
/-! Wk11: calls: there and back. -/
namespace Wk
open PySem PySem.Spec PyProof.Rows L2
variable [pw : PrW]

section
variable {K : PySem.W.Frag} {H H2 : Hp} {fb fb' ι ι' ι2 ι3 : List Addr} {st st1 st2 : Store} {ls : List Nat}
def adr (ι : List Addr) (ls : List Nat) : List Addr := ls.map fun n => ι.getD n 0
def fbc (fb ι : List Addr) (ls : List Nat) : List Addr := fb ++ ι.filter fun a => !decide (a ∈ adr ι ls)
theorem adr_at {j n : Nat} (h : ls[j]? = some n) (hn : n < ι.length) : ∃ a, (adr ι ls)[j]? = some a ∧ ι[n]? = some a := by
  refine ⟨ι[n], ?_, by simp [hn]⟩
  simp [adr, h, List.getD, hn]
theorem adr_len : (adr ι ls).length = ls.length := by simp [adr]
theorem adr_sub (hl : ∀ n ∈ ls, n < ι.length) {a : Addr} (h : a ∈ adr ι ls) : ∃ n, n ∈ ls ∧ ι[n]? = some a := by
  unfold adr at h
  obtain ⟨n, hn, e⟩ := List.mem_map.mp h
  refine ⟨n, hn, ?_⟩
  have := hl n hn
  simp [List.getD, this] at e
  simp [this, e]
omit pw in
mutual
theorem D.sub_pure {ρ : Nat → Option D} : ∀ d : D, d.pure = true → d.sub ρ = some d
  | .non, _ => rfl
  | .bl b, _ => rfl
  | .int i, _ => rfl
  | .str x, _ => rfl
  | .tup ds, p => by show (D.subs ρ ds).map D.tup = _; rw [D.subs_pure ds p]; rfl
  | .lst ds, p => by show (D.subs ρ ds).map D.lst = _; rw [D.subs_pure ds p]; rfl
  | .dic ks vs, p => by
    have p : (D.pures ks && D.pures vs) = true := p
    rw [Bool.and_eq_true] at p
    show ((D.subs ρ ks).bind fun a => (D.subs ρ vs).map fun b => D.dic a b) = _
    rw [D.subs_pure ks p.1, D.subs_pure vs p.2]; rfl
  | .loc n, p => nomatch p
  | .scr ns, _ => rfl
  | .exc c vs, p => by show (D.subs ρ vs).map (D.exc c) = _; rw [D.subs_pure vs p]; rfl
theorem D.subs_pure {ρ : Nat → Option D} : ∀ ds : List D, D.pures ds = true → D.subs ρ ds = some ds
  | [], _ => rfl
  | d :: ds, p => by
    have p : (d.pure && D.pures ds) = true := p
    rw [Bool.and_eq_true] at p
    show ((D.sub ρ d).bind fun y => (D.subs ρ ds).map fun ys => y :: ys) = _
    rw [D.sub_pure d p.1, D.subs_pure ds p.2]; rfl
end
theorem wr_len : ∀ (ls : List Nat) (os : List Ob) (st : Store), (wrBack ls os st).length = st.length
  | [], os, st => by cases os <;> rfl
  | n :: r, [], st => rfl
  | n :: r, o :: os, st => by
    show (wrBack r os (st.set n o)).length = _
    rw [wr_len r os, List.length_set]
theorem wr_at : ∀ (ls : List Nat) (os : List Ob) (st : Store) (n : Nat) (o : Ob), os.length = ls.length → (wrBack ls os st)[n]? = some o → (n ∉ ls ∧ st[n]? = some o) ∨ ∃ j : Nat, ls[j]? = some n ∧ os[j]? = some o
  | [], os, st, n, o, hl, h => by
    cases os with
    | nil => exact .inl ⟨by simp, h⟩
    | cons a b => simp at hl
  | m :: r, [], st, n, o, hl, h => by simp at hl
  | m :: r, p :: os, st, n, o, hl, h => by
    have h : (wrBack r os (st.set m p))[n]? = some o := h
    rcases wr_at r os _ n o (by simpa using hl) h with ⟨h1, h2⟩ | ⟨j, h1, h2⟩
    · by_cases e : n = m
      · subst e
        have hlt : n < st.length := by
          have := (List.getElem?_eq_some_iff.mp h2).1
          simpa using this
        rw [List.getElem?_set_self hlt] at h2
        cases h2
        exact .inr ⟨0, rfl, rfl⟩
      · rw [List.getElem?_set_ne (Ne.symm e)] at h2
        exact .inl ⟨fun hm => by rcases List.mem_cons.mp hm with z | z; exact e z; exact h1 z, h2⟩
    · exact .inr ⟨j + 1, by simpa using h1, by simpa using h2⟩
theorem obs_at : ∀ {ls : List Nat} {os : List Ob}, obsAt st ls = some os → os.length = ls.length ∧ (∀ (j n : Nat), ls[j]? = some n → ∃ o, os[j]? = some o ∧ st[n]? = some o)
  | [], os, h => by cases h; simp
  | m :: r, os, h => by
    have h : ((st[m]?).bind fun o => (obsAt st r).map fun os => o :: os) = some os := h
    cases q : st[m]? with
    | none => rw [q] at h; cases h
    | some o =>
      rw [q] at h
      cases z : obsAt st r with
      | none => rw [z] at h; cases h
      | some os' =>
        rw [z] at h; cases h
        obtain ⟨h1, h2⟩ := obs_at z
        refine ⟨by simp [h1], fun j n e => ?_⟩
        cases j with
        | zero => simp at e; subst e; exact ⟨o, rfl, q⟩
        | succ j => obtain ⟨o', a, b⟩ := h2 j n (by simpa using e); exact ⟨o', by simpa using a, b⟩
theorem frz_at {n0 : Nat} : ∀ {os os' : List Ob}, frzs st n0 os = some os' → os'.length = os.length ∧ (∀ (j : Nat) o', os'[j]? = some o' → ∃ o, os[j]? = some o ∧ o.frz st n0 = some o')
  | [], os', h => by cases h; simp
  | o :: os, os', h => by
    have h : ((o.frz st n0).bind fun a => (frzs st n0 os).map fun as => a :: as) = some os' := h
    cases q : o.frz st n0 with
    | none => rw [q] at h; cases h
    | some a =>
      rw [q] at h
      cases z : frzs st n0 os with
      | none => rw [z] at h; cases h
      | some as =>
        rw [z] at h; cases h
        obtain ⟨h1, h2⟩ := frz_at z
        refine ⟨by simp [h1], fun j o' e => ?_⟩
        cases j with
        | zero => simp at e; subst e; exact ⟨o, rfl, q⟩
        | succ j => obtain ⟨o', a, b⟩ := h2 j o' (by simpa using e); exact ⟨o', by simpa using a, b⟩
theorem frz_rel (hs : ∀ a, a ∉ ι → a ∉ fb → a ∉ ι' ∧ a ∉ fb') {n0 : Nat} (hr : ∀ f, Rho K H fb ι fb' ι' (deepAt st n0 f)) {a : Addr} {o o' : Ob} (e : o.frz st n0 = some o') (h : RelO K H fb ι a o) : RelO K H fb' ι' a o' := by
  cases o with
  | dic l ks vs =>
    have e : ((D.subs (deepAt st n0 st.length) ks).bind fun a => (D.subs (deepAt st n0 st.length) vs).map fun b => Ob.dic l a b) = some o' := e
    cases z1 : D.subs (deepAt st n0 st.length) ks with
    | none => rw [z1] at e; cases e
    | some ks' =>
      rw [z1, Option.bind_some] at e
      cases z2 : D.subs (deepAt st n0 st.length) vs with
      | none => rw [z2] at e; cases e
      | some vs' =>
        rw [z2] at e; cases e
        obtain ⟨u, d, q⟩ := h
        exact ⟨u, d.sub hs (hr _) z1 z2, q⟩
  | lst l ds =>
    have e : (D.subs (deepAt st n0 st.length) ds).map (Ob.lst l) = some o' := e
    cases z : D.subs (deepAt st n0 st.length) ds with
    | none => rw [z] at e; cases e
    | some es =>
      rw [z] at e; cases e
      cases l with
      | false => obtain ⟨xs, h1, r⟩ := h; exact ⟨xs, h1, Rels.sub hs (hr _) ds es xs z r⟩
      | true => obtain ⟨od, xs, h1, r⟩ := h; exact ⟨od, xs, h1, Rels.sub hs (hr _) ds es xs z r⟩
omit pw in
theorem Ob.frz_pure {o : Ob} {n0 : Nat} (h : o.pure = true) : o.frz st n0 = some o := by
  cases o with
  | lst l ds => show (D.subs _ ds).map _ = _; rw [D.subs_pure ds h]; rfl
  | dic l ks vs =>
    have h : (D.pures ks && D.pures vs) = true := h
    rw [Bool.and_eq_true] at h
    show ((D.subs _ ks).bind fun a => (D.subs _ vs).map fun b => Ob.dic l a b) = _
    rw [D.subs_pure ks h.1, D.subs_pure vs h.2]; rfl
/-- there -/
theorem there (S : RelS K H fb ι st) {os : List Ob} (e : obsAt st ls = some os) (nd : ls.Nodup) (hp : os.all Ob.pure = true) : (∀ n ∈ ls, n < st.length) ∧ RelS K H (fbc fb ι ls) (adr ι ls) os := by
  obtain ⟨h1, h2⟩ := obs_at e
  have hl : ∀ n ∈ ls, n < st.length := fun n hn => by
    obtain ⟨j, hj, ej⟩ := List.getElem_of_mem hn
    obtain ⟨o, _, z⟩ := h2 j n (by simp [hj, ej])
    exact (List.getElem?_eq_some_iff.mp z).1
  have hl' : ∀ n ∈ ls, n < ι.length := fun n hn => by rw [S.len]; exact hl n hn
  refine ⟨hl, ⟨by rw [adr_len, h1], ?_, fun a ha => ?_, fun a ha hf => ?_, fun j o a ho ha => ?_⟩⟩
  · unfold adr
    refine List.pairwise_map.mpr (List.Pairwise.imp_of_mem (fun {m n} hm hn hne e => ?_) nd)
    have w1 := hl' m hm
    have w2 := hl' n hn
    simp [List.getD, w1, w2] at e
    exact hne ((List.getElem_inj S.nd).mp e)
  · rcases List.mem_append.mp ha with z | z
    · exact S.fbs a z
    · obtain ⟨u, q⟩ := S.live ((List.mem_filter.mp z).1)
      rw [q]; exact fun z => nomatch z
  · obtain ⟨n, hn, hi⟩ := adr_sub hl' ha
    rcases List.mem_append.mp hf with z | z
    · exact S.dj a (List.mem_of_getElem? hi) z
    · have := (List.mem_filter.mp z).2
      simp [ha] at this
  · have hj : j < ls.length := by rw [← h1]; exact (List.getElem?_eq_some_iff.mp ho).1
    obtain ⟨o', z1, z2⟩ := h2 j ls[j] (by simp [hj])
    rw [ho] at z1; cases z1
    obtain ⟨a', z3, z4⟩ := adr_at (ι := ι) (ls := ls) (j := j) (n := ls[j]) (by simp [hj]) (hl' _ (List.getElem_mem hj))
    rw [ha] at z3; cases z3
    refine RelO.move (fun b n1 n2 => ?_) (List.all_eq_true.mp hp o (List.mem_of_getElem? ho)) (S.at_ _ o a z2 z4)
    refine ⟨fun z => ?_, fun z => ?_⟩
    · obtain ⟨n, _, hi⟩ := adr_sub hl' z
      exact n1 (List.mem_of_getElem? hi)
    · rcases List.mem_append.mp z with z | z
      · exact n2 z
      · exact n1 ((List.mem_filter.mp z).1)
theorem rels_renum (S : RelS K H fb ι st) (all : List Nat) (hl : ∀ n ∈ all, n < ι.length) : ∀ (ds : List D) (vs : List V) (j : Nat), ds.all argOk = true → (∀ i n, (locs ds)[i]? = some n → all[j + i]? = some n) → Rels K H fb ι ds vs → Rels K H (fbc fb ι all) (adr ι all) (renum j ds) vs
  | [], vs, j, _, _, h => by have h : vs = [] := h; subst h; exact rfl
  | d :: ds, vs, j, p, hi, h => by
    obtain ⟨y, ys, rfl, r, rs⟩ := h
    rw [List.all_cons, Bool.and_eq_true] at p
    have mv : ∀ b, b ∉ ι → b ∉ fb → b ∉ adr ι all ∧ b ∉ fbc fb ι all := fun b n1 n2 => by
      refine ⟨fun z => ?_, fun z => ?_⟩
      · obtain ⟨n, _, hi⟩ := adr_sub hl z
        exact n1 (List.mem_of_getElem? hi)
      · rcases List.mem_append.mp z with z | z
        · exact n2 z
        · exact n1 ((List.mem_filter.mp z).1)
    cases d with
    | loc n =>
      obtain ⟨a, e, q⟩ := r
      have hn := hi 0 n rfl
      obtain ⟨a', z3, z4⟩ := adr_at (ι := ι) hn (hl n (List.mem_of_getElem? hn))
      rw [q] at z4; cases z4
      refine ⟨y, ys, rfl, ⟨a, e, z3⟩, rels_renum S all hl ds ys (j + 1) p.2 (fun i m e => ?_) rs⟩
      have := hi (i + 1) m (by simpa [locs] using e)
      rw [← this]; congr 1; omega
    | _ => exact ⟨y, ys, rfl, Rel.move mv _ _ p.1 r, rels_renum S all hl ds ys j p.2 (fun i m e => hi i m (by simpa [locs] using e)) rs⟩
/-- back -/
theorem back_ok {kp : Bool} {d e : D} (S : RelS K H fb ι st) (hl : ∀ n ∈ ls, n < st.length) (g : Grow (adr ι ls) H ι2 H2) (S2 : RelS K H2 (fbc fb ι ls) ι2 st2) (hb : backD kp ls d st2 st = some (e, st1)) :
    ∃ ι3, Grow ι H ι3 H2 ∧ RelS K H2 fb ι3 st1 ∧ ∀ v, Rel K H2 (fbc fb ι ls) ι2 d v → Rel K H2 fb ι3 e v := by
  have hl' : ∀ n ∈ ls, n < ι.length := fun n hn => by rw [S.len]; exact hl n hn
  obtain ⟨new, e2, hnew⟩ := g.pre
  have hs : ∀ a, a ∉ ι2 → a ∉ fbc fb ι ls → a ∉ ι ∧ a ∉ fb := fun a n1 n2 => by
    refine ⟨fun z => ?_, fun z => n2 (List.mem_append_left _ z)⟩
    by_cases q : a ∈ adr ι ls
    · exact n1 (by rw [e2]; exact List.mem_append_left _ q)
    · exact n2 (List.mem_append_right _ (List.mem_filter.mpr ⟨z, by simp [q]⟩))
  have hnw : ∀ n a, ls.length ≤ n → ι2[n]? = some a → H a = none := fun n a hn hi => by
    rw [e2, List.getElem?_append_right (by rw [adr_len]; exact hn)] at hi
    exact hnew a (List.mem_of_getElem? hi)
  have hn : ∀ n a, ls.length ≤ n → ι2[n]? = some a → a ∉ ι ∧ a ∉ fb := fun n a h1 h2 => S.fresh (hnw n a h1 h2)
  have hk : ∀ a o, H a = some o → a ∉ ι → H2 a = some o := fun a o h1 h2 => g.keep a o h1 fun z => by
    obtain ⟨n, _, hi⟩ := adr_sub hl' z
    exact h2 (List.mem_of_getElem? hi)
  have g1 : Grow ι H ι H2 := ⟨⟨⟨[], by simp, by simp⟩, hk⟩, g.live, g.frz⟩
  have hj2 : ∀ j n a, ls[j]? = some n → ι[n]? = some a → ι2[j]? = some a := fun j n a h1 h2 => by
    obtain ⟨a', z3, z4⟩ := adr_at (ι := ι) h1 (hl' n (List.mem_of_getElem? h1))
    rw [h2] at z4; cases z4
    exact g.at_ z3
  unfold backD at hb
  cases hf : frzs st2 ls.length (st2.take ls.length) with
  | none => rw [hf] at hb; cases hb
  | some os =>
    rw [hf] at hb
    have hb := hb
    simp only [Option.bind_some] at hb
    split at hb
    · rename_i hlen
      have hlen : os.length = ls.length := by simpa using hlen
      obtain ⟨f1, f2⟩ := frz_at hf
      have old : ∀ {ι3 : List Addr}, Grow0 ι H ι3 H2 → (∀ j o0 o a, st2[j]? = some o0 → (st2.take ls.length)[j]? = some o0 → o0.frz st2 ls.length = some o → ι2[j]? = some a → RelO K H2 (fbc fb ι ls) ι2 a o0 → RelO K H2 fb ι3 a o) →
          ∀ n o a, (wrBack ls os st)[n]? = some o → ι[n]? = some a → RelO K H2 fb ι3 a o := fun {ι3} g0 hO n o a h1 h2 => by
        rcases wr_at ls os st n o hlen h1 with ⟨q1, q2⟩ | ⟨j, q1, q2⟩
        · have na : a ∉ adr ι ls := fun z => by
            obtain ⟨m, hm, hi⟩ := adr_sub hl' z
            obtain ⟨l1, e1⟩ := List.getElem?_eq_some_iff.mp h2
            obtain ⟨l2, e2⟩ := List.getElem?_eq_some_iff.mp hi
            exact q1 ((List.getElem_inj S.nd).mp (e1.trans e2.symm) ▸ hm)
          exact RelO.mono0 g0 (fun u e => g.keep a u e na) (S.at_ n o a q2 h2)
        · obtain ⟨o0, z1, z2⟩ := f2 j o q2
          have z1' : st2[j]? = some o0 := by
            rw [List.getElem?_take] at z1
            split at z1
            · exact z1
            · cases z1
          have hi := hj2 j n a q1 h2
          exact hO j o0 o a z1' z1 z2 hi (S2.at_ j o0 a z1' hi)
      have rd : ∀ f, Rho K H2 (fbc fb ι ls) ι2 fb ι (deepAt st2 ls.length f) := rho_deep S2 hs hn
      have R0 : RelS K H2 fb ι (wrBack ls os st) := ⟨by rw [wr_len]; exact S.len, S.nd, fun a m e => S.fbs a m (g1.none e), S.dj,
        old g1.toGrow0 fun j o0 o a _ _ e _ r => frz_rel hs rd e r⟩
      have gen : ∀ {d : D}, (d.sub (deepAt st2 ls.length st2.length)).map (fun e => (e, wrBack ls os st)) = some (e, st1) → ∃ ι3, Grow ι H ι3 H2 ∧ RelS K H2 fb ι3 st1 ∧ ∀ v, Rel K H2 (fbc fb ι ls) ι2 d v → Rel K H2 fb ι3 e v := fun {d} hb => by
        cases q : d.sub (deepAt st2 ls.length st2.length) with
        | none => rw [q] at hb; cases hb
        | some e' =>
          rw [q] at hb; cases hb
          exact ⟨ι, g1, R0, fun v r => Rel.sub hs (rd _) d _ v q r⟩
      cases d with
      | loc j =>
        simp only at hb
        split at hb
        · cases q : ls[j]? with
          | none => rw [q] at hb; cases hb
          | some n =>
            rw [q] at hb; cases hb
            refine ⟨ι, g1, R0, fun v r => ?_⟩
            obtain ⟨a, e, hi⟩ := r
            obtain ⟨a', z3, z4⟩ := adr_at (ι := ι) q (hl' n (List.mem_of_getElem? q))
            have := g.at_ z3
            rw [hi] at this; cases this
            exact ⟨a, e, z4⟩
        · rename_i hjn
          split at hb
          · split at hb
            · rename_i hpu
              cases q : st2[j]? with
              | none => rw [q] at hb; cases hb
              | some o =>
                rw [q] at hb
                have key : o.pure = true → (D.loc st.length, wrBack ls os st ++ [o]) = (e, st1) → ∃ ι3, Grow ι H ι3 H2 ∧ RelS K H2 fb ι3 st1 ∧ ∀ v, Rel K H2 (fbc fb ι ls) ι2 (.loc j) v → Rel K H2 fb ι3 e v := fun hx hb => by
                      cases hb
                      have hj : j < ι2.length := by rw [S2.len]; exact (List.getElem?_eq_some_iff.mp q).1
                      have hi : ι2[j]? = some ι2[j] := by simp [hj]
                      generalize ι2[j] = a at hi
                      have ha := hnw j a (Nat.le_of_not_lt hjn) hi
                      have hfr := S.fresh ha
                      have g3 : Grow ι H (ι ++ [a]) H2 := ⟨⟨⟨[a], rfl, fun b hb => by simp at hb; subst hb; exact ha⟩, hk⟩, g.live, g.frz⟩
                      have hs3 : ∀ b, b ∉ ι2 → b ∉ fbc fb ι ls → b ∉ ι ++ [a] ∧ b ∉ fb := fun b n1 n2 => by
                        refine ⟨fun z => ?_, (hs b n1 n2).2⟩
                        rcases List.mem_append.mp z with z | z
                        · exact (hs b n1 n2).1 z
                        · simp at z; subst z; exact n1 (List.mem_of_getElem? hi)
                      refine ⟨ι ++ [a], g3, ⟨by simp [wr_len, S.len], ?_, fun b m e => S.fbs b m (g1.none e), fun b m => ?_, fun n o b h1 h2 => ?_⟩, fun v r => ?_⟩
                      · rw [List.nodup_append]
                        refine ⟨S.nd, by simp, fun b hb c hc => ?_⟩
                        simp at hc; subst hc
                        exact fun z => hfr.1 (z ▸ hb)
                      · rcases List.mem_append.mp m with z | z
                        · exact S.dj b z
                        · simp at z; subst z; exact hfr.2
                      · by_cases hlt : n < st.length
                        · rw [List.getElem?_append_left (by rw [wr_len]; exact hlt)] at h1
                          rw [List.getElem?_append_left (by rw [S.len]; exact hlt)] at h2
                          refine old g3.toGrow0 (fun j o0 o a _ ht e _ r => ?_) n o b h1 h2
                          have hp := List.all_eq_true.mp hpu o0 (List.mem_of_getElem? ht)
                          rw [Ob.frz_pure hp] at e; cases e
                          exact RelO.move hs3 hp r
                        · have en : n = st.length := by
                            have := (List.getElem?_eq_some_iff.mp h1).1
                            simp [wr_len] at this
                            omega
                          subst en
                          rw [List.getElem?_append_right (by rw [wr_len]; exact Nat.le_refl _)] at h1
                          rw [List.getElem?_append_right (by rw [S.len]; exact Nat.le_refl _)] at h2
                          simp [S.len, wr_len] at h1 h2
                          subst h1 h2
                          exact RelO.move hs3 hx (S2.at_ j _ a q hi)
                      · obtain ⟨b, e, hi'⟩ := r
                        rw [hi] at hi'; cases hi'
                        exact ⟨a, e, by simp [← S.len]⟩
                cases o with
                | dic l ks vs =>
                  cases l with
                  | true => cases hb
                  | false =>
                    simp only at hb
                    split at hb
                    · rename_i hx; exact key hx (Option.some.inj hb)
                    · cases hb
                | lst l xs =>
                  cases l with
                  | true => cases hb
                  | false =>
                    simp only at hb
                    split at hb
                    · rename_i hx; exact key hx (Option.some.inj hb)
                    · cases hb
            · cases hb
          · cases q : deepAt st2 ls.length st2.length j with
            | none => rw [q] at hb; cases hb
            | some e' =>
              rw [q] at hb; cases hb
              refine ⟨ι, g1, R0, fun v r => ?_⟩
              obtain ⟨a, e, hi⟩ := r
              subst e
              exact rd _ j _ a q hi
      | _ => exact gen hb
    · cases hb
theorem back_exc {kp : Bool} {c : Str} {e : D} (hb : backD kp ls (.exc c []) st2 st = some (e, st1)) : e = .exc c [] := by
  unfold backD at hb
  cases hf : frzs st2 ls.length (st2.take ls.length) with
  | none => rw [hf] at hb; cases hb
  | some os =>
    rw [hf] at hb
    simp only [Option.bind_some] at hb
    split at hb
    · have hb : some (D.exc c [], wrBack ls os st) = some (e, st1) := hb
      cases hb; rfl
    · cases hb
theorem call_ok {C : Ctx} {kp : Bool} {f : Str} {mg : Str → Option Value} {ds : List D} {vs : List V} {Q : VK} {E : XK} (S : RelS K H fb ι st) (r : Rels K H fb ι ds vs)
    (h : Po K fb (callD C kp f ds st) (okE K fb Q) (fun e _ ι' H' => ∀ cls dx, RelX mg e cls dx → E cls dx H') ι H) :
    spOf K mg C f vs H Q E := by
  unfold callD at h
  split at h
  · rename_i hc
    rw [Bool.and_eq_true, decide_eq_true_eq] at hc
    cases ho : obsAt st (locs ds) with
    | none => rw [ho] at h; exact h.elim
    | some os =>
      rw [ho] at h
      simp only at h
      split at h
      · rename_i hp
        obtain ⟨hl, St⟩ := there S ho hc.2 hp
        refine ⟨_, _, _, _, St, rels_renum S (locs ds) (fun n hn => by rw [S.len]; exact hl n hn) ds vs 0 hc.1 (fun i n e => by rw [Nat.zero_add]; exact e) r, ?_⟩
        cases q : C.call f (renum 0 ds) os with
        | none => rw [q] at h; exact h.elim
        | some o =>
          rw [q] at h
          cases o with
          | ok d st2 =>
            simp only at h
            intro ι2 H2 g S2 v rv
            cases hb : backD kp (locs ds) d st2 st with
            | none => rw [hb] at h; exact h.elim
            | some p =>
              obtain ⟨e, st1⟩ := p
              rw [hb] at h
              obtain ⟨ι3, g3, S3, r3⟩ := back_ok S hl g S2 hb
              exact h ι3 H2 g3 S3 v (r3 v rv)
          | ex d st2 =>
            simp only at h
            intro ι2 H2 g S2 cls dx rx
            cases hb : backD false (locs ds) d st2 st with
            | none => rw [hb] at h; exact h.elim
            | some p =>
              obtain ⟨e, st1⟩ := p
              rw [hb] at h
              obtain ⟨ι3, g3, S3, r3⟩ := back_ok S hl g S2 hb
              obtain ⟨c, Ca, rfl, z⟩ := rx
              have := back_exc hb
              subst this
              exact h ι3 H2 g3 S3 cls dx ⟨c, Ca, rfl, z⟩
      · exact h.elim
  · exact h.elim
end
end Wk

set_option maxRecDepth 100000
set_option maxHeartbeats 1000000
/-! Wk12: side conditions by the text's form; calls, built-ins, methods, targets in the text. -/
namespace Wk
open PySem PySem.Spec PyProof.Rows L2
variable [pw : PrW]

/-! ### by form -/
def nst : Expr → Bool
  | .Starred .. => false
  | _ => true
theorem star_one {e : Expr} {es : List Expr} {env : PySem.Env} (h : nst e = true) : starEach (e :: es) env = (false, eval e env) :: starEach es env := by
  cases e <;> first | rfl | cases h
theorem star_all {pos : Pos} {env : PySem.Env} : ∀ {es : List Expr}, es.all nst = true → (backTo pos (starEach es env)).any (·.1) = false
  | [], _ => rfl
  | e :: es, h => by
    rw [List.all_cons, Bool.and_eq_true] at h
    rw [star_one h.1]
    show (false || (backTo pos (starEach es env)).any (·.1)) = false
    rw [star_all h.2]; rfl
def plainB : Expr → Bool
  | .Slice .. => false
  | _ => true
theorem plain_ix {b : Expr} (h : plainB b = true) : PlainIx b := by
  intro o i
  cases b <;> first | rfl | cases h
def ncpB : Expr → Bool
  | .ListComp .. | .SetComp .. | .DictComp .. => false
  | _ => true
theorem ncp_sw {e : Expr} {t : Option Expr} {l : Nat} {env : PySem.Env} (h : ncpB e = true) : swapsWith e t l env = pure false := by
  cases e <;> first | rfl | cases h
def valB : Expr → Bool
  | .UnaryOp .Not _ _ | .BoolOp .. | .IfExp .. | .Compare .. => false
  | _ => true
theorem val_true {e : Expr} {env : PySem.Env} (h : valB e = true) : ∀ whole, isTrue e env whole = (do let v ← whole; standAt e.pos; holding [v] (truthy v)) := by
  intro whole
  cases e with
  | UnaryOp o x p => cases o <;> first | rfl | cases h
  | BoolOp => cases h
  | IfExp => cases h
  | Compare => cases h
  | _ => rfl
def nsetB : Expr → Bool
  | .Set .. => false
  | _ => true
theorem nset_fold {e : Expr} {env : PySem.Env} (h : nsetB e = true) : ∀ x, foldedSetIterable e env x = pure x := by
  intro x
  cases e <;> first | rfl | cases h

section
variable {G : Pr} {X : Cx} {C : Ctx} {W : WX} {k : Nat}
/-! ### calls -/
theorem run_g {sp : Sp} {fa : Addr} {fd : FuncData} {ps : List Str} {E : L2.St → XK} {pins : List (Addr × Obj)} {σ : L2.St} {H : Hp} {s : Shared} {Q : VK} {us : List Value} {vs : List V} (F : FnG X.prog X.w X.K X.mg X.base k fa fd ps sp) (hr : Room k X.A) (hgd : X.A.guards = some []) (hb : Binds X.K fd ps []) (hx : PassesAt (L2.CX X.prog X.w) X σ (E σ))
    (I : L2.Inv X pins σ H s) (r : Vals vs us) (h : sp vs H Q (E σ)) : wpAny (model X.prog X.w) X.A (call (.ref fa) us) (EP X pins σ Q) X.xe s := by
  have hl : us.length = ps.length := by rw [← r.length]; exact F.len _ _ _ _ h
  have b := hb s us I.kIn (by rw [List.append_nil]; exact hl)
  rw [List.append_nil] at b
  refine wpAny_call (codeAny_mono (F.run X.A X.stack s H ⟨us, []⟩ us vs Q (E σ) hr hgd I.env0 b r h) fun r s' hq => ?_)
  cases r with
  | error e => exact hx pins H s e s' I hq
  | ok fl =>
    cases fl with
    | ret u => exact I.after hq
    | next => exact False.elim hq
    | brk => exact False.elim hq
    | cont => exact False.elim hq
theorem s_callF {kp : Bool} {f : Str} {xs : Exs} {σ : L2.St} {H : Hp} {Q : VK} (h : sE X C W (.call kp f xs) σ H Q) : sA X C W xs σ H fun vs H1 => spOf X.K X.mg C f vs H1 Q (WE W σ) := by
  obtain ⟨fb, ι, env, st, hE, hS, hp⟩ := h
  exact ⟨fb, ι, env, st, hE, hS, (Po.bind (m := evA C xs env) hp).mono (fun ds st1 ι1 H1 g S q vs r => call_ok S r q) fun _ _ _ _ _ _ q => q⟩
theorem s_call (ok : Cok G X C W k) {kp : Bool} {f : Str} {F : Fn} {xs : Exs} {e : Expr} {es : List Expr} {p pos : Pos} (hF : G.fns f = some F) (hg : Gl X f) (ha : PA X (e :: es) (sA X C W xs)) (hdb : (f == ("__debug__" : Str)) = false) (h1 : nst e = true) (h2 : es.all nst = true) :
    PE X (.Call (.Name f p) (e :: es) [] pos) (sE X C W (.call kp f xs)) := by
  obtain ⟨fa, fd, ps, hps, hm, hk, hb, FG⟩ := ok.txt.fn f F hF
  refine ⟨fun pins s σ H Q I h => ?_⟩
  refine wpAny_Call_Name_kw (ld_glob I hg hm ?_ hdb)
  refine PySem.W.callWith_K (h₀ := X.base) I.ok.mod.kin hk (thn (ha.run pos pins s σ H _ I (s_callF h)) fun us s1 ⟨vs, H1, I1, r, q⟩ => ⟨I1.kIn, ?_⟩) (star_one h1) (star_all h2)
  exact run_g FG ok.room ok.gd hb (passAt ok.tk σ) I1 r q
theorem s_call0 (ok : Cok G X C W k) {kp : Bool} {f : Str} {F : Fn} {p pos : Pos} (hF : G.fns f = some F) (hg : Gl X f) (hdb : (f == ("__debug__" : Str)) = false) :
    PE X (.Call (.Name f p) [] [] pos) (sE X C W (.call kp f .nil)) := by
  obtain ⟨fa, fd, ps, hps, hm, hk, hb, FG⟩ := ok.txt.fn f F hF
  refine ⟨fun pins s σ H Q I h => ?_⟩
  refine wpAny_Call_Name_kw (ld_glob I hg hm ?_ hdb)
  have q : spOf X.K X.mg C f [] H Q (WE W σ) := by
    obtain ⟨fb, ι, env, st, hE, hS, hp⟩ := s_callF h
    exact Po.ret (a := ([] : List D)) hp hS [] rfl
  exact PySem.W.callWith_K0 I.kIn hk (run_g (us := []) FG ok.room ok.gd hb (passAt ok.tk σ) I .nil q)

/-! ### built-ins -/
inductive Bt (X : Cx) (f : Str) : Prop where
  | fn (id : String) (h : bootBuiltins f = some (.builtin id)) (r : CallR X (.builtin id) (rBlt X.K (bltD f)))
  | ty (T : String) (h : bootBuiltins f = some (.type T)) (r : CallR X (.type T) (rBlt X.K (bltD f)))
def btNames : List Str := ["len", "all", "any", "tuple", "list", "sum", "max", "min", "int", "repr"]
theorem bt_of (ok : Cok G X C W k) {f : Str} (h : f ∈ btNames) : Bt X f := by
  simp only [btNames, List.mem_cons, List.not_mem_nil, or_false] at h
  rcases h with rfl | rfl | rfl | rfl | rfl | rfl | rfl | rfl | rfl | rfl
  · exact .fn "len" (by decide +kernel) (bt_len ok.hX)
  · exact .fn "all" (by decide +kernel) (bt_all ok.calm)
  · exact .fn "any" (by decide +kernel) (bt_any ok.calm)
  · exact .ty "tuple" (by decide +kernel) bt_tuple
  · exact .ty "list" (by decide +kernel) bt_list
  · exact .fn "sum" (by decide +kernel) (bt_sum ok.calm)
  · exact .fn "max" (by decide +kernel) (bt_max ok.calm)
  · exact .fn "min" (by decide +kernel) (bt_min ok.calm)
  · exact .ty "int" (by decide +kernel) bt_int
  · exact .fn "repr" (by decide +kernel) (bt_repr ok.gd ok.hu)
theorem bt_nm {f : Str} (h : f ∈ btNames) : f ≠ "__name__" ∧ (f == ("__debug__" : Str)) = false := by
  have : btNames.all (fun f => f != "__name__" && !(f == ("__debug__" : Str))) = true := by decide +kernel
  have := List.all_eq_true.mp this f h
  simpa using this
theorem s_bltF {f : Str} {xs : Exs} {σ : L2.St} {H : Hp} {Q : VK} (h : sE X C W (.blt f xs) σ H Q) : sA X C W xs σ H fun vs H1 => rBlt X.K (bltD f) vs H1 Q := by
  obtain ⟨fb, ι, env, st, hE, hS, hp⟩ := h
  refine ⟨fb, ι, env, st, hE, hS, (Po.bind (m := evA C xs env) hp).mono (fun ds st1 ι1 H1 g S q vs r => ?_) fun _ _ _ _ _ _ q => q⟩
  obtain ⟨d, e, q⟩ := q.rd
  exact ⟨fb, ι1, st1, ds, d, S, r, e, Yl.of q⟩
theorem s_blt (ok : Cok G X C W k) {f : Str} {xs : Exs} {e : Expr} {es : List Expr} {p pos : Pos} (hf : f ∈ btNames) (hm : f ∈ G.blts) (hg : Gl X f) (ha : PA X (e :: es) (sA X C W xs)) (h1 : nst e = true) (h2 : es.all nst = true) :
    PE X (.Call (.Name f p) (e :: es) [] pos) (sE X C W (.blt f xs)) := by
  obtain ⟨n1, n2⟩ := bt_nm hf
  cases bt_of ok hf with
  | fn id hv r => exact PE.weaken (pe_callB r hg (ok.txt.blt f hm) hv ha n1 n2 (star_one h1) (star_all h2)) fun σ H Q h => s_bltF h
  | ty T hv r => exact PE.weaken (pe_callTy r hg (ok.txt.blt f hm) hv ha n1 n2 (star_one h1) (star_all h2)) fun σ H Q h => s_bltF h
/-- list(x), to be changed -/
theorem s_lsa (ok : Cok G X C W k) {xs : Exs} {e : Expr} {p pos : Pos} (hm : ("list" : Str) ∈ G.blts) (hg : Gl X "list") (ha : PA X [e] (sA X C W xs)) (h1 : nst e = true) : PE X (.Call (.Name "list" p) [e] [] pos) (sE X C W (.lsa xs)) :=
  PE.weaken (pe_callTy bt_listA hg (ok.txt.blt _ hm) (by decide +kernel) ha (by decide) (by decide) (star_one h1) rfl) fun σ H Q ⟨fb, ι, env, st, hE, hS, hp⟩ => by
    refine ⟨fb, ι, env, st, hE, hS, (Po.bind (m := evA C xs env) hp).mono (fun ds st1 ι1 H1 g S q vs r => ?_) fun _ _ _ _ _ _ q => q⟩
    obtain ⟨d, e1, q⟩ := (Po.bind q).rd
    have q := q ι1 H1 Grow.refl S
    cases d with
    | lst ys => exact ⟨fb, ι1, st1, ds, ys, S, r, e1, q⟩
    | _ => exact q.elim
theorem s_isi (ok : Cok G X C W k) {t : String} {a : Ex} {a' : Expr} {p p2 pos : Pos} (ht : t ∈ isiTys) (hi : ("isinstance" : Str) ∈ G.blts) (hg : Gl X "isinstance") (hm : Str.ofString t ∈ G.blts) (hg2 : Gl X (Str.ofString t)) (ha : PE X a' (sE X C W a)) (h1 : nst a' = true) :
    PE X (.Call (.Name "isinstance" p) [a', .Name (Str.ofString t) p2] [] pos) (sE X C W (.isi a t)) := by
  have ft : bootBuiltins (Str.ofString t) = some (.type t) ∧ Str.ofString t ≠ "__name__" ∧ (Str.ofString t == ("__debug__" : Str)) = false := by
    simp only [isiTys, List.mem_cons, List.not_mem_nil, or_false] at ht
    rcases ht with rfl | rfl | rfl | rfl | rfl <;> exact ⟨by decide +kernel, by decide +kernel, by decide +kernel⟩
  have pt : PE X (.Name (Str.ofString t) p2) (tC (.ty t)) := pe_bltn hg2 (ok.txt.blt _ hm) ft.1 rfl ft.2.1 ft.2.2
  refine PE.weaken (pe_callB (bt_isi ht) hg (ok.txt.blt _ hi) (by decide +kernel) (pa_cons ha (pa_cons pt pa_nil (by rfl)) (star_one h1)) (by decide) (by decide) (star_one h1) rfl) fun σ H Q h => ?_
  exact (s_bind1 (f := fun x => M.rd fun st => (tyOf st x).map fun u => .bl (isTy u t)) (fun _ => rfl) h).mono fun x H1 ⟨fb, ι, st, dx, S, rx, q⟩ => by
    obtain ⟨d, e, q⟩ := q.rd
    cases hu : tyOf st dx with
    | none => rw [hu] at e; cases e
    | some u =>
      rw [hu] at e; cases e
      exact ⟨fb, ι, st, dx, x, u, S, rx, hu, rfl, Yl.of q⟩
/-! ### methods -/
theorem metTy_list {m : Str} {x : D} {st : Store} (hm : m ∈ lMs) (h : metTy m x st = some ()) {K : PySem.W.Frag} {H : Hp} {fb ι : List Addr} {v : V} (S : RelS K H fb ι st) (r : Rel K H fb ι x v) : tyV K "list" v H := by
  have n1 : m ∉ dMs := by
    have : ∀ m ∈ lMs, m ∉ dMs := by decide +kernel
    exact this m hm
  have n2 : (m == ("bit_length" : Str)) = false := by
    have : ∀ m ∈ lMs, (m == ("bit_length" : Str)) = false := by decide +kernel
    exact this m hm
  cases x with
  | loc n =>
    obtain ⟨a, rfl, hi⟩ := r
    unfold metTy at h
    cases q : st[n]? with
    | none => simp only [q] at h; cases h
    | some o =>
      simp only [q] at h
      cases o with
      | dic l ks vs => simp only [n1, if_false] at h; cases h
      | lst l ds =>
        have ro := S.at_ n _ a q hi
        refine .inl ⟨rfl, ?_⟩
        cases l with
        | true => obtain ⟨od, xs, h1, _⟩ := ro; exact ⟨xs, .inl (.inr ⟨od, h1⟩)⟩
        | false => obtain ⟨xs, h1, _⟩ := ro; exact ⟨xs, SqL.of h1⟩
  | lst ds => obtain ⟨a, xs, rfl, q, _⟩ := r; exact .inl ⟨rfl, xs, SqL.of q⟩
  | dic ks vs => unfold metTy at h; rw [if_neg n1] at h; cases h
  | int i =>
    have h : (if m == ("bit_length" : Str) then some () else none) = some () := h
    rw [n2] at h
    cases h
  | _ => cases h
theorem s_metF {m : Str} {a : Ex} {xs : Exs} (hm : m = "append" ∨ m = "insert") {σ : L2.St} {H : Hp} {Q : VK} (h : sE X C W (.met m a xs) σ H Q) : tBM X.K "list" (rMet X.K (metD m)) (sE X C W a) (sA X C W xs) σ H Q := by
  obtain ⟨fb, ι, env, st, hE, hS, hp⟩ := h
  refine ⟨fb, ι, env, st, hE, hS, (Po.bind (m := evE C a env) hp).mono (fun dx st1 ι1 H1 g S q v r => ?_) fun _ _ _ _ _ _ q => q⟩
  obtain ⟨u, hu, q⟩ := (Po.bind (m := M.rd (metTy m dx)) q).rd
  have q := q ι1 H1 Grow.refl S
  refine ⟨metTy_list (by rcases hm with rfl | rfl <;> decide +kernel) hu S r, fb, ι1, env, st1, hE.mono g, S, (Po.bind (m := evA C xs env) q).mono (fun ds st2 ι2 H2 g2 S2 q vs rs => ?_) fun _ _ _ _ _ _ q => q⟩
  obtain ⟨d, st3, e, q⟩ := q.wr
  exact ⟨fb, ι2, st2, dx, ds, d, st3, S2, r.mono g2, rs, e, q⟩
theorem s_app {a : Ex} {xs : Exs} {x : Str} {p apos cpos : Pos} {e : Expr} (ha : PE X (.Name x p) (sE X C W a)) (he : PA X [e] (sA X C W xs)) (h1 : nst e = true) (hline : (apos.endLine == cpos.line) = true) : PE X (.Call (.Attribute (.Name x p) "append" apos) [e] [] cpos) (sE X C W (.met "append" a xs)) :=
  PE.weaken (pe_bm F.plainAttrs_list F.slot_list_append F.type_list_append md_append ha he rfl (by rw [star_one h1]; rfl) hline (star_one h1) rfl) fun σ H Q h => s_metF (.inl rfl) h
theorem s_ins {a : Ex} {xs : Exs} {x : Str} {p apos cpos : Pos} {e e2 : Expr} (ha : PE X (.Name x p) (sE X C W a)) (he : PA X [e, e2] (sA X C W xs)) (h1 : nst e = true) (h2 : nst e2 = true) (hline : (apos.endLine == cpos.line) = true) : PE X (.Call (.Attribute (.Name x p) "insert" apos) [e, e2] [] cpos) (sE X C W (.met "insert" a xs)) :=
  PE.weaken (pe_bm F.plainAttrs_list F.slot_list_insert F.type_list_insert md_insert ha he rfl (by rw [star_one h1, star_one h2]; rfl) hline (star_one h1) (by rw [star_one h2]; rfl)) fun σ H Q h => s_metF (.inr rfl) h
theorem metD_bits {x : D} {vs : List D} {st : Store} : metD "bit_length" x vs st = match x, vs with
    | .int i, [] => some (.int (Builtin.Int.intBits i : Nat), st)
    | _, _ => none := by
  unfold metD
  rw [if_neg (by decide +kernel), if_neg (by decide +kernel), if_pos (by decide +kernel)]
  all_goals rfl
theorem s_bitl {a : Ex} {x : Str} {p apos cpos : Pos} (ha : PE X (.Name x p) (sE X C W a)) (hline : (apos.endLine == cpos.line) = true) : PE X (.Call (.Attribute (.Name x p) "bit_length" apos) [] [] cpos) (sE X C W (.met "bit_length" a .nil)) :=
  PE.weaken (pe_bits ha rfl hline) fun σ H Q ⟨fb, ι, env, st, hE, hS, hp⟩ => by
    refine ⟨fb, ι, env, st, hE, hS, (Po.bind (m := evE C a env) hp).mono (fun dx st1 ι1 H1 g S q v r => ?_) fun _ _ _ _ _ _ q => q⟩
    obtain ⟨u, hu, q⟩ := (Po.bind (m := M.rd (metTy "bit_length" dx)) q).rd
    have q := q ι1 H1 Grow.refl S
    have q := q.bind
    have q : Po X.K fb (M.wr (metD "bit_length" dx []) st1) (okE X.K fb Q) (exE X.mg W σ) ι1 H1 := q ι1 H1 Grow.refl S
    obtain ⟨d, st3, e, q⟩ := q.wr
    rw [metD_bits] at e
    cases dx with
    | int i =>
      cases e
      cases r
      exact ⟨i, rfl, q ι1 H1 Grow.refl S _ rfl⟩
    | _ => cases e
/-! ### targets -/
mutual
def gOf (K : PySem.W.Frag) : Tg → TG
  | .nm i => gName i
  | .tp ts => gTup K (tgLen ts) (gsOf K ts)
def gsOf (K : PySem.W.Frag) : Tgs → TGs
  | .nil => gNil
  | .cons t r => gCons (gOf K t) (gsOf K r)
def tgLen : Tgs → Nat
  | .nil => 0
  | .cons _ r => tgLen r + 1
end
mutual
def tgIx : Tg → List Nat
  | .nm i => [i]
  | .tp ts => tgsIx ts
def tgsIx : Tgs → List Nat
  | .nil => []
  | .cons t r => tgIx t ++ tgsIx r
end
theorem RelE.set {K : PySem.W.Frag} {H : Hp} {fb ι : List Addr} {env : Env} {σ : L2.St} {i : Nat} {d : D} {v : V} (h : RelE K H fb ι env σ) (r : Rel K H fb ι d v) : RelE K H fb ι (env.set i (some d)) (σ.set i (some v)) := by
  refine ⟨by simp [h.1], fun j d' e => ?_⟩
  by_cases z : i = j
  · subst z
    by_cases hl : i < env.length
    · rw [List.getElem?_set_self hl] at e; cases e
      exact ⟨v, by rw [List.getElem?_set_self (by rw [← h.1]; exact hl)], r⟩
    · rw [List.getElem?_eq_none (by simpa using hl)] at e; cases e
  · rw [List.getElem?_set_ne z] at e ⊢
    exact h.2 j d' e
/-- the slots as the target leaves them -/
structure Sets (ix : List Nat) (σ σ' : L2.St) : Prop where
  len : σ'.length = σ.length
  out : ∀ i, i ∉ ix → σ'[i]? = σ[i]?
theorem tgs_len : ∀ {ts : Tgs} {ds : List D} {env env' : Env}, tgsSet ts ds env = some env' → ds.length = tgLen ts
  | .nil, [], _, _, _ => rfl
  | .nil, _ :: _, _, _, h => by cases h
  | .cons t ts, [], _, _, h => by cases h
  | .cons t ts, d :: ds, env, env', h => by
    have h : (tgSet t d env).bind (fun e => tgsSet ts ds e) = some env' := h
    cases z : tgSet t d env with
    | none => rw [z] at h; cases h
    | some e1 =>
      rw [z] at h
      show ds.length + 1 = tgLen ts + 1
      rw [tgs_len h]
mutual
theorem tg_ok {K : PySem.W.Frag} {H : Hp} {fb ι : List Addr} : ∀ (t : Tg) {d : D} {v : V} {env env' : Env} {σ : L2.St} {Q : L2.St → Hp → Prop}, Rel K H fb ι d v → RelE K H fb ι env σ → tgSet t d env = some env' → (∀ σ', RelE K H fb ι env' σ' → Sets (tgIx t) σ σ' → Q σ' H) → gOf K t v σ H Q
  | .nm i, d, v, env, env', σ, Q, r, he, h, q => by
    have h : (if i < env.length then some (env.set i (some d)) else none) = some env' := h
    split at h
    · cases h
      exact q _ (he.set r) ⟨by simp, fun j hj => by rw [List.getElem?_set_ne]; simpa [tgIx, eq_comm] using hj⟩
    · cases h
  | .tp ts, d, v, env, env', σ, Q, r, he, h, q => by
    cases d with
    | tup ds =>
      obtain ⟨a, xs, rfl, hq, rx⟩ := tup_of r
      have h : tgsSet ts ds env = some env' := h
      obtain ⟨hl, hg⟩ := tgs_ok ts rx he h q
      exact ⟨a, xs, rfl, hq, hl, hg⟩
    | _ => cases h
theorem tgs_ok {K : PySem.W.Frag} {H : Hp} {fb ι : List Addr} : ∀ (ts : Tgs) {ds : List D} {vs : List V} {env env' : Env} {σ : L2.St} {Q : L2.St → Hp → Prop}, Rels K H fb ι ds vs → RelE K H fb ι env σ → tgsSet ts ds env = some env' → (∀ σ', RelE K H fb ι env' σ' → Sets (tgsIx ts) σ σ' → Q σ' H) → vs.length = tgLen ts ∧ gsOf K ts vs σ H Q
  | .nil, ds, vs, env, env', σ, Q, r, he, h, q => by
    cases ds with
    | nil =>
      cases h
      have r : vs = [] := r
      subst r
      exact ⟨rfl, rfl, q σ he ⟨rfl, fun _ _ => rfl⟩⟩
    | cons d ds => cases h
  | .cons t ts, ds, vs, env, env', σ, Q, r, he, h, q => by
    cases ds with
    | nil => cases h
    | cons d ds =>
      obtain ⟨y, ys, rfl, r1, r2⟩ := r
      have h : (tgSet t d env).bind (fun e => tgsSet ts ds e) = some env' := h
      cases z : tgSet t d env with
      | none => rw [z] at h; cases h
      | some e1 =>
        rw [z] at h
        have hl : ys.length = tgLen ts := by rw [← r2.length]; exact tgs_len h
        refine ⟨by simp [tgLen, hl], y, ys, rfl, tg_ok t r1 he z fun σ1 he1 s1 => ?_⟩
        refine (tgs_ok ts r2 he1 h fun σ2 he2 s2 => q σ2 he2 ⟨s2.len.trans s1.len, fun i hi => ?_⟩).2
        have hi : i ∉ tgIx t ∧ i ∉ tgsIx ts := by simpa [tgsIx] using hi
        rw [s2.out i hi.2, s1.out i hi.1]
end
end
end Wk

set_option maxRecDepth 100000
set_option maxHeartbeats 1000000
/-! Wk13: locks, a thing kept apart, list comprehensions. -/
namespace Wk
open PySem PySem.Spec PyProof.Rows L2
variable [pw : PrW]

section
variable {K : PySem.W.Frag} {H H' : Hp} {fb ι ι' : List Addr} {st st' : Store}
/-! ### locks -/
theorem lock_grow {a : Addr} {od : Obj} {u : HO} (m : a ∈ ι) (h : H a = some u) (mu : Mut (some u)) : Grow ι H ι (upd H a (.frz od u)) := Grow.wr m h fun o' u' z => by subst z; exact mu
theorem RelS.lock {n : Nat} {a : Addr} {u : HO} {od : Obj} (S : RelS K H fb ι st) (hn : lkOf st (some n) = some n) (hi : ι[n]? = some a) (h : H a = some u) : ∃ o, st[n]? = some o ∧ o.locked = false ∧ Mut (some u) ∧ RelS K (upd H a (.frz od u)) fb ι (st.set n (o.setLock true)) := by
  unfold lkOf at hn
  cases q : st[n]? with
  | none => simp only [q] at hn; cases hn
  | some o =>
    simp only [q] at hn
    have ro := S.at_ n o a q hi
    cases o with
    | dic l ks vs =>
      cases l with
      | true => cases hn
      | false =>
        obtain ⟨w, d, h1⟩ := ro
        rw [h] at h1; cases h1
        have mu := d.mut
        exact ⟨_, rfl, rfl, mu, S.wr0 hi h ⟨_, d.map fun ds xs _ r => Rels.mono0 (lock_grow (List.mem_of_getElem? hi) h mu).toGrow0 ds xs r, od, upd_same⟩⟩
    | lst l ds =>
      cases l with
      | true => cases hn
      | false =>
        obtain ⟨xs, h1, r⟩ := ro
        rw [h] at h1; cases h1
        refine ⟨_, rfl, rfl, trivial, S.wr0 hi h ⟨od, xs, upd_same, ?_⟩⟩
        exact Rels.mono0 (lock_grow (List.mem_of_getElem? hi) h trivial).toGrow0 _ _ r
/-- behind it -/
theorem RelS.unlock {n : Nat} {a : Addr} {u : HO} {od0 : Obj} {s : Store} (S : RelS K H' fb ι' st') (hu : unlk n st' = some s) (hi : ι[n]? = some a) (h : H a = some u) (mu : Mut (some u)) (g : Grow ι (upd H a (.frz od0 u)) ι' H') :
    ∃ od u', H' a = some (.frz od u') ∧ RelS K (upd H' a u') fb ι' s ∧ Grow ι H ι' (upd H' a u') := by
  unfold unlk at hu
  cases q : st'[n]? with
  | none => rw [q] at hu; cases hu
  | some o =>
    rw [q] at hu
    simp only at hu
    split at hu
    · rename_i hl
      cases hu
      have hi' : ι'[n]? = some a := g.at_ hi
      have ro := S.at_ n o a q hi'
      have g0 : ∀ {y : HO}, Grow0 ι' H' ι' (upd H' a y) := fun {y} => ⟨⟨[], by simp, by simp⟩, fun b w e m => by rw [upd_ne (fun z => m (by rw [z]; exact List.mem_of_getElem? hi'))]; exact e⟩
      have fin : ∀ y : HO, Grow ι H ι' (upd H' a y) := fun y => by
          refine ⟨⟨?_, fun b w e m => ?_⟩, fun b w e => ?_, fun b o' u' e => ?_⟩
          · obtain ⟨new, e, f⟩ := g.pre
            refine ⟨new, e, fun b hb => ?_⟩
            have := f b hb
            by_cases z : b = a
            · subst z; rw [upd_same] at this; cases this
            · rw [upd_ne z] at this; exact this
          · have z : b ≠ a := fun z => m (by rw [z]; exact List.mem_of_getElem? hi)
            rw [upd_ne z]
            exact g.keep b w (by rw [upd_ne z]; exact e) m
          · by_cases z : b = a
            · subst z; exact ⟨_, upd_same⟩
            · rw [upd_ne z]
              exact g.live b w (by rw [upd_ne z]; exact e)
          · have z : b ≠ a := fun z => by subst z; rw [h] at e; cases e; exact mu
            rw [upd_ne z]
            exact g.frz b o' u' (by rw [upd_ne z]; exact e)
      cases o with
      | dic l ks vs =>
        cases l with
        | false => cases hl
        | true =>
          obtain ⟨w, d, od, h1⟩ := ro
          exact ⟨od, w, h1, S.wr0 hi' h1 ⟨w, d.map fun ds xs _ r => Rels.mono0 g0 ds xs r, upd_same⟩, fin w⟩
      | lst l ds =>
        cases l with
        | false => cases hl
        | true =>
          obtain ⟨od, xs, h1, r⟩ := ro
          exact ⟨od, .lst xs, h1, S.wr0 hi' h1 ⟨xs, upd_same, Rels.mono0 g0 _ _ r⟩, fin _⟩
    · cases hu
/-! ### a thing kept apart -/
def del (H : Hp) (p : Addr) : Hp := fun a => if a = p then none else H a
theorem del_same {p : Addr} : del H p p = none := by unfold del; rw [if_pos rfl]
theorem del_ne {a p : Addr} (h : a ≠ p) : del H p a = H a := by unfold del; rw [if_neg h]
theorem upd_del {p : Addr} {o : HO} : upd (del H p) p o = upd H p o := by
  funext a
  by_cases z : a = p
  · subst z; rw [upd_same, upd_same]
  · rw [upd_ne z, upd_ne z, del_ne z]
theorem upd_at {p : Addr} {o : HO} (h : H p = some o) : upd H p o = H := by
  funext a
  by_cases z : a = p
  · subst z; rw [upd_same, h]
  · rw [upd_ne z]
theorem grow_del {p : Addr} {o : HO} (hD : H p = none) (g : Grow ι (upd H p o) ι' H') : Grow ι H ι' (del H' p) := by
  have ne : ∀ {b u}, H b = some u → b ≠ p := fun e z => by rw [z, hD] at e; cases e
  refine ⟨⟨?_, fun b w e m => ?_⟩, fun b w e => ?_, fun b o' u' e => ?_⟩
  · obtain ⟨new, e, f⟩ := g.pre
    refine ⟨new, e, fun b hb => ?_⟩
    have := f b hb
    by_cases z : b = p
    · subst z; rw [upd_same] at this; cases this
    · rw [upd_ne z] at this; exact this
  · rw [del_ne (ne e)]; exact g.keep b w (by rw [upd_ne (ne e)]; exact e) m
  · rw [del_ne (ne e)]; exact g.live b w (by rw [upd_ne (ne e)]; exact e)
  · rw [del_ne (ne e)]; exact g.frz b o' u' (by rw [upd_ne (ne e)]; exact e)
theorem Rel.hide {p : Addr} {o : HO} (hD : H p = none) {d : D} {v : V} (r : Rel K H fb ι d v) : Rel K (upd H p o) (p :: fb) ι d v :=
  Rel.tr (fun a u e n m => by
    have z : a ≠ p := fun z => by rw [z, hD] at e; cases e
    exact ⟨by rw [upd_ne z]; exact e, n, fun w => (List.mem_cons.mp w).elim z m⟩) (fun _ _ e => e) d v r
theorem Rel.bare {p : Addr} {d : D} {v : V} (r : Rel K H (p :: fb) ι d v) : Rel K (del H p) fb ι d v :=
  Rel.tr (fun a u e n m => by
    have z : a ≠ p := fun z => m (by rw [z]; exact List.mem_cons_self)
    exact ⟨by rw [del_ne z]; exact e, n, fun w => m (List.mem_cons_of_mem _ w)⟩) (fun _ _ e => e) d v r
theorem RelS.hide {p : Addr} {o : HO} (hD : H p = none) (S : RelS K H fb ι st) : RelS K (upd H p o) (p :: fb) ι st := by
  have f := S.fresh hD
  refine ⟨S.len, S.nd, fun a m e => ?_, fun a m w => ?_, fun n ob a h1 h2 => ?_⟩
  · by_cases z : a = p
    · subst z; rw [upd_same] at e; cases e
    · rw [upd_ne z] at e
      exact S.fbs a ((List.mem_cons.mp m).resolve_left z) e
  · rcases List.mem_cons.mp w with z | z
    · subst z; exact f.1 m
    · exact S.dj a m z
  · refine RelO.tr (fun b u e n m => ?_) (fun _ _ e => e) (fun u e => ?_) (S.at_ n ob a h1 h2)
    · have z : b ≠ p := fun z => by rw [z, hD] at e; cases e
      exact ⟨by rw [upd_ne z]; exact e, n, fun w => (List.mem_cons.mp w).elim z m⟩
    · have z : a ≠ p := fun z => by rw [z, hD] at e; cases e
      rw [upd_ne z]; exact e
theorem RelS.bare {p : Addr} (hf : ∀ a ∈ fb, a ≠ p) (S : RelS K H (p :: fb) ι st) : RelS K (del H p) fb ι st := by
  refine ⟨S.len, S.nd, fun a m e => ?_, fun a m w => S.dj a m (List.mem_cons_of_mem _ w), fun n ob a h1 h2 => ?_⟩
  · rw [del_ne (hf a m)] at e
    exact S.fbs a (List.mem_cons_of_mem _ m) e
  · have z : a ≠ p := fun z => S.dj a (List.mem_of_getElem? h2) (by rw [z]; exact List.mem_cons_self)
    refine RelO.tr (fun b u e n m => ?_) (fun _ _ e => e) (fun u e => by rw [del_ne z]; exact e) (S.at_ n ob a h1 h2)
    have z : b ≠ p := fun z => m (by rw [z]; exact List.mem_cons_self)
    exact ⟨by rw [del_ne z]; exact e, n, fun w => m (List.mem_cons_of_mem _ w)⟩
theorem RelE.tr {fb' : List Addr} {env : Env} {σ : L2.St} (h : RelE K H fb ι env σ) (m : ∀ (d : D) v, Rel K H fb ι d v → Rel K H' fb' ι' d v) : RelE K H' fb' ι' env σ :=
  ⟨h.1, fun i d e => let ⟨v, h1, r⟩ := h.2 i d e; ⟨v, h1, m d v r⟩⟩
/-! ### the block's names -/
theorem wipeE_get {env : Env} {i : Nat} {d : D} : ∀ {vs : List Nat}, (wipeE env vs)[i]? = some (some d) → env[i]? = some (some d) ∧ i ∉ vs
  | [], h => ⟨h, by simp⟩
  | v :: vs, h => by
    unfold wipeE at h
    by_cases hi : v = i
    · subst hi
      by_cases hv : v < (wipeE env vs).length
      · rw [List.getElem?_set_self hv] at h; cases h
      · rw [List.getElem?_eq_none (by simpa using hv)] at h; cases h
    · rw [List.getElem?_set_ne hi] at h
      obtain ⟨h1, h2⟩ := wipeE_get h
      exact ⟨h1, by simp only [List.mem_cons, not_or]; exact ⟨fun e => hi e.symm, h2⟩⟩
theorem wipeE_len {env : Env} : ∀ {vs : List Nat}, (wipeE env vs).length = env.length
  | [] => rfl
  | v :: vs => by unfold wipeE; rw [List.length_set, wipeE_len]
theorem wipe_out {σ : L2.St} {i : Nat} : ∀ {vs : List Nat}, i ∉ vs → (wipe σ vs)[i]? = σ[i]?
  | [], _ => rfl
  | v :: vs, h => by
    unfold wipe
    rw [List.getElem?_set_ne (fun e => h (by rw [e]; exact List.mem_cons_self)), wipe_out fun z => h (List.mem_cons_of_mem _ z)]
theorem wipe_in {σ : L2.St} {i : Nat} : ∀ {vs : List Nat}, i ∈ vs → i < σ.length → (wipe σ vs)[i]? = some none
  | [], h, _ => by cases h
  | v :: vs, h, hl => by
    unfold wipe
    by_cases e : v = i
    · subst e
      rw [List.getElem?_set_self (by rw [wipe_length]; exact hl)]
    · rw [List.getElem?_set_ne e]
      exact wipe_in ((List.mem_cons.mp h).resolve_left fun z => e z.symm) hl
theorem RelE.wipe {env : Env} {σ : L2.St} {vs : List Nat} (h : RelE K H fb ι env σ) : RelE K H fb ι (wipeE env vs) (wipe σ vs) := by
  refine ⟨by rw [wipeE_len, wipe_length]; exact h.1, fun i d e => ?_⟩
  obtain ⟨h1, h2⟩ := wipeE_get e
  rw [wipe_out h2]
  exact h.2 i d h1
theorem wipe_sets {σ σ2 : L2.St} {vs ix : List Nat} (h : Sets ix (wipe σ vs) σ2) (hs : ∀ i ∈ ix, i ∈ vs) : wipe σ2 vs = wipe σ vs := by
  have hl : σ2.length = σ.length := by rw [h.len, wipe_length]
  refine List.ext_getElem? fun i => ?_
  by_cases hi : i ∈ vs
  · by_cases hlt : i < σ.length
    · rw [wipe_in hi (by rw [hl]; exact hlt), wipe_in hi hlt]
    · rw [List.getElem?_eq_none (by rw [wipe_length, hl]; omega), List.getElem?_eq_none (by rw [wipe_length]; omega)]
  · rw [wipe_out hi, h.out i fun z => hi (hs i z)]
end
end Wk

set_option maxRecDepth 100000
set_option maxHeartbeats 1000000
/-! Wk14: list comprehensions. -/
namespace Wk
open PySem PySem.Spec PyProof.Rows L2
variable [pw : PrW]

section
variable {G : Pr} {X : Cx} {C : Ctx} {W : WX} {k : Nat}
def unQ (X : Cx) (Q : VK) : VK := fun v H => Q v H ∨ ∃ a od u, H a = some (.frz od u) ∧ (∀ o' u', X.H_0 a ≠ some (.frz o' u')) ∧ Q v (upd H a u)
theorem PE.unl {e : Expr} {t : TE} (h : PE X e t) : PE X e (fun σ H Q => t σ H (unQ X Q)) :=
  ⟨fun pins s σ H Q I q => thn (h.run pins s σ H _ I q) fun v s1 ⟨x, H1, I1, r1, q1⟩ => by
    rcases q1 with q1 | ⟨a, od, u, h1, h2, q1⟩
    · exact ⟨x, H1, I1, r1, q1⟩
    · exact ⟨x, _, I1.unlock h1 h2, r1, q1⟩⟩
/-! ### a comprehension's turns -/
def WN : WX := fun _ _ _ _ => False
def lcF (C : Ctx) (e : Ex) (tg : Tg) (hi : Bool) (c : Ex) (vs : List Nat) (env : Env) (d : D) : M (Option D) := M.of (tgSet tg d (wipeE env vs)) >>= fun env' =>
  (if hi then evE C c env' >>= asB else pure true) >>= fun r => if r then evE C e env' >>= fun y => pure (some y) else pure none
def cons? (y : Option D) (ys : List D) : List D := match y with
  | some y => y :: ys
  | none => ys
theorem each_inv {f : D → M (Option D)} {d : D} {ds ys : List D} {st st2 : Store} (h : eachM f (d :: ds) st = some (.ok ys st2)) : ∃ y st3 ys3, f d st = some (.ok y st3) ∧ eachM f ds st3 = some (.ok ys3 st2) ∧ ys = cons? y ys3 := by
  have h : M.bind (f d) (fun y => M.bind (eachM f ds) fun ys => M.ret (cons? y ys)) st = some (.ok ys st2) := h
  unfold M.bind at h
  cases q : f d st with
  | none => rw [q] at h; cases h
  | some o =>
    rw [q] at h
    cases o with
    | ex e s => cases h
    | ok y st3 =>
      simp only at h
      cases q2 : eachM f ds st3 with
      | none => rw [q2] at h; cases h
      | some o =>
        rw [q2] at h
        cases o with
        | ex e s => cases h
        | ok ys3 st4 =>
          cases h
          exact ⟨y, st3, ys3, rfl, q2, rfl⟩
def tTst (X : Cx) (C : Ctx) (hi : Bool) (c : Ex) : TT := if hi then sT X C WN c else tYes
theorem each_lc {J : It} {its ys : List D} {fb ι0 : List Addr} {H0 : Hp} {st0 st2 : Store} {σ : L2.St} {env : Env} {e c : Ex} {tg : Tg} {hi : Bool} {vs : List Nat} {Qd : Hp → Prop} {p : Addr}
    (S0 : RelS X.K H0 fb ι0 st0) (he : RelE X.K H0 fb ι0 env σ) (hJ : Src X.K fb ι0 H0 its J) (hz : its.length ≤ sizeLine) (htg : ∀ i ∈ tgIx tg, i ∈ vs)
    (hev : eachM (lcF C e tg hi c vs env) its st0 = some (.ok ys st2)) (hp : H0 p = none)
    (hd : ∀ ι' H' xs, Grow ι0 H0 ι' H' → RelS X.K H' fb ι' st2 → Rels X.K H' fb ι' ys xs → H' p = none → Qd (upd H' p (.lst xs))) :
    ∃ W : Nat → Nat → Hp → Prop, (∃ m, W 0 m (upd H0 p (.lst []))) ∧ ∀ i m H, W i m H →
      (J.stop i H ∧ Qd H) ∨ (J.go i H ∧ ∃ Nx : Hp → Prop, (∀ H', Nx H' → ∃ m', m' < m ∧ W (i + 1) m' H') ∧ ∀ x H', J.yld i H x H' → gOf X.K tg x (wipe σ vs) H' fun σ2 H2 => wipe σ2 vs = wipe σ vs ∧ tTst X C hi c σ2 H2 fun b H3 =>
        if b = true then sE X C WN e σ2 H3 fun y H4 => ∃ acc, H4 p = some (.lst acc) ∧ acc.length < sizeLine ∧ Nx (upd H4 p (.lst (acc ++ [y]))) else Nx H3) := by
  obtain ⟨Gp, Y, w, hG, hY⟩ := hJ.ex
  have hfb : ∀ a ∈ p :: fb, a ∈ fb ∨ H0 a = none := fun a m => (List.mem_cons.mp m).elim (fun z => .inr (z ▸ hp)) .inl
  have nfb : ∀ a ∈ fb, a ≠ p := fun a m z => S0.fbs a m (z ▸ hp)
  refine lc_it w (fun i H => ∃ ι st done xs Hc ys', H = upd Hc p (.lst xs) ∧ Hc p = none ∧ Grow ι0 H0 ι Hc ∧ RelS X.K Hc fb ι st ∧ Rels X.K Hc fb ι done xs ∧ done.length ≤ i ∧ eachM (lcF C e tg hi c vs env) (its.drop i) st = some (.ok ys' st2) ∧ ys = done ++ ys')
    ⟨ι0, st0, [], [], H0, ys, rfl, hp, Grow.refl, S0, rfl, Nat.le_refl _, hev, rfl⟩ ?_ ?_ ?_
  · rintro i H _ ⟨ι, st, done, xs, Hc, ys', rfl, hc, g, S, r, hl, h1, h2⟩
    exact hG ι _ (g.trans (Grow.laid hc)).toF
  · rintro i x _ H' hlt ⟨ι, st, done, xs, Hc, ys', rfl, hc, g, S, r, hl, h1, h2⟩ y
    have gH : Grow ι0 H0 ι (upd Hc p (.lst xs)) := g.trans (Grow.laid hc)
    obtain ⟨d, hdi, gY, SY, rd⟩ := hY i x ι _ H' st (p :: fb) hlt hfb gH.toF (S.hide hc) y
    have hdr : its.drop i = d :: its.drop (i + 1) := by
      rw [List.drop_eq_getElem_cons hlt]
      congr 1
      rw [List.getElem?_eq_getElem hlt] at hdi
      exact Option.some.inj hdi
    rw [hdr] at h1
    obtain ⟨yo, st3, ys3, hf, hrest, rfl⟩ := each_inv h1
    have np : p ∉ ι := (S.fresh hc).1
    have hE : RelE X.K H' (p :: fb) ι (wipeE env vs) (wipe σ vs) := ((he.tr fun d v r => (Rel.mvfb hfb r).mono (gH.trans gY)).wipe)
    -- what is wanted behind the turn
    have fin : ∀ {ι3 : List Addr} {H3 : Hp} {xs' : List V} {done' : List D}, Grow ι H' ι3 H3 → RelS X.K H3 (p :: fb) ι3 st3 → Rels X.K (del H3 p) fb ι3 done' xs' → done'.length ≤ i + 1 → ys = done' ++ ys3 →
        ∃ ι st done xs Hc ys', upd H3 p (.lst xs') = upd Hc p (.lst xs) ∧ Hc p = none ∧ Grow ι0 H0 ι Hc ∧ RelS X.K Hc fb ι st ∧ Rels X.K Hc fb ι done xs ∧ done.length ≤ i + 1 ∧ eachM (lcF C e tg hi c vs env) (its.drop (i + 1)) st = some (.ok ys' st2) ∧ ys = done ++ ys' := fun {ι3 H3 xs' done'} g3 S3 r3 hl3 e3 =>
      ⟨ι3, st3, done', xs', del H3 p, ys3, upd_del.symm, del_same, g.trans (grow_del hc (gY.trans g3)), S3.bare nfb, r3, hl3, hrest, e3⟩
    have old : ∀ {ι3 : List Addr} {H3 : Hp}, Grow ι H' ι3 H3 → Rels X.K (del H3 p) fb ι3 done xs := fun {ι3 H3} g3 => Rels.mono (grow_del hc (gY.trans g3)) _ _ r
    have pk : ∀ {ι3 : List Addr} {H3 : Hp}, Grow ι H' ι3 H3 → H3 p = some (.lst xs) := fun {ι3 H3} g3 => (gY.trans g3).keep p _ upd_same np
    let okF : Option D → Store → List Addr → Hp → Prop := fun yo st' ι3 H3 => match yo with
      | none => ∃ ι st done xs Hc ys', H3 = upd Hc p (.lst xs) ∧ Hc p = none ∧ Grow ι0 H0 ι Hc ∧ RelS X.K Hc fb ι st ∧ Rels X.K Hc fb ι done xs ∧ done.length ≤ i + 1 ∧ eachM (lcF C e tg hi c vs env) (its.drop (i + 1)) st = some (.ok ys' st2) ∧ ys = done ++ ys'
      | some y => ∀ v, Rel X.K H3 (p :: fb) ι3 y v → ∃ acc, H3 p = some (.lst acc) ∧ acc.length < sizeLine ∧ ∃ ι st done xs Hc ys', upd H3 p (.lst (acc ++ [v])) = upd Hc p (.lst xs) ∧ Hc p = none ∧ Grow ι0 H0 ι Hc ∧ RelS X.K Hc fb ι st ∧ Rels X.K Hc fb ι done xs ∧ done.length ≤ i + 1 ∧ eachM (lcF C e tg hi c vs env) (its.drop (i + 1)) st = some (.ok ys' st2) ∧ ys = done ++ ys'
    have po : Po X.K (p :: fb) (lcF C e tg hi c vs env d st) okF (fun _ _ _ _ => False) ι H' := by
      rw [hf]
      intro ι3 H3 g3 S3
      cases yo with
      | none =>
        obtain ⟨a1, a2, a3, a4, a5, a6, q, rest⟩ := fin g3 S3 (old g3) (Nat.le_succ_of_le hl) h2
        exact ⟨a1, a2, a3, a4, a5, a6, by rw [← q, upd_at (pk g3)], rest⟩
      | some y =>
        intro v rv
        refine ⟨xs, pk g3, by rw [← r.length]; omega, fin g3 S3 ((old g3).append (Rels.one rv.bare)) (by simp; omega) (by rw [h2]; show done ++ y :: ys3 = _; simp)⟩
    obtain ⟨env', htgs, po⟩ := (Po.bind (m := M.of (tgSet tg d (wipeE env vs))) po).of
    have po := po ι H' Grow.refl SY
    refine tg_ok tg rd hE htgs fun σ2 hE2 sets => ⟨wipe_sets sets htg, ?_⟩
    have els : ∀ {b : Bool} {st3' : Store} {ι3 : List Addr} {H3 : Hp}, Grow ι H' ι3 H3 → RelS X.K H3 (p :: fb) ι3 st3' → Po X.K (p :: fb) ((if b = true then evE C e env' >>= fun y => pure (some y) else pure none : M (Option D)) st3') okF (fun _ _ _ _ => False) ι3 H3 →
        if b = true then sE X C WN e σ2 H3 fun y H4 => ∃ acc, H4 p = some (.lst acc) ∧ acc.length < sizeLine ∧ ∃ ι st done xs Hc ys', upd H4 p (.lst (acc ++ [y])) = upd Hc p (.lst xs) ∧ Hc p = none ∧ Grow ι0 H0 ι Hc ∧ RelS X.K Hc fb ι st ∧ Rels X.K Hc fb ι done xs ∧ done.length ≤ i + 1 ∧ eachM (lcF C e tg hi c vs env) (its.drop (i + 1)) st = some (.ok ys' st2) ∧ ys = done ++ ys'
        else ∃ ι st done xs Hc ys', H3 = upd Hc p (.lst xs) ∧ Hc p = none ∧ Grow ι0 H0 ι Hc ∧ RelS X.K Hc fb ι st ∧ Rels X.K Hc fb ι done xs ∧ done.length ≤ i + 1 ∧ eachM (lcF C e tg hi c vs env) (its.drop (i + 1)) st = some (.ok ys' st2) ∧ ys = done ++ ys' := fun {b st3' ι3 H3} g3 S3 q => by
      cases b with
      | false => exact Po.ret (a := (none : Option D)) q S3
      | true =>
        rw [if_pos rfl]
        have q : Po X.K (p :: fb) ((evE C e env' >>= fun y => (pure (some y) : M (Option D))) st3') okF (fun _ _ _ _ => False) ι3 H3 := q
        refine ⟨p :: fb, ι3, env', st3', hE2.mono g3, S3, q.bind.mono (fun y st4 ι4 H4 g4 S4 q v rv => ?_) fun _ _ _ _ _ _ q => q.elim⟩
        exact Po.ret (a := some y) q S4 v rv
    cases hi with
    | false => exact els (b := true) Grow.refl SY (Po.bind (m := (pure true : M Bool)) po ι H' Grow.refl SY)
    | true =>
      have po : Po X.K (p :: fb) (((evE C c env' >>= asB) >>= fun r => if r = true then evE C e env' >>= fun y => pure (some y) else pure none) st) okF (fun _ _ _ _ => False) ι H' := po
      refine ⟨p :: fb, ι, env', st, hE2, SY, po.bind.mono (fun b st3' ι3 H3 g3 S3 q => els g3 S3 q) fun _ _ _ _ _ _ q => q.elim⟩
  · rintro H ⟨ι, st, done, xs, Hc, ys', rfl, hc, g, S, r, hl, h1, h2⟩
    rw [List.drop_length] at h1
    cases h1
    rw [List.append_nil] at h2
    subst h2
    exact hd ι Hc xs g S r hc
end
end Wk

set_option maxRecDepth 100000
set_option maxHeartbeats 1000000
/-! Wk15: list comprehensions in the text. -/
namespace Wk
open PySem PySem.Spec PyProof.Rows L2
variable [pw : PrW]

theorem upd_sw {H : Hp} {a b : Addr} {o u : HO} (h : a ≠ b) : upd (upd H a o) b u = upd (upd H b u) a o := by
  funext c
  by_cases z : c = b
  · subst z; rw [upd_same, upd_ne (fun e => h e.symm), upd_same]
  · rw [upd_ne z]
    by_cases y : c = a
    · subst y; rw [upd_same, upd_same]
    · rw [upd_ne y, upd_ne y, upd_ne z]
theorem lkOf_some {st : Store} {n : Option Nat} {m : Nat} (h : lkOf st n = some m) : n = some m := by
  cases n with
  | none => cases h
  | some n =>
    unfold lkOf at h
    cases q : st[n]? with
    | none => simp only [q] at h; cases h
    | some o =>
      simp only [q] at h
      split at h
      · cases h
      · exact h
theorem wl_free {α : Type} {st : Store} {n : Option Nat} {m : M α} {o : Out α} (hk : lkOf st n = none) (h : withLock n m st = some o) : m st = some o := by
  cases n with
  | none => exact h
  | some n =>
    unfold lkOf at hk
    unfold withLock at h
    cases q : st[n]? with
    | none => simp only [q] at h; cases h
    | some ob =>
      simp only [q] at h hk
      split at hk
      · rename_i hl; rw [if_pos hl] at h; exact h
      · cases hk
theorem wl_ok {α : Type} {st st3 : Store} {n : Nat} {m : M α} {a : α} {ob : Ob} (hq : st[n]? = some ob) (hl : ob.locked = false) (h : withLock (some n) m st = some (.ok a st3)) : ∃ st2, m (st.set n (ob.setLock true)) = some (.ok a st2) ∧ unlk n st2 = some st3 := by
  unfold withLock at h
  simp only [hq, hl] at h
  rw [if_neg Bool.false_ne_true] at h
  cases z : m (st.set n (ob.setLock true)) with
  | none => rw [z] at h; cases h
  | some o =>
    rw [z] at h
    cases o with
    | ok b st2 =>
      have h : (unlk n st2).map (fun s => Out.ok b s) = some (.ok a st3) := h
      cases y : unlk n st2 with
      | none => rw [y] at h; cases h
      | some s => rw [y] at h; cases h; exact ⟨st2, rfl, y⟩
    | ex e st2 =>
      have h : (unlk n st2).map (fun s => (Out.ex e s : Out α)) = some (.ok a st3) := h
      cases y : unlk n st2 with
      | none => rw [y] at h; cases h
      | some s => rw [y] at h; cases h
section
variable {G : Pr} {X : Cx} {C : Ctx} {W : WX} {k : Nat}
omit pw in
theorem lcF_eq {al : Bool} {e c : Ex} {tg : Tg} {ik : IK} {xs : Exs} {hi : Bool} {own : List (Str × Nat)} {env : Env} :
    evE C (.lc al e tg ik xs hi c own) env = (evA C xs env >>= fun vs => M.rd (itD ik vs) >>= fun p => if fit p.1.length then calm (withLock p.2 (eachM (lcF C e tg hi c (own.map (·.2)) env) p.1)) >>= fun ys => mkL al ys else .no) := rfl
theorem s_lcF {al : Bool} {e c : Ex} {tg : Tg} {ik : IK} {xs : Exs} {hi : Bool} {own : List (Str × Nat)} (htg : ∀ i ∈ tgIx tg, i ∈ own.map (·.2)) {σ : L2.St} {H : Hp} {Q : VK} (h : sE X C W (.lc al e tg ik xs hi c own) σ H Q) :
    tLc (sI X C W ik xs) (gOf X.K tg) (tTst X C hi c) (sE X C WN e) (own.map (·.2)) σ H (unQ X Q) := by
  obtain ⟨fb, ι, env, st, hE, hS, hp⟩ := h
  rw [lcF_eq] at hp
  refine ⟨fb, ι, env, st, hE, hS, hp.bind.mono (fun ds st1 ι1 H1 g S q vs r => ?_) fun _ _ _ _ _ _ q => q⟩
  obtain ⟨⟨its, n⟩, e1, q⟩ := (Po.bind q).rd
  have q := (q ι1 H1 Grow.refl S).ite
  cases hf : fit its.length with
  | false => simp only [hf] at q; exact q.elim
  | true =>
    simp only [hf, if_true] at q
    have q := q.bind
    unfold calm at q
    cases hw : withLock n (eachM (lcF C e tg hi c (own.map (·.2)) env) its) st1 with
    | none => rw [hw] at q; exact q.elim
    | some o =>
      rw [hw] at q
      cases o with
      | ex e' s => exact q.elim
      | ok ys st3 =>
        have qf : ∀ ι' H', Grow ι1 H1 ι' H' → RelS X.K H' fb ι' st3 → Po X.K fb (mkL al ys st3) (okE X.K fb Q) (exE X.mg W σ) ι' H' := q
        have he1 := hE.mono g
        refine ⟨fb, ι1, st1, ds, its, n, S, r, e1, ?_⟩
        cases hk : lkOf st1 n with
        | none =>
          refine .inl ⟨rfl, fun J hJ p hp => each_lc S he1 hJ (fit_le hf) htg (wl_free hk hw) hp fun ι' H' zs g' S' r' hp' => .inl ?_⟩
          exact (mk_ok S' r' (qf ι' H' g' S')).2 p hp'
        | some m =>
          have hn := lkOf_some hk
          subst hn
          have hi : ∃ a, ι1[m]? = some a := by
            unfold lkOf at hk
            cases z : st1[m]? with
            | none => simp only [z] at hk; cases hk
            | some o =>
              have hlt : m < ι1.length := by rw [S.len]; exact (List.getElem?_eq_some_iff.mp z).1
              exact ⟨ι1[m], by simp [hlt]⟩
          obtain ⟨a, hi⟩ := hi
          obtain ⟨u, hu⟩ := S.live (List.mem_of_getElem? hi)
          obtain ⟨ob, ho, hol, mu, _⟩ := S.lock (od := default) hk hi hu
          obtain ⟨st2, hev, hul⟩ := wl_ok ho hol hw
          refine .inr ⟨m, a, u, rfl, hi, hu, mu, fun nf od J hJ p hp => ?_⟩
          obtain ⟨ob', ho', _, _, SL⟩ := S.lock (od := od) hk hi hu
          rw [ho] at ho'; cases ho'
          have gl : Grow ι1 H1 ι1 (upd H1 a (.frz od u)) := lock_grow (List.mem_of_getElem? hi) hu mu
          refine each_lc SL (he1.mono gl) hJ (fit_le hf) htg hev hp fun ι' H' zs g' S' r' hp' => .inr ?_
          obtain ⟨od', u', h1, S3, g3⟩ := RelS.unlock S' hul hi hu mu g'
          have hne : a ≠ p := fun z => by rw [z, hp'] at h1; cases h1
          refine ⟨a, od', u', by rw [upd_ne hne]; exact h1, nf, ?_⟩
          rw [upd_sw (Ne.symm hne)]
          have hi' : ι'[m]? = some a := g'.at_ hi
          have g0 : Grow0 ι' H' ι' (upd H' a u') := ⟨⟨[], by simp, by simp⟩, fun b w e m => by rw [upd_ne (fun z => m (by rw [z]; exact List.mem_of_getElem? hi'))]; exact e⟩
          exact (mk_ok S3 (Rels.mono0 g0 _ _ r') (qf ι' _ g3 S3)).2 p (by rw [upd_ne (Ne.symm hne)]; exact hp')
theorem s_lc (ok : Cok G X C W k) {al : Bool} {e c : Ex} {tg : Tg} {ik : IK} {xs : Exs} {hi : Bool} {own : List (Str × Nat)} {elt tg' iter : Expr} {ifs : List Expr} {scope : Scope} {pos : Pos} (htg : ∀ i ∈ tgIx tg, i ∈ own.map (·.2)) (hit : PI X tg' iter (sI X C W ik xs)) (hb : BlkOk X.N X.env.scope scope own)
    (hg : ∀ (s : Shared) (H : Hp) (C : Addr) (cl : List (Str × Addr)) (fp : List Addr), PG (X.blk s H scope (compEnvC scope cl C X.env) fp) tg' (gOf X.K tg)) (ht : ∀ (s : Shared) (H : Hp) (C' : Addr) (cl : List (Str × Addr)) (fp : List Addr), PTs (X.blk s H scope (compEnvC scope cl C' X.env) fp) ifs (tTst X C hi c))
    (he : ∀ (s : Shared) (H : Hp) (C' : Addr) (cl : List (Str × Addr)) (fp : List Addr), PE (X.blk s H scope (compEnvC scope cl C' X.env) fp) elt (sE X C WN e)) (hs : nsetB iter = true) :
    PE X (.ListComp elt [⟨tg', iter, ifs, 0⟩] scope pos) (sE X C W (.lc al e tg ik xs hi c own)) :=
  PE.weaken (PE.unl (pe_lc ok.calm ok.nd hit hb hg ht he (nset_fold hs))) fun σ H Q h => s_lcF htg h
end
end Wk

set_option maxRecDepth 100000
set_option maxHeartbeats 1000000
/-! Wk16: statements. -/
namespace Wk
open PySem PySem.Spec PyProof.Rows L2
variable [pw : PrW]

theorem Po.up {α : Type} {K : PySem.W.Frag} {fb ι ι1 : List Addr} {H H1 : Hp} {r : Option (Out α)} {ok : α → Store → List Addr → Hp → Prop} {ex : D → Store → List Addr → Hp → Prop} (g : Grow ι H ι1 H1) (h : Po K fb r ok ex ι H) : Po K fb r ok ex ι1 H1 := by
  match r, h with
  | some (.ok a st'), h => exact fun ι' H' g' S => h ι' H' (g.trans g') S
  | some (.ex e st'), h => exact fun ι' H' g' S => h ι' H' (g.trans g') S
theorem Po.tr {α : Type} {K : PySem.W.Frag} {fb ι : List Addr} {H : Hp} {env : Env} {m : M α} {k : α → M Fl} {st : Store} {ok : Fl → Store → List Addr → Hp → Prop} {ex : D → Store → List Addr → Hp → Prop} (h : Po K fb (M.tr env m k st) ok ex ι H) :
    Po K fb (m st) (fun a st1 ι1 H1 => Po K fb (k a st1) ok ex ι1 H1) (fun e st1 ι1 H1 => ok (.er env e) st1 ι1 H1) ι H := by
  unfold M.tr at h
  cases q : m st with
  | none => rw [q] at h; exact h.elim
  | some o =>
    rw [q] at h
    cases o with
    | ok a st1 => exact fun ι' H' g S => Po.up g h
    | ex e st1 => exact fun ι' H' g S => h ι' H' g S
section
variable {G : Pr} {X : Cx} {C : Ctx} {W : WX} {k : Nat}
/-- what is wanted behind a statement -/
def flE (X : Cx) (W : WX) (fb : List Addr) (D : Ends) : Fl → Store → List Addr → Hp → Prop := fun f _ ι' H' => match f with
  | .nx env => ∀ σ', RelE X.K H' fb ι' env σ' → D.nx σ' H'
  | .rt d => ∀ v, Rel X.K H' fb ι' d v → D.rt v H'
  | .bk env => ∀ σ', RelE X.K H' fb ι' env σ' → D.bk σ' H'
  | .ct env => ∀ σ', RelE X.K H' fb ι' env σ' → D.ct σ' H'
  | .er env e => ∀ σ', RelE X.K H' fb ι' env σ' → ∀ cls dx, RelX X.mg e cls dx → W cls dx σ' H'
def exS (X : Cx) (W : WX) : D → Store → List Addr → Hp → Prop := fun e _ _ H' => ∀ σ' cls dx, RelX X.mg e cls dx → W cls dx σ' H'
def sS (X : Cx) (C : Ctx) (W : WX) (x : Sx) : TS := fun D σ H => ∃ fb ι env st, RelE X.K H fb ι env σ ∧ RelS X.K H fb ι st ∧ Po X.K fb (evS C x env st) (flE X W fb D) (exS X W) ι H
def sSs (X : Cx) (C : Ctx) (W : WX) (x : Sxs) : TS := fun D σ H => ∃ fb ι env st, RelE X.K H fb ι env σ ∧ RelS X.K H fb ι st ∧ Po X.K fb (evSs C x env st) (flE X W fb D) (exS X W) ι H
/-- an expression first -/
theorem tr1 {e : Ex} {f : D → M Fl} {D : Ends} {σ : L2.St} {H : Hp} {fb ι : List Addr} {env : Env} {st : Store} (hE : RelE X.K H fb ι env σ) (hS : RelS X.K H fb ι st) (hp : Po X.K fb (M.tr env (evE C e env) f st) (flE X W fb D) (exS X W) ι H) :
    sE X C W e σ H fun x H1 => ∃ ι st dx, RelE X.K H1 fb ι env σ ∧ RelS X.K H1 fb ι st ∧ Rel X.K H1 fb ι dx x ∧ Po X.K fb (f dx st) (flE X W fb D) (exS X W) ι H1 :=
  ⟨fb, ι, env, st, hE, hS, hp.tr.mono (fun dx st1 ι1 H1 g S q v r => ⟨ι1, st1, dx, hE.mono g, S, r, q⟩) fun e st1 ι1 H1 g S q cls dx rx => q σ (hE.mono g) cls dx rx⟩
theorem put_ok {i : Nat} {d : D} {x : V} {D : Ends} {σ : L2.St} {H : Hp} {fb ι : List Addr} {env : Env} {st : Store} (hE : RelE X.K H fb ι env σ) (hS : RelS X.K H fb ι st) (r : Rel X.K H fb ι d x) (hp : Po X.K fb (putE i d env st) (flE X W fb D) (exS X W) ι H) : D.nx (σ.set i (some x)) H := by
  unfold putE at hp
  split at hp
  · exact hp ι H Grow.refl hS _ (hE.set r)
  · exact hp.elim
theorem setF {i : Nat} {e : Ex} {D : Ends} {σ : L2.St} {H : Hp} (h : sS X C W (.set i e) D σ H) : tAsg (sE X C W e) (gName i) D σ H := by
  obtain ⟨fb, ι, env, st, hE, hS, hp⟩ := h
  exact (tr1 hE hS hp).mono fun x H1 ⟨ι1, st1, dx, hE1, S1, r, q⟩ => put_ok hE1 S1 r q
theorem ss_set (ok : Cok G X C W k) {i : Nat} {x : Str} {e : Ex} {e' : Expr} {pos pos' : Pos} (hi : X.N[i]? = some x) (hx : Loc X.env.scope x) (hf : X.fn x = true ∨ X.env.scope.names.lookup x = some .local) (he : PE X e' (sE X C W e)) (hs : swapsWith e' (some (.Name x pos')) pos.line X.env = pure false) :
    PS X (.Assign [.Name x pos'] e' pos) (sS X C W (.set i e)) :=
  PS.weaken (ps_set ok.nd hi hx he hs hf) fun D σ H h => setF h
/-- a target of any form -/
theorem ss_unp (ok : Cok G X C W k) {tg : Tg} {tg' : Expr} {e : Ex} {e' : Expr} {pos : Pos} (hg : PG X tg' (gOf X.K tg)) (he : PE X e' (sE X C W e)) (hs : swapsWithSole [tg'] e' pos.line X.env = pure false) (hw : swappedStores [tg'] e' X.env = pure none) (h1 : (assignEach [tg'] X.env).map (·.2) = [assign tg' X.env]) :
    PS X (.Assign [tg'] e' pos) (sS X C W (.unp tg e)) :=
  PS.weaken (ps_asg he hg hs hw h1) fun D σ H ⟨fb, ι, env, st, hE, hS, hp⟩ => (tr1 hE hS hp).mono fun x H1 ⟨ι1, st1, dx, hE1, S1, r, q⟩ => by
    obtain ⟨env', e1, q⟩ := (Po.bind q).of
    exact tg_ok tg r hE1 e1 fun σ' he' _ => q ι1 H1 Grow.refl S1 ι1 H1 Grow.refl S1 σ' he'
/-- a, b = x, y -/
theorem ss_par (ok : Cok G X C W k) {i j : Nat} {x y : Str} {xs : Exs} {a b : Expr} {px py pt pt2 pos : Pos} {kt k2} (hi : X.N[i]? = some x) (hj : X.N[j]? = some y) (hij : i ≠ j) (hx : X.env.scope.names.lookup x = some .local) (hy : X.env.scope.names.lookup y = some .local) (ha : PA X [a, b] (sA X C W xs))
    (hw : swappedStores [.Tuple [.Name x px, .Name y py] kt pt] (.Tuple [a, b] k2 pt2) X.env = pure (some [x, y])) : PS X (.Assign [.Tuple [.Name x px, .Name y py] kt pt] (.Tuple [a, b] k2 pt2) pos) (sS X C W (.unp (.tp (.cons (.nm i) (.cons (.nm j) .nil))) (.tup xs))) :=
  PS.weaken (ps_par ok.calm ok.nd hi hj hij hx hy ha hw rfl) fun D σ H ⟨fb, ι, env, st, hE, hS, hp⟩ => by
    have hp := Po.tr hp
    refine ⟨fb, ι, env, st, hE, hS, (Po.bind (m := evA C xs env) hp).mono (fun ds st1 ι1 H1 g S q vs r => ?_) fun e st1 ι1 H1 g S q cls dx rx => q σ (hE.mono g) cls dx rx⟩
    have q := q.ite
    cases hf : fit ds.length with
    | false => rw [hf] at q; exact q.elim
    | true =>
      rw [hf, if_pos rfl] at q
      have q := Po.ret (a := Wk.D.tup ds) q S
      obtain ⟨env', e1, q⟩ := (Po.bind q).of
      have e1 : tgsSet (.cons (.nm i) (.cons (.nm j) .nil)) ds env = some env' := e1
      obtain ⟨hl, v, r1, rfl, w, r2, rfl, hn, hq⟩ := tgs_ok (Q := fun σ' H' => D.nx σ' H') _ r (hE.mono g) e1 fun σ' he' _ => q ι1 H1 Grow.refl S ι1 H1 Grow.refl S σ' he'
      subst hn
      exact ⟨v, w, rfl, hq⟩
theorem ss_aug (ok : Cok G X C W k) {i : Nat} {x : Str} {o : Operator} {e : Ex} {e' : Expr} {pos pos' : Pos} (hi : X.N[i]? = some x) (hx : Loc X.env.scope x) (hf : X.fn x = true ∨ X.env.scope.names.lookup x = some .local) (he : PE X e' (sE X C W e)) :
    PS X (.AugAssign (.Name x pos') o e' pos) (sS X C W (.aug o i e)) :=
  PS.weaken (ps_aug ok.nd hi hx he ip_dat hf) fun D σ H ⟨fb, ι, env, st, hE, hS, hp⟩ => by
    obtain ⟨d0, e0, hp⟩ := (Po.bind (m := M.of (env[i]?.join)) hp).of
    have hp := hp ι H Grow.refl hS
    have e0 : env[i]? = some (some d0) := by
      cases h : env[i]? with
      | none => rw [h] at e0; cases e0
      | some o => rw [h] at e0; have : o = some d0 := e0; rw [this]
    obtain ⟨v0, h1, r0⟩ := hE.2 i d0 e0
    refine ⟨v0, h1, fb, ι, env, st, hE, hS, hp.tr.mono (fun dy st1 ι1 H1 g S q v r => ?_) fun e st1 ι1 H1 g S q cls dx rx => q σ (hE.mono g) cls dx rx⟩
    obtain ⟨d, st2, e2, q⟩ := (Po.bind q).wr
    exact ⟨fb, ι1, st1, d0, dy, d, st2, S, r0.mono g, r, e2, fun ι2 H2 g2 S2 w rw => put_ok ((hE.mono g).mono g2) S2 rw (q ι2 H2 g2 S2)⟩
theorem ss_six (ok : Cok G X C W k) {a b e : Ex} {a' b' e' : Expr} {pos tpos : Pos} (ha : PE X a' (sE X C W a)) (hb : PE X b' (sE X C W b)) (he : PE X e' (sE X C W e)) (hs : swapsWithSole [.Subscript a' b' tpos] e' pos.line X.env = pure false) (hp : plainB b' = true) :
    PS X (.Assign [.Subscript a' b' tpos] e' pos) (sS X C W (.six a b e)) :=
  PS.weaken (ps_asg he (pg_sub ha hb (set_dat ok.hX ok.hu) (fun v => by cases b' <;> first | rfl | cases hp)) hs rfl rfl) fun D σ H ⟨fb, ι, env, st, hE, hS, hp⟩ => (tr1 hE hS hp).mono fun x H1 ⟨ι1, st1, dx, hE1, S1, r, q⟩ => by
    refine ⟨fb, ι1, env, st1, hE1, S1, q.tr.mono (fun da st2 ι2 H2 g2 S2 q va ra => ?_) fun e st1 ι1 H1 g S q cls dx rx => q σ (hE1.mono g) cls dx rx⟩
    refine ⟨fb, ι2, env, st2, hE1.mono g2, S2, q.tr.mono (fun db st3 ι3 H3 g3 S3 q vb rb => ?_) fun e st1 ι1 H1 g S q cls dx rx => q σ ((hE1.mono g2).mono g) cls dx rx⟩
    obtain ⟨u, st4, e4, q⟩ := (Po.bind q).wr
    cases u
    refine ⟨fb, ι3, st3, da, db, dx, st4, S3, ra.mono g3, rb, (r.mono g2).mono g3, e4, fun ι4 H4 g4 S4 => ?_⟩
    exact q ι4 H4 g4 S4 ι4 H4 Grow.refl S4 σ (((hE1.mono g2).mono g3).mono g4)
theorem ss_ex {e : Ex} {e' : Expr} {pos : Pos} (he : PE X e' (sE X C W e)) (hs : swapsWith e' none pos.line X.env = pure false) : PS X (.Expr e' pos) (sS X C W (.ex e)) :=
  PS.weaken (ps_expr he hs) fun D σ H ⟨fb, ι, env, st, hE, hS, hp⟩ => (tr1 hE hS hp).mono fun x H1 ⟨ι1, st1, dx, hE1, S1, r, q⟩ => q ι1 H1 Grow.refl S1 σ hE1
theorem ss_ret {e : Ex} {e' : Expr} {pos : Pos} (he : PE X e' (sE X C W e)) : PS X (.Return (some e') pos) (sS X C W (.ret e)) :=
  PS.weaken (ps_ret he) fun D σ H ⟨fb, ι, env, st, hE, hS, hp⟩ => (tr1 hE hS hp).mono fun x H1 ⟨ι1, st1, dx, hE1, S1, r, q⟩ => q ι1 H1 Grow.refl S1 x r
theorem ss_retN {pos : Pos} : PS X (.Return none pos) (sS X C W .retN) :=
  PS.weaken ps_retN fun D σ H ⟨fb, ι, env, st, hE, hS, hp⟩ => hp ι H Grow.refl hS _ rfl
theorem ss_pass {pos : Pos} : PS X (.Pass pos) (sS X C W .pass) := PS.weaken ps_pass fun D σ H ⟨fb, ι, env, st, hE, hS, hp⟩ => hp ι H Grow.refl hS σ hE
theorem ss_doc {x : Str} {j} {pos pos' : Pos} : PS X (.Expr (.Constant (.str x) j pos) pos') (sS X C W .pass) := PS.weaken ps_doc fun D σ H ⟨fb, ι, env, st, hE, hS, hp⟩ => hp ι H Grow.refl hS σ hE
theorem ss_brk {pos : Pos} : PS X (.Break pos) (sS X C W .brk) := PS.weaken ps_break fun D σ H ⟨fb, ι, env, st, hE, hS, hp⟩ => hp ι H Grow.refl hS σ hE
theorem ss_cnt {pos : Pos} : PS X (.Continue pos) (sS X C W .cnt) := PS.weaken ps_continue fun D σ H ⟨fb, ι, env, st, hE, hS, hp⟩ => hp ι H Grow.refl hS σ hE
theorem ss_if {c : Ex} {a b : Sxs} {c' : Expr} {a' b' : List Stmt} {pos : Pos} (hc : PT X c' (sT X C W c)) (ha : PSs X a' (sSs X C W a)) (hb : PSs X b' (sSs X C W b)) : PS X (.If c' a' b' pos) (sS X C W (.iff c a b)) :=
  PS.weaken (ps_if hc ha hb) fun D σ H ⟨fb, ι, env, st, hE, hS, hp⟩ => by
    have e : M.tr env (evE C c env) (fun x => asB x >>= fun r => if r then evSs C a env else evSs C b env) st = M.tr env (evE C c env >>= asB) (fun r => if r then evSs C a env else evSs C b env) st := by
      show _ = M.tr env (M.bind _ _) _ st
      unfold M.tr M.bind
      cases q : evE C c env st with
      | none => simp
      | some o =>
        cases o with
        | ex e' st' => simp
        | ok d st' => cases d <;> rfl
    have hp : Po X.K fb (M.tr env (evE C c env) (fun x => asB x >>= fun r => if r then evSs C a env else evSs C b env) st) (flE X W fb D) (exS X W) ι H := hp
    rw [e] at hp
    refine ⟨fb, ι, env, st, hE, hS, hp.tr.mono (fun r st1 ι1 H1 g S q => ?_) fun e st1 ι1 H1 g S q cls dx rx => q σ (hE.mono g) cls dx rx⟩
    cases r with
    | true => exact ⟨fb, ι1, env, st1, hE.mono g, S, q⟩
    | false => exact ⟨fb, ι1, env, st1, hE.mono g, S, q⟩
theorem ss_raise (ok : Cok G X C W k) {c m : Str} {j} {p p2 pos pos' : Pos} (hc : c ∈ G.excs) (hg : Gl X c) (hd : (c == ("__debug__" : Str)) = false) : PS X (.Raise (some (.Call (.Name c p) [.Constant (.str m) j p2] [] pos)) none pos') (sS X C W (.raise c m)) := by
  obtain ⟨Ca, h1, h2, h3, h4, h5⟩ := ok.txt.exc c hc
  refine PS.weaken (ps_raise ok.calm ok.tk (pmk_own F.excBase_ValueError h2 h1 h3 (raises_own h4 h5) hg hd)) fun D σ H ⟨fb, ι, env, st, hE, hS, hp⟩ => ?_
  exact hp ι H Grow.refl hS σ hE _ _ ⟨c, Ca, rfl, h1, rfl, rfl⟩
theorem ss_nil : PSs X [] (sSs X C W .nil) := PSs.weaken pss_nil fun D σ H ⟨fb, ι, env, st, hE, hS, hp⟩ => hp ι H Grow.refl hS σ hE
theorem ss_cons {s : Sx} {r : Sxs} {s' : Stmt} {r' : List Stmt} (h1 : PS X s' (sS X C W s)) (h2 : PSs X r' (sSs X C W r)) : PSs X (s' :: r') (sSs X C W (.cons s r)) :=
  PSs.weaken (pss_cons h1 h2) fun D σ H ⟨fb, ι, env, st, hE, hS, hp⟩ => by
    refine ⟨fb, ι, env, st, hE, hS, (Po.bind (m := evS C s env) hp).mono (fun f st1 ι1 H1 g S q => ?_) fun _ _ _ _ _ _ q => q⟩
    cases f with
    | nx env' => exact fun σ' he' => ⟨fb, ι1, env', st1, he', S, q⟩
    | rt d => exact q ι1 H1 Grow.refl S
    | bk env' => exact q ι1 H1 Grow.refl S
    | ct env' => exact q ι1 H1 Grow.refl S
    | er env' e => exact q ι1 H1 Grow.refl S
end
end Wk

set_option maxRecDepth 100000
set_option maxHeartbeats 1000000
/-! Wk17: loops. -/
namespace Wk
open PySem PySem.Spec PyProof.Rows L2
variable [pw : PrW]

section
variable {K : PySem.W.Frag} {H H' : Hp} {fb ι ι' new : List Addr} {st st' : Store}
mutual
theorem Rel.low {n : Nat} (e : ι' = ι ++ new) (hn : n = ι.length) : ∀ (d : D) (v : V), d.under n = true → Rel K H fb ι' d v → Rel K H fb ι d v
  | .non, v, _, h => h
  | .bl b, v, _, h => h
  | .int i, v, _, h => h
  | .str x, v, _, h => h
  | .tup ds, v, p, h => by
    obtain ⟨a, xs, ev, q, n, m, r⟩ := h
    exact ⟨a, xs, ev, q, fun z => n (by rw [e]; exact List.mem_append_left _ z), m, Rels.low e hn ds xs p r⟩
  | .lst ds, v, p, h => by
    obtain ⟨a, xs, ev, q, n, m, r⟩ := h
    exact ⟨a, xs, ev, q, fun z => n (by rw [e]; exact List.mem_append_left _ z), m, Rels.low e hn ds xs p r⟩
  | .dic ks vs, v, p, h => by
    have p : (D.unders n ks && D.unders n vs) = true := p
    rw [Bool.and_eq_true] at p
    obtain ⟨a, ev, q1, m, h⟩ := h
    have q1 : a ∉ ι := fun z => q1 (by rw [e]; exact List.mem_append_left _ z)
    rcases h with ⟨kvs, q, hk, r⟩ | ⟨xs, ws, q, hk, hv, r1, r2⟩
    · exact ⟨a, ev, q1, m, .inl ⟨kvs, q, hk, Rels.low e hn vs _ p.2 r⟩⟩
    · exact ⟨a, ev, q1, m, .inr ⟨xs, ws, q, hk, hv, Rels.low e hn ks _ p.1 r1, Rels.low e hn vs ws p.2 r2⟩⟩
  | .loc m, v, p, h => by
    obtain ⟨a, ev, q⟩ := h
    have p : m < n := by have p : Nat.blt m n = true := p; exact Nat.blt_eq.mp p
    rw [e, List.getElem?_append_left (by omega)] at q
    exact ⟨a, ev, q⟩
  | .scr ns, v, _, h => by
    obtain ⟨a, ev, q | q⟩ := h
    · obtain ⟨o, q, n, m⟩ := q
      exact ⟨a, ev, .inl ⟨o, q, fun z => n (by rw [e]; exact List.mem_append_left _ z), m⟩⟩
    · exact ⟨a, ev, .inr q⟩
  | .exc c vs, v, p, h => by
    obtain ⟨e0, a, C, ev, hm, q, n, m⟩ := h
    exact ⟨e0, a, C, ev, hm, q, fun z => n (by rw [e]; exact List.mem_append_left _ z), m⟩
theorem Rels.low {n : Nat} (e : ι' = ι ++ new) (hn : n = ι.length) : ∀ (ds : List D) (vs : List V), D.unders n ds = true → Rels K H fb ι' ds vs → Rels K H fb ι ds vs
  | [], vs, _, h => h
  | d :: ds, vs, p, h => by
    obtain ⟨y, ys, ev, r, rs⟩ := h
    have p : (d.under n && D.unders n ds) = true := p
    rw [Bool.and_eq_true] at p
    exact ⟨y, ys, ev, Rel.low e hn d y p.1 r, Rels.low e hn ds ys p.2 rs⟩
end
def trOk (K : PySem.W.Frag) (fb ι : List Addr) (H : Hp) (ok : Fl → Store → List Addr → Hp → Prop) : Fl → Store → List Addr → Hp → Prop := fun r st' ι' H' => match r with
  | .nx env => ∃ ιt stt envt, Grow ι H ιt H' ∧ RelS K H' fb ιt stt ∧ (∀ σ', RelE K H' fb ι' env σ' → RelE K H' fb ιt envt σ') ∧ ok (.nx envt) stt ιt H'
  | .ct env => ∃ ιt stt envt, Grow ι H ιt H' ∧ RelS K H' fb ιt stt ∧ (∀ σ', RelE K H' fb ι' env σ' → RelE K H' fb ιt envt σ') ∧ ok (.nx envt) stt ιt H'
  | .rt d => ok (.rt d) st' ι' H'
  | .bk env => ok (.bk env) st' ι' H'
  | .er env e => ok (.er env e) st' ι' H'
theorem cut_ok {e0 env : Env} {ok : Fl → Store → List Addr → Hp → Prop} {ex : D → Store → List Addr → Hp → Prop} (S : RelS K H fb ι st) (h : Po K fb (trimR st.length e0 env st') ok ex ι H) :
    ∀ ι' H', Grow ι H ι' H' → RelS K H' fb ι' st' → ∃ ιt stt envt, Grow ι H ιt H' ∧ RelS K H' fb ιt stt ∧ (∀ σ', RelE K H' fb ι' env σ' → RelE K H' fb ιt envt σ') ∧ ok (.nx envt) stt ιt H' := by
  intro ι' H' g S'
  unfold trimR at h
  split at h
  · exact ⟨ι', st', env, g, S', fun _ z => z, h ι' H' g S'⟩
  · rename_i hlt
    have hlt : st.length < st'.length := by
      refine Nat.lt_of_not_le fun z => hlt ?_
      exact Nat.ble_eq.mpr z
    split at h
    · rename_i hu
      rw [Bool.and_eq_true] at hu
      replace hu := hu.1
      obtain ⟨new, e, f⟩ := g.pre
      have hk : ∀ (j : Nat) (a : Addr), ι[j]? = some a → ι'[j]? = some a := fun j a z => g.at_ z
      have g2 : Grow ι H ι H' := ⟨⟨⟨[], by simp, by simp⟩, g.keep⟩, g.live, g.frz⟩
      have S2 : RelS K H' fb ι (st'.take st.length) := by
        refine ⟨by rw [List.length_take, S.len]; omega, S.nd, S'.fbs, S.dj, fun j o a h1 h2 => ?_⟩
        have h1' : st'[j]? = some o := by
          rw [List.getElem?_take] at h1
          split at h1
          · exact h1
          · cases h1
        have uo := List.all_eq_true.mp hu o (List.mem_of_getElem? h1)
        have ro := S'.at_ j o a h1' (hk j a h2)
        cases o with
        | dic l ks vs =>
          have uo : (D.unders st.length ks && D.unders st.length vs) = true := uo
          rw [Bool.and_eq_true] at uo
          obtain ⟨w, d, q⟩ := ro
          exact ⟨w, d.map fun ds xs z r => Rels.low e S.len.symm ds xs (by rcases z with rfl | rfl; exact uo.1; exact uo.2) r, q⟩
        | lst l ds =>
          cases l with
          | false => obtain ⟨xs, q, r⟩ := ro; exact ⟨xs, q, Rels.low e S.len.symm ds xs uo r⟩
          | true => obtain ⟨od, xs, q, r⟩ := ro; exact ⟨od, xs, q, Rels.low e S.len.symm ds xs uo r⟩
      refine ⟨ι, _, trimE st.length env, g2, S2, fun σ' he => ⟨by simp [trimE]; exact he.1, fun i d ed => ?_⟩, h ι H' g2 S2⟩
      unfold trimE at ed
      rw [List.getElem?_map] at ed
      cases q : env[i]? with
      | none => rw [q] at ed; cases ed
      | some o =>
        rw [q] at ed
        cases o with
        | none => cases ed
        | some d' =>
          have ed : some (if d'.under st.length then some d' else none) = some (some d) := ed
          split at ed
          · rename_i hud
            cases ed
            obtain ⟨v, h1, r⟩ := he.2 i d q
            exact ⟨v, h1, Rel.low e S.len.symm d v hud r⟩
          · cases ed
    · exact ⟨ι', st', env, g, S', fun _ z => z, h ι' H' g S'⟩
theorem trim_ok {e0 : Env} {m : M Fl} {ok : Fl → Store → List Addr → Hp → Prop} {ex : D → Store → List Addr → Hp → Prop} (S : RelS K H fb ι st) (h : Po K fb (trimM st.length e0 m st) ok ex ι H) : Po K fb (m st) (trOk K fb ι H ok) ex ι H := by
  unfold trimM at h
  cases q : m st with
  | none => rw [q] at h; exact h.elim
  | some o =>
    rw [q] at h
    cases o with
    | ex e st' => exact h
    | ok r st' =>
      cases r with
      | nx env => exact cut_ok S h
      | ct env => exact cut_ok S h
      | rt d => exact h
      | bk env => exact h
      | er env e => exact h
end
section
variable {G : Pr} {X : Cx} {C : Ctx} {W : WX} {k : Nat}
noncomputable def loopF (C : Ctx) (tg : Tg) (body : Sxs) (d : D) (env : Env) : M Fl := fun st => trimM st.length env (M.of (tgSet tg d env) >>= fun env' => evSs C body env') st
theorem loop_ok {J : It} {its : List D} {fb ι0 : List Addr} {H0 : Hp} {st0 : Store} {σ : L2.St} {env : Env} {tg : Tg} {body : Sxs} {D : Ends} (S0 : RelS X.K H0 fb ι0 st0) (he : RelE X.K H0 fb ι0 env σ) (hJ : Src X.K fb ι0 H0 its J)
    (hp : Po X.K fb (loopM (loopF C tg body) its env st0) (flE X W fb D) (exS X W) ι0 H0) :
    ∃ Wv : Nat → Nat → L2.St → Hp → Prop, (∃ m, Wv 0 m σ H0) ∧ ∀ i m σ H, Wv i m σ H →
      (J.stop i H ∧ D.nx σ H) ∨ (J.go i H ∧ ∃ N : L2.St → Hp → Prop, (∀ σ' H', N σ' H' → ∃ m', m' < m ∧ Wv (i + 1) m' σ' H') ∧ ∀ x H', J.yld i H x H' → gOf X.K tg x σ H' fun σ2 H2 => sSs X C W body { D with nx := N, ct := N, bk := D.nx } σ2 H2) := by
  obtain ⟨Gp, Y, w, hG, hY⟩ := hJ.ex
  refine for_it w (fun i σ H => ∃ ι st env, Grow ι0 H0 ι H ∧ RelS X.K H fb ι st ∧ RelE X.K H fb ι env σ ∧ Po X.K fb (loopM (loopF C tg body) (its.drop i) env st) (flE X W fb D) (exS X W) ι H)
    ⟨ι0, st0, env, Grow.refl, S0, he, hp⟩ ?_ ?_ ?_
  · rintro i σ H _ ⟨ι, st, env, g, S, he, hp⟩
    exact hG ι _ g.toF
  · rintro i x σ H H' hlt ⟨ι, st, env, g, S, he, hp⟩ y
    obtain ⟨d, hdi, gY, SY, rd⟩ := hY i x ι _ H' st fb hlt (fun _ z => .inl z) g.toF S y
    have hdr : its.drop i = d :: its.drop (i + 1) := by
      rw [List.drop_eq_getElem_cons hlt]
      congr 1
      rw [List.getElem?_eq_getElem hlt] at hdi
      exact Option.some.inj hdi
    rw [hdr] at hp
    have hp := Po.up gY hp
    have hp := trim_ok SY (Po.bind (m := loopF C tg body d env) hp)
    obtain ⟨env', e1, hp⟩ := (Po.bind (m := M.of (tgSet tg d env)) hp).of
    have hp := hp ι H' Grow.refl SY
    refine tg_ok tg rd (he.mono gY) e1 fun σ2 he2 _ => ⟨fb, ι, env', st, he2, SY, hp.mono (fun r st1 ι1 H1 g1 S1 q => ?_) fun _ _ _ _ _ _ q => q⟩
    cases r with
    | nx env1 =>
      obtain ⟨ιt, stt, envt, gt, St, ht, q⟩ := q
      exact fun σ' he' => ⟨ιt, stt, envt, (g.trans gY).trans gt, St, ht σ' he', q⟩
    | ct env1 =>
      obtain ⟨ιt, stt, envt, gt, St, ht, q⟩ := q
      exact fun σ' he' => ⟨ιt, stt, envt, (g.trans gY).trans gt, St, ht σ' he', q⟩
    | rt d => exact q ι1 H1 Grow.refl S1
    | bk env1 => exact q ι1 H1 Grow.refl S1
    | er env1 e => exact q ι1 H1 Grow.refl S1
  · rintro σ H ⟨ι, st, env, g, S, he, hp⟩
    rw [List.drop_length] at hp
    exact hp ι H Grow.refl S σ he
def unD (X : Cx) (D : Ends) : Ends where
  nx := fun σ H => D.nx σ H ∨ ∃ a od u, H a = some (.frz od u) ∧ (∀ o' u', X.H_0 a ≠ some (.frz o' u')) ∧ D.nx σ (upd H a u)
  rt := unQ X D.rt
  bk := fun σ H => D.bk σ H ∨ ∃ a od u, H a = some (.frz od u) ∧ (∀ o' u', X.H_0 a ≠ some (.frz o' u')) ∧ D.bk σ (upd H a u)
  ct := fun σ H => D.ct σ H ∨ ∃ a od u, H a = some (.frz od u) ∧ (∀ o' u', X.H_0 a ≠ some (.frz o' u')) ∧ D.ct σ (upd H a u)
theorem PS.unl {s : Stmt} {t : TS} (h : PS X s t) : PS X s (fun D σ H => t (unD X D) σ H) :=
  ⟨fun pins s σ H D I q => thn (h.run pins s σ H _ I q) fun f s1 z => by
    cases f with
    | next =>
      obtain ⟨σ', H', I', q⟩ := z
      rcases q with q | ⟨a, od, u, h1, h2, q⟩
      · exact ⟨σ', H', I', q⟩
      · exact ⟨σ', _, I'.unlock h1 h2, q⟩
    | ret v =>
      obtain ⟨x, σ', H', I', r, q⟩ := z
      rcases q with q | ⟨a, od, u, h1, h2, q⟩
      · exact ⟨x, σ', H', I', r, q⟩
      · exact ⟨x, σ', _, I'.unlock h1 h2, r, q⟩
    | brk =>
      obtain ⟨σ', H', I', q⟩ := z
      rcases q with q | ⟨a, od, u, h1, h2, q⟩
      · exact ⟨σ', H', I', q⟩
      · exact ⟨σ', _, I'.unlock h1 h2, q⟩
    | cont =>
      obtain ⟨σ', H', I', q⟩ := z
      rcases q with q | ⟨a, od, u, h1, h2, q⟩
      · exact ⟨σ', H', I', q⟩
      · exact ⟨σ', _, I'.unlock h1 h2, q⟩⟩
theorem noEr_ok {n : Option Nat} {m : M Fl} {st : Store} {o : Out Fl} (h : noEr n m st = some o) : m st = some o ∧ (∀ k, n = some k → ∃ f st', o = .ok f st' ∧ ∀ env e, f ≠ .er env e) := by
  unfold noEr at h
  cases n with
  | none =>
    cases q : m st with
    | none => rw [q] at h; cases h
    | some o' => rw [q] at h; cases h; exact ⟨rfl, fun _ z => nomatch z⟩
  | some n =>
    cases q : m st with
    | none => rw [q] at h; cases h
    | some o' =>
      rw [q] at h
      cases o' with
      | ex e st' => cases h
      | ok f st' =>
        cases f with
        | er env e => cases h
        | _ => cases h; exact ⟨rfl, fun _ _ => ⟨_, _, rfl, fun _ _ z => nomatch z⟩⟩
theorem ss_loopF {tg : Tg} {ik : IK} {xs : Exs} {body : Sxs} {D : Ends} {σ : L2.St} {H : Hp} (h : sS X C W (.loop tg ik xs body) D σ H) : tFor (sI X C W ik xs) (gOf X.K tg) (sSs X C W body) (unD X D) σ H := by
  obtain ⟨fb, ι, env, st, hE, hS, hp⟩ := h
  have hp : Po X.K fb (M.tr env (evA C xs env) (fun vs => M.rd (itD ik vs) >>= fun p => noEr p.2 (withLock p.2 (loopM (loopF C tg body) p.1 env))) st) (flE X W fb D) (exS X W) ι H := hp
  refine ⟨fb, ι, env, st, hE, hS, hp.tr.mono (fun ds st1 ι1 H1 g S q vs r => ?_) fun e st1 ι1 H1 g S q cls dx rx => q σ (hE.mono g) cls dx rx⟩
  obtain ⟨⟨its, n⟩, e1, q⟩ := (Po.bind q).rd
  have qf := q ι1 H1 Grow.refl S
  have he1 := hE.mono g
  cases hw : noEr n (withLock n (loopM (loopF C tg body) its env)) st1 with
  | none => simp only [hw] at qf; exact qf.elim
  | some o =>
    simp only [hw] at qf
    obtain ⟨hw, hne⟩ := noEr_ok hw
    refine ⟨fb, ι1, st1, ds, its, n, S, r, e1, ?_⟩
    cases hk : lkOf st1 n with
    | none =>
      refine .inl ⟨rfl, fun J hJ => loop_ok S he1 hJ ?_⟩
      rw [wl_free hk hw]
      refine qf.mono (fun f st' ι' H' g' S' z => ?_) fun _ _ _ _ _ _ z => z
      cases f with
      | nx env' => exact fun σ' he' => .inl (z σ' he')
      | rt d => exact fun v rv => .inl (z v rv)
      | bk env' => exact fun σ' he' => .inl (z σ' he')
      | ct env' => exact fun σ' he' => .inl (z σ' he')
      | er env' e => exact z
    | some m =>
      have hn := lkOf_some hk
      obtain ⟨f, st3, rfl, hnf⟩ := hne m hn
      subst hn
      have hi : ∃ a, ι1[m]? = some a := by
        unfold lkOf at hk
        cases z : st1[m]? with
        | none => simp only [z] at hk; cases hk
        | some o =>
          have hlt : m < ι1.length := by rw [S.len]; exact (List.getElem?_eq_some_iff.mp z).1
          exact ⟨ι1[m], by simp [hlt]⟩
      obtain ⟨a, hi⟩ := hi
      obtain ⟨u, hu⟩ := S.live (List.mem_of_getElem? hi)
      obtain ⟨ob, ho, hol, mu, _⟩ := S.lock (od := default) hk hi hu
      obtain ⟨st2, hev, hul⟩ := wl_ok ho hol hw
      refine .inr ⟨m, a, u, rfl, hi, hu, mu, fun nf od J hJ => ?_⟩
      obtain ⟨ob', ho', _, _, SL⟩ := S.lock (od := od) hk hi hu
      rw [ho] at ho'; cases ho'
      have gl : Grow ι1 H1 ι1 (upd H1 a (.frz od u)) := lock_grow (List.mem_of_getElem? hi) hu mu
      refine loop_ok SL (he1.mono gl) hJ ?_
      rw [hev]
      intro ι' H' g' S'
      obtain ⟨od', u', h1, S3, g3⟩ := RelS.unlock S' hul hi hu mu g'
      have hi' : ι'[m]? = some a := g'.at_ hi
      have g0 : Grow0 ι' H' ι' (upd H' a u') := ⟨⟨[], by simp, by simp⟩, fun b w e m => by rw [upd_ne (fun z => m (by rw [z]; exact List.mem_of_getElem? hi'))]; exact e⟩
      have z := qf ι' _ g3 S3
      cases f with
      | nx env' => exact fun σ' he' => .inr ⟨a, od', u', h1, nf, z σ' (he'.mono0 g0)⟩
      | rt d => exact fun v rv => .inr ⟨a, od', u', h1, nf, z v (Rel.mono0 g0 _ _ rv)⟩
      | bk env' => exact fun σ' he' => .inr ⟨a, od', u', h1, nf, z σ' (he'.mono0 g0)⟩
      | ct env' => exact fun σ' he' => .inr ⟨a, od', u', h1, nf, z σ' (he'.mono0 g0)⟩
      | er env' e => exact absurd rfl (hnf env' e)
theorem ss_loop (ok : Cok G X C W k) (hp : PassesOwn (model X.prog X.w) X.A X.env X.xe) {tg : Tg} {ik : IK} {xs : Exs} {body : Sxs} {tg' iter : Expr} {body' : List Stmt} {pos : Pos} (hi : PI X tg' iter (sI X C W ik xs)) (hg : PG X tg' (gOf X.K tg)) (hb : PSs X body' (sSs X C W body)) (hs : nsetB iter = true) :
    PS X (.For tg' iter body' [] pos) (sS X C W (.loop tg ik xs body)) :=
  PS.weaken (PS.unl (ps_for hp ok.calm hi hg hb (nset_fold hs))) fun D σ H h => ss_loopF h
end
end Wk

set_option maxRecDepth 100000
set_option maxHeartbeats 1000000
/-! WkF: displays of dicts, reversed slices, isinstance of lists and tuples, methods of lists and dicts. -/
namespace Wk
open PySem PySem.Spec PyProof.Rows L2
variable [pw : PrW]

section
variable {G : Pr} {X : Cx} {C : Ctx} {W : WX} {k : Nat}
/-- a new dict: as data, or in the store -/
theorem mkd_ok {K : PySem.W.Frag} {fb ι : List Addr} {st : Store} {H : Hp} {al : Bool} {ks vs : List D} {Q : VK} {ex : D → Store → List Addr → Hp → Prop} {p : Addr} {u : HO} (S : RelS K H fb ι st) (hp : H p = none) (d : DicU K H fb ι u p ks vs) (h : Po K fb (mkD al (ks, vs) st) (okE K fb Q) ex ι H) : Q (.ref p) (upd H p u) := by
  have f := S.fresh hp
  cases al with
  | false => exact h ι _ (Grow.laid hp) (S.laid hp) _ (rel_dic upd_same (d.map fun ds xs _ r => Rels.mono (Grow.laid hp) ds xs r) f.1 f.2)
  | true =>
    have g : Grow ι H (ι ++ [p]) (upd H p u) := Grow.alloc hp
    refine h _ _ g (S.alloc hp ⟨u, d.map fun ds xs _ r => Rels.mono g ds xs r, upd_same⟩) _ ⟨p, rfl, ?_⟩
    rw [← S.len]
    simp
theorem dic_nil {K : PySem.W.Frag} {H : Hp} {fb ι : List Addr} {a : Addr} : DicU K H fb ι (.dK []) a [] [] := .inl ⟨[], rfl, rfl, rfl⟩
theorem s_dct0 {al : Bool} {pos : Pos} : PE X (.Dict [] [] pos) (sE X C W (.dct al .nil)) :=
  PE.weaken pe_dnewK fun σ H Q ⟨fb, ι, env, st, hE, hS, hp⟩ p hpn => mkd_ok (ks := []) (vs := []) hS hpn dic_nil hp
/-- the new dict stands apart while its pairs are made -/
theorem s_dct1 (ok : Cok G X C W k) {al : Bool} {a b : Ex} {a' b' : Expr} {pos : Pos} (ha : PE X a' (sE X C W a)) (hb : PE X b' (sE X C W b)) : PE X (.Dict [some a'] [b'] pos) (sE X C W (.dct al (.cons false a (.cons false b .nil)))) := by
  refine ⟨fun pins s σ H Q I ⟨fb, ι, env, st, hE, hS, hp⟩ => ?_⟩
  have hn := I.hok.fresh (Nat.le_refl s.heap.objs.size)
  have I1 := I.laid (a := s.heap.objs.size) (o := .dK []) (h' := s.heap.push { cls := .type "dict", data := .dict #[] }) (t' := s.toks) (fun _ _ q => Heap.get?_push_of_some _ q) (Nat.le_refl _) (dk_empty s.heap I.big)
  generalize hD : s.heap.objs.size = p at hn I1
  have hshape := zip_pairTrees [some a'] [b'] X.env pos rfl rfl
  have h0 : pairTrees [some a'] [b'] X.env pos ≠ [] := by intro z; have := congrArg List.length z; rw [pairTrees_length _ _ _ _ rfl rfl] at this; simp at this
  have hl : (pairTrees [some a'] [b'] X.env pos).length = 1 := pairTrees_length _ _ _ _ rfl rfl
  rw [arm_eval_Dict, hshape, dictDisplay_pairs _ h0 (by omega)]
  refine wpAny_bind (wpAny_standAt (wpAny_bind ?_))
  unfold subDict
  refine wpAny_bind (wpAny_alloc ?_)
  rw [hD]
  refine wpAny_bind (wpAny_holding ?_)
  rw [if_pos (by omega)]
  have hp : Po X.K fb ((calm (evA C (.cons false a (.cons false b .nil)) env) >>= fun vs => M.of (dispD vs) >>= fun q => mkD al q) st) (okE X.K fb Q) (exE X.mg W σ) ι H := hp
  have nfb : ∀ a ∈ fb, a ≠ p := fun a m z => hS.fbs a m (z ▸ hn)
  have np : p ∉ ι := (hS.fresh hn).1
  have hE1 : RelE X.K (upd H p (.dK [])) (p :: fb) ι env σ := hE.tr fun d v r => r.hide hn
  have hS1 : RelS X.K (upd H p (.dK [])) (p :: fb) ι st := hS.hide hn
  obtain ⟨da, st1, ea, db, st2, eb, hp⟩ : ∃ da st1, evE C a env st = some (.ok da st1) ∧ ∃ db st2, evE C b env st1 = some (.ok db st2) ∧ ∀ ι' H', Grow ι H ι' H' → RelS X.K H' fb ι' st2 → Po X.K fb ((M.of (dispD [da, db]) >>= fun q => mkD al q) st2) (okE X.K fb Q) (exE X.mg W σ) ι' H' := by
    have hp := hp.bind
    have e0 : evA C (.cons false a (.cons false b .nil)) env st = M.bind (evE C a env) (fun x => M.bind (M.bind (evE C b env) fun y => M.bind (M.ret []) fun xs => M.ret (y :: xs)) fun xs => M.ret (x :: xs)) st := rfl
    unfold calm at hp
    rw [e0] at hp
    unfold M.bind at hp
    cases q1 : evE C a env st with
    | none => simp only [q1] at hp; exact hp.elim
    | some o1 =>
      cases o1 with
      | ex e s1 => simp only [q1] at hp; exact hp.elim
      | ok da st1 =>
        cases q2 : evE C b env st1 with
        | none => simp only [q1, q2] at hp; exact hp.elim
        | some o2 =>
          cases o2 with
          | ex e s1 => simp only [q1, q2] at hp; exact hp.elim
          | ok db st2 =>
            refine ⟨da, st1, rfl, db, st2, q2, ?_⟩
            simp only [q1, q2] at hp
            exact hp
  have p1 : sE X C W a σ (upd H p (.dK [])) fun x H1 => sE X C W b σ H1 fun y H2 => ∃ ι2, Grow ι (upd H p (.dK [])) ι2 H2 ∧ RelS X.K H2 (p :: fb) ι2 st2 ∧ Rel X.K H2 (p :: fb) ι2 da x ∧ Rel X.K H2 (p :: fb) ι2 db y := by
    refine ⟨p :: fb, ι, env, st, hE1, hS1, ?_⟩
    rw [ea]
    intro ι1 H1 g1 S1 v1 r1
    refine ⟨p :: fb, ι1, env, st1, hE1.mono g1, S1, ?_⟩
    rw [eb]
    exact fun ι2 H2 g2 S2 v2 r2 => ⟨ι2, g1.trans g2, S2, r1.mono g2, r2⟩
  refine wpAny_bind (pairTrees_cons_walk (thn (ha.run pins _ σ _ _ I1 p1) fun u1 s1 ⟨x, H1, J1, rx, q1⟩ => thn (hb.run pins s1 σ H1 _ J1 q1) fun u2 s2 ⟨y, H2, J2, ry, ι2, g2, S2, rda, rdb⟩ => pairTrees_nil_walk ?_))
  have hp2 : H2 p = some (.dK []) := g2.keep p _ upd_same np
  have g3 : Grow ι H ι2 (del H2 p) := grow_del hn g2
  have S3 := S2.bare nfb
  obtain ⟨q, e1, e2⟩ := (Po.bind (hp ι2 _ g3 S3)).of
  have e2 := e2 ι2 _ Grow.refl S3
  cases hk : da.toDK with
  | none => rw [show dispD [da, db] = da.toDK.map fun _ => ([da], [db]) from rfl, hk] at e1; cases e1
  | some kk =>
    rw [show dispD [da, db] = da.toDK.map fun _ => ([da], [db]) from rfl, hk] at e1
    cases e1
    refine wpAny_holding ?_
    rw [List.forIn_cons]
    refine wpAny_bind (wpAny_bind (wpAny_bind (d_dset (A := X.A) ok.hX (by have := ok.hu; omega) J2 hp2 dic_nil rfl hk rda rx rdb ry (by decide) fun u' s3 d' J3 => wpAny_pure ?_)))
    show wpAny _ _ (forIn ([] : List (Value × Value)) PUnit.unit _) _ _ _
    rw [List.forIn_nil]
    refine wpAny_pure (wpAny_pure (wpAny_pure (wpAny_pure ⟨.ref p, upd H2 p u', J3, rfl, ?_⟩)))
    have hu : upd H2 p u' = upd (del H2 p) p u' := upd_del.symm
    rw [hu]
    refine mkd_ok (ks := [da]) (vs := [db]) S3 del_same ?_ e2
    exact d'.map fun ds xs _ r => Rels.tr (fun a u e n m => by
      have z : a ≠ p := fun z => m (by rw [z]; exact List.mem_cons_self)
      exact ⟨by rw [del_ne z]; exact e, n, fun w => m (List.mem_cons_of_mem _ w)⟩) (fun _ _ e => e) ds xs r
/-! ### methods -/
def TyG (X : Cx) (T : String) (x : V) (H : Hp) : Prop := ∀ (pins : List (Addr × Obj)) (σ : L2.St) (s : Shared) (v : Value), L2.Inv X pins σ H s → L2.RelV x v → s.TypeIs v T ∧ ∀ a, v = .ref a → ∃ ob, s.heap.get? a = some ob ∧ ob.dict = none
theorem pe_mG {T id : String} {name : Str} {o e : Expr} {es : List Expr} {apos cpos : Pos} {to : TE} {t : TA} {r : V → List V → Hp → VK → Prop} (pa : PlainAttrs T) (slot : Slot T name id) (hty : typeOf (.builtin id) = pure (.type "method_descriptor")) (hm : MtR X id r) (ho : PE X o to) (ha : PA X (e :: es) t)
    (hbase : attributeBase o name X.env (eval o X.env) = eval o X.env) (hfew : ((backTo cpos (starEach (e :: es) X.env)).all (fun x => !x.1) && (backToKw cpos (keywordEach [] X.env)).all (fun x => x.1.isSome) && decide ((e :: es).length + ([] : List Keyword).length + (if ([] : List Keyword).isEmpty then 0 else 1) < 30)) = true)
    (hline : (apos.endLine == cpos.line) = true) (h1 : nst e = true) (h2 : es.all nst = true) : PE X (.Call (.Attribute o name apos) (e :: es) [] cpos) (fun σ H Q => to σ H fun x H1 => TyG X T x H1 ∧ t σ H1 fun xs H2 => r x xs H2 Q) := by
  refine ⟨fun pins s σ H Q I h => wpAny_Call_method_late hbase hfew hline rfl (thn (ho.run pins s σ H _ I h) fun v s1 ⟨x, H1, I1, r1, ty, q1⟩ => ?_)⟩
  have w := ty pins σ s1 v I1 r1
  have hA := ha.run cpos pins s1 σ H1 _ I1 q1
  refine ⟨T, id, pa, slot, hty, w.1, w.2, ?_⟩
  rw [star_one h1] at hA ⊢
  have hpl : ((false, eval e X.env) :: backTo cpos (starEach es X.env)).any (·.1) = false := by show (false || _) = false; rw [Bool.false_or]; exact star_all h2
  refine Calls.callWith_builtin hpl (Calls.evalArgs_plain (thn hA fun us s2 ⟨vs, H2, I2, r2, q2⟩ => ?_))
  exact hm pins s2 σ H2 x vs v us Q I2 r1 r2 q2
theorem pe_mG0 {T id : String} {name : Str} {o : Expr} {apos cpos : Pos} {to : TE} {r : V → List V → Hp → VK → Prop} (pa : PlainAttrs T) (slot : Slot T name id) (hty : typeOf (.builtin id) = pure (.type "method_descriptor")) (hm : MtR X id r) (ho : PE X o to)
    (hbase : attributeBase o name X.env (eval o X.env) = eval o X.env) (hline : (apos.endLine == cpos.line) = true) : PE X (.Call (.Attribute o name apos) [] [] cpos) (fun σ H Q => to σ H fun x H1 => TyG X T x H1 ∧ r x [] H1 Q) := by
  refine ⟨fun pins s σ H Q I h => wpAny_Call_method_late hbase rfl hline rfl (thn (ho.run pins s σ H _ I h) fun v s1 ⟨x, H1, I1, r1, ty, q1⟩ => ?_)⟩
  have w := ty pins σ s1 v I1 r1
  refine ⟨T, id, pa, slot, hty, w.1, w.2, ?_⟩
  exact Calls.callWith_builtin rfl (PySem.evalArgs_none (hm pins s1 σ H1 x [] v [] Q I1 r1 .nil q1))
theorem tyG_dict (ok : Cok G X C W k) {m : Str} {x : D} {st : Store} (hm : m ∈ dMs) (h : metTy m x st = some ()) {H : Hp} {fb ι : List Addr} {v : V} (S : RelS X.K H fb ι st) (r : Rel X.K H fb ι x v) : TyG X "dict" v H := by
  have n1 : m ∉ lMs := by
    have : ∀ m ∈ dMs, m ∉ lMs := by decide +kernel
    exact this m hm
  have n2 : (m == ("bit_length" : Str)) = false := by
    have : ∀ m ∈ dMs, (m == ("bit_length" : Str)) = false := by decide +kernel
    exact this m hm
  have key : ∃ p, dcOf st x = some p := by
    cases x with
    | loc n =>
      unfold metTy at h
      unfold dcOf
      cases q : st[n]? with
      | none => simp only [q] at h; cases h
      | some o =>
        simp only [q] at h
        cases o with
        | dic l ks vs => exact ⟨(ks, vs), by simp only [q]⟩
        | lst l ds => simp only [n1, if_false] at h; cases h
    | dic ks vs => exact ⟨_, rfl⟩
    | lst ds => unfold metTy at h; rw [if_neg n1] at h; cases h
    | int i =>
      have h : (if m == ("bit_length" : Str) then some () else none) = some () := h
      rw [n2] at h
      cases h
    | _ => cases h
  obtain ⟨p, e⟩ := key
  obtain ⟨a, u, rfl, rd, d⟩ := dc_of S r e
  intro pins σ s v I rv
  cases rv
  obtain ⟨_, o, es, ep, e1, e2, _⟩ := dc_type ok.hX I rd d
  refine ⟨⟨o, e1, e2.1⟩, fun b z => ?_⟩
  cases z
  exact ⟨o, e1, e2.2.1⟩
theorem tyG_list {m : Str} {x : D} {st : Store} (hm : m ∈ lMs) (h : metTy m x st = some ()) {H : Hp} {fb ι : List Addr} {v : V} (S : RelS X.K H fb ι st) (r : Rel X.K H fb ι x v) : TyG X "list" v H :=
  fun pins σ s u I ru => tyV_is I ru (metTy_list hm h S r)
theorem s_metG {m : Str} {T : String} {a : Ex} {xs : Exs} (ty : ∀ {x : D} {st : Store} {H : Hp} {fb ι : List Addr} {v : V}, metTy m x st = some () → RelS X.K H fb ι st → Rel X.K H fb ι x v → TyG X T v H) {σ : L2.St} {H : Hp} {Q : VK} (h : sE X C W (.met m a xs) σ H Q) :
    sE X C W a σ H fun x H1 => TyG X T x H1 ∧ sA X C W xs σ H1 fun vs H2 => rMet X.K (metD m) x vs H2 Q := by
  obtain ⟨fb, ι, env, st, hE, hS, hp⟩ := h
  refine ⟨fb, ι, env, st, hE, hS, (Po.bind (m := evE C a env) hp).mono (fun dx st1 ι1 H1 g S q v r => ?_) fun _ _ _ _ _ _ q => q⟩
  obtain ⟨u, hu, q⟩ := (Po.bind (m := M.rd (metTy m dx)) q).rd
  have q := q ι1 H1 Grow.refl S
  refine ⟨ty hu S r, fb, ι1, env, st1, hE.mono g, S, (Po.bind (m := evA C xs env) q).mono (fun ds st2 ι2 H2 g2 S2 q vs rs => ?_) fun _ _ _ _ _ _ q => q⟩
  obtain ⟨d, st3, e, q⟩ := q.wr
  exact ⟨fb, ι2, st2, dx, ds, d, st3, S2, r.mono g2, rs, e, q⟩
/-! #### what each yields -/
theorem metD_X {m : Str} (h : m ∈ (["count", "index", "pop", "get", "setdefault"] : List Str)) {x : D} {vs : List D} {st : Store} : metD m x vs st = metX m x vs st := by
  have : ∀ m ∈ (["count", "index", "pop", "get", "setdefault"] : List Str), (m == ("append" : Str)) = false ∧ (m == ("insert" : Str)) = false ∧ (m == ("bit_length" : Str)) = false := by decide +kernel
  obtain ⟨h1, h2, h3⟩ := this m h
  unfold metD
  rw [h1, h2, h3]
  rfl
theorem dl_of {K : PySem.W.Frag} {H : Hp} {fb ι : List Addr} {st : Store} (S : RelS K H fb ι st) {d : D} {v : V} {ps : List PyData} (r : Rel K H fb ι d v) (e : (lsOf st d).bind D.toPs = some ps) : ∃ a xs, v = .ref a ∧ SqL K H a xs ∧ DpAll K H xs ps := by
  cases q : lsOf st d with
  | none => rw [q] at e; cases e
  | some ds =>
    rw [q] at e
    obtain ⟨a, xs, rfl, h1, h2⟩ := ls_of S r q
    exact ⟨a, xs, rfl, h1, dps_of ds xs ps h2 e⟩
theorem md_count (hu : X.A.units + 200 < cLine) : MtR X "list.count" (rMet X.K (metD "count")) := by
  intro pins s σ H x vs v us Q I rx rv h
  obtain ⟨fb, ι, st, dx, ds, d, st', S, hx, hd, e, q⟩ := h
  rw [metD_X (by decide +kernel)] at e
  have e : mCount dx ds st = some (d, st') := e
  unfold mCount at e
  split at e
  · rename_i y
    unfold countD at e
    split at e
    · rename_i ps p h1 h2
      split at e
      · rename_i hc
        simp only [Bool.and_eq_true] at hc
        cases e
        obtain ⟨w, rfl, rw'⟩ := rels1 hd
        obtain ⟨a, xs, rfl, hl, ha⟩ := dl_of S hx h1
        cases rx
        obtain ⟨uy, rfl, ry⟩ := vals1 rv
        obtain ⟨bs, rd⟩ := Dp.reads I p w uy (dp_of _ _ p rw' h2) ry
        obtain ⟨its, rits, ⟨⟨cls, dd, data, sls⟩, n, ho, hcl, hdn, hdt⟩, hlen⟩ := I.list hl
        simp only at hcl hdt
        subst hcl hdt
        obtain ⟨as, h4⟩ := Dp.readsAll I ps _ its ha rits
        have hmap : its.map (SeqAt.readOf s.heap) = ps := SeqAt.readsAll_map ps its as hc.1.1 h4
        have hdp : p.depth ≤ most := Nat.le_of_ble_eq_true hc.2
        have hroom : X.A.units + 1 + min (PyData.depthAll ps) p.depth < cLine := by unfold most at hdp; omega
        refine call_meets PySem.F.slot_list_count ⟨_, ho, rfl⟩ PySem.F.entry_list_count (PySem.F.args_list_count_2 _ _) (SeqAt.list_countAt a its.toArray n dd sls uy (fun u => PyData.eqv (SeqAt.readOf s.heap u) p)) ⟨ho, SeqAt.items_eqAt (vs := its.toArray) (show ReadsAll s.heap its.toArray.toList ps as from h4) rd hc.1.1 hc.1.2 hroom, ?_⟩
        have ec : its.toArray.toList.countP (fun u => PyData.eqv (SeqAt.readOf s.heap u) p) = ps.countP fun z => PyData.eqv z p := by
          rw [← hmap, List.countP_map]; rfl
        rw [ec]
        exact ⟨.int _, H, I.tok _, ⟨_, rfl⟩, q ι H Grow.refl S _ rfl⟩
      · cases e
    · cases e
  · cases e
theorem md_index (hu : X.A.units + 200 < cLine) : MtR X "list.index" (rMet X.K (metD "index")) := by
  intro pins s σ H x vs v us Q I rx rv h
  obtain ⟨fb, ι, st, dx, ds, d, st', S, hx, hd, e, q⟩ := h
  rw [metD_X (by decide +kernel)] at e
  have e : mIndex dx ds st = some (d, st') := e
  unfold mIndex at e
  split at e
  · rename_i y
    unfold indexD at e
    split at e
    · rename_i ps p h1 h2
      split at e
      · rename_i hc
        rw [Bool.and_eq_true] at hc
        cases hj : ps.findIdx? (fun z => PyData.eqv z p) with
        | none => rw [hj] at e; cases e
        | some j =>
          rw [hj] at e; cases e
          obtain ⟨w, rfl, rw'⟩ := rels1 hd
          obtain ⟨a, xs, rfl, hl, ha⟩ := dl_of S hx h1
          have hj := List.findIdx?_eq_some_iff_getElem.mp hj
          obtain ⟨hlt, hz, hno⟩ := hj
          refine mt_indexD (by omega) pins s σ H _ _ v us Q I rx rv ⟨a, w, p, ps, j, ps[j], rfl, rfl, .lst hl ha, dp_of _ _ p rw' h2, hc.1, hc.2, by simp [hlt], hz, fun m z' hm e => ?_, q ι H Grow.refl S _ rfl⟩
          have hm2 : m < ps.length := by omega
          have := hno m hm
          rw [List.getElem?_eq_getElem hm2] at e
          cases e
          simpa using this
      · cases e
    · cases e
  · cases e
theorem mk_pop (ds : List D) : (ds = [] ∧ mkOf "pop" ds = .popL) ∨ (ds = [.int 0] ∧ mkOf "pop" ds = .pop0) ∨ mkOf "pop" ds = .no := by
  have e0 : mkOf "pop" ds = (match ds with
    | [] => Mk.popL
    | [.int i] => if i = 0 then .pop0 else .no
    | _ => .no) := rfl
  rw [e0]
  split
  · exact .inl ⟨rfl, rfl⟩
  · split
    · rename_i h0; subst h0; exact .inr (.inl ⟨rfl, rfl⟩)
    · exact .inr (.inr rfl)
  · exact .inr (.inr rfl)
theorem mk_get (ds : List D) : mkOf "get" ds = .get1 ∨ mkOf "get" ds = .get2 ∨ mkOf "get" ds = .no := by
  have e0 : mkOf "get" ds = (match ds with
    | [_] => Mk.get1
    | [_, _] => .get2
    | _ => .no) := rfl
  rw [e0]
  split
  · exact .inl rfl
  · exact .inr (.inl rfl)
  · exact .inr (.inr rfl)
theorem md_pop : MtR X "list.pop" (rMet X.K (metD "pop")) := by
  intro pins s σ H x vs v us Q I rx rv h
  obtain ⟨fb, ι, st, dx, ds, d, st', S, hx, hd, e, q⟩ := h
  rw [metD_X (by decide +kernel)] at e
  have cs := mk_pop ds
  unfold metX at e
  rcases cs with ⟨rfl, cs⟩ | ⟨rfl, cs⟩ | cs
  · replace e : mPopL dx st = some (d, st') := by rw [cs] at e; exact e
    have hd : vs = [] := hd
    subst hd
    unfold mPopL at e
    split at e
    · split at e
      · rename_i n _ xs hn
        cases hq : xs[xs.length - 1]? with
        | none => rw [hq] at e; cases e
        | some y =>
          rw [hq] at e; cases e
          obtain ⟨a, rfl, hi⟩ := hx
          obtain ⟨ws, h1, h2⟩ := S.at_ n _ a hn hi
          obtain ⟨w, hw, rw'⟩ := h2.get hq
          rw [h2.length] at hw
          have hdl : Rels X.K H fb ι xs.dropLast ws.dropLast := by rw [List.dropLast_eq_take, List.dropLast_eq_take, h2.length]; exact h2.take _
          exact mt_pop pins s σ H _ _ v us Q I rx rv ⟨a, ws, w, rfl, rfl, h1, hw, q.lst S hi h1 hdl rw'⟩
      · cases e
    · cases e
  · replace e : mPop0 dx st = some (d, st') := by rw [cs] at e; exact e
    unfold mPop0 at e
    split at e
    · split at e
      · rename_i n _ y xs hn
        cases e
        obtain ⟨w0, rfl, rw0⟩ := rels1 hd
        cases rw0
        obtain ⟨a, rfl, hi⟩ := hx
        obtain ⟨ws, h1, h2⟩ := S.at_ n _ a hn hi
        obtain ⟨w, ws', rfl, r1, r2⟩ := h2
        exact mt_popAt pins s σ H _ _ v us Q I rx rv ⟨a, w :: ws', 0, 0, w, rfl, rfl, h1, by decide, by decide, by unfold seqIndex?; simp, rfl, q.lst S hi h1 r2 r1⟩
      · cases e
    · cases e
  · rw [cs] at e; cases e
/-! #### dicts -/
theorem d_getD (ok : Cok G X C W k) {pins : List (Addr × Obj)} {σ : L2.St} {H : Hp} {s : Shared} {Q : Value → Shared → Prop} {fb ι : List Addr} {a : Addr} {u : HO} {ks vs : List D} {kd : D} {q : DK} {ky : V} {uk : Value} (I : L2.Inv X pins σ H s) (rd : Rd H a u) (d : DicU X.K H fb ι u a ks vs) (fl : flOk ks q = true) (hk : kd.toDK = some q) (rk : Rel X.K H fb ι kd ky) (ru : L2.RelV ky uk) :
    ((∀ v w' s', (match dget ks vs q with
      | some dv => Rel X.K H fb ι dv v
      | none => v = .non) → L2.Inv X pins σ H s' → L2.RelV v w' → Q w' s') → wpAny (model X.prog X.w) X.A (call (.builtin "dict.get") [.ref a, uk]) Q X.xe s) ∧
    ∀ (dd : D) (dv : V) (du : Value), Rel X.K H fb ι dd dv → L2.RelV dv du → (∀ v w' s', Rel X.K H fb ι ((dget ks vs q).getD dd) v → L2.Inv X pins σ H s' → L2.RelV v w' → Q w' s') → wpAny (model X.prog X.w) X.A (call (.builtin "dict.get") [.ref a, uk, du]) Q X.xe s := by
  have hX := ok.hX
  have hu := ok.hu
  have okH := hok_of hX I
  cases view_of okH rd d fl with
  | a k kvs x e r =>
    obtain ⟨z, hd, us, rel, dd⟩ := x
    cases key_av hk rk
    subst e
    have key : ∃ o, valV kvs k = o ∧ (match dget (kvs.map fun kv => kD kv.1) vs (.a k) with
        | some dv => ∃ v, o = some v ∧ Rel X.K H fb ι dv v
        | none => o = none) := by
      obtain ⟨q1, q2⟩ := rel_A (k := k) r
      cases z : dget (kvs.map fun kv => kD kv.1) vs (.a k) with
      | none => exact ⟨none, q2 z, rfl⟩
      | some dv => obtain ⟨v, e1, e2⟩ := q1 dv z; exact ⟨some v, e1, v, rfl, e2⟩
    obtain ⟨o, eo, ho⟩ := key
    have rv := rel.val k
    rw [eo] at rv
    rw [← hX.1, ← hX.2.1] at dd
    refine ⟨fun h => call_meetsIn PySem.F.slot_dict_get dd.typeIs PySem.F.entry_dict_get (PySem.F.args_dict_get_2 _ _) (meets_dict_get (mixKind X.prog X.w) a (kV_is ru) hd) ⟨_, dd.mapOf, ?_⟩, fun df dv du r1 r2 h => call_meetsIn PySem.F.slot_dict_get dd.typeIs PySem.F.entry_dict_get (PySem.F.args_dict_get_3 _ _ _) (meets_dict_get_default (mixKind X.prog X.w) a (kV_is ru) hd du) ⟨_, dd.mapOf, ?_⟩⟩
    · cases z : dget (kvs.map fun kv => kD kv.1) vs (.a k) with
      | none => rw [z] at ho h; have w := rv.getD (show L2.RelV V.non Value.none from rfl); rw [ho] at w; exact h .non _ _ rfl (I.tok _) w
      | some dv => rw [z] at ho h; obtain ⟨v, ho, rr⟩ := ho; have w := rv.getD (show L2.RelV V.non Value.none from rfl); rw [ho] at w; exact h v _ _ rr (I.tok _) w
    · cases z : dget (kvs.map fun kv => kD kv.1) vs (.a k) with
      | none => rw [z] at ho h; have w := rv.getD r2; rw [ho] at w; exact h dv _ _ r1 (I.tok _) w
      | some dv' => rw [z] at ho h; obtain ⟨v, ho, rr⟩ := ho; have w := rv.getD r2; rw [ho] at w; exact h v _ _ rr (I.tok _) w
  | t k xs ws z y dd e hw r1 r2 =>
    obtain ⟨b, rfl, rfl, hkey⟩ := key_t okH hk rk ru
    have key : match dget ks vs (.t k) with
        | some dv => ∃ v p, atKey xs k = some p ∧ L2.RelV v p.2 ∧ Rel X.K H fb ι dv v
        | none => atKey xs k = none := by
      obtain ⟨q1, q2⟩ := rel_T (k := k) e hw r2
      cases z : dget ks vs (.t k) with
      | none => exact q2 z
      | some dv => exact q1 dv z
    rw [hX.1, hX.2.1]
    have room : (nestedKind pw.P pw.w).room X.A.in1 := by show X.A.in1.units + 8 < cLine; simp only [Around.in1]; omega
    refine ⟨fun h => call_meetsIn PySem.F.slot_dict_get dd.typeIs PySem.F.entry_dict_get (PySem.F.args_dict_get_2 _ _) (meetsH_dict_get (nestedKind pw.P pw.w) a b y) ⟨room, k, xs, hkey, dd, ?_⟩, fun df dv du q1 q2 h => call_meetsIn PySem.F.slot_dict_get dd.typeIs PySem.F.entry_dict_get (PySem.F.args_dict_get_3 _ _ _) (meetsH_dict_get_default (nestedKind pw.P pw.w) a b y du) ⟨room, k, xs, hkey, dd, ?_⟩⟩
    · cases z : dget ks vs (.t k) with
      | none => rw [z] at key h; rw [key]; exact h .non _ _ rfl (I.tok _) rfl
      | some dv => rw [z] at key h; obtain ⟨v, p, e1, e2, e3⟩ := key; rw [e1]; exact h v _ _ e3 (I.tok _) e2
    · cases z : dget ks vs (.t k) with
      | none => rw [z] at key h; rw [key]; exact h dv _ _ q1 (I.tok _) q2
      | some dv' => rw [z] at key h; obtain ⟨v, p, e1, e2, e3⟩ := key; rw [e1]; exact h v _ _ e3 (I.tok _) e2
theorem md_get (ok : Cok G X C W k) : MtR X "dict.get" (rMet X.K (metD "get")) := by
  intro pins s σ H x vs v us Q I rx rv h
  obtain ⟨fb, ι, st, dx, ds, d, st', S, hx, hd, e, q⟩ := h
  rw [metD_X (by decide +kernel)] at e
  have cs := mk_get ds
  replace e : mGet dx ds st = some (d, st') := by
    unfold metX at e
    rcases cs with cs | cs | cs
    · rw [cs] at e; exact e
    · rw [cs] at e; exact e
    · rw [cs] at e; cases e
  unfold mGet at e
  split at e
  · cases z : dfind st dx _ with
    | none => rw [z] at e; cases e
    | some o =>
      rw [z] at e; cases e
      obtain ⟨p, kk, h1, h2, h3, h4⟩ := find_of z
      obtain ⟨a, w, rfl, rd, dd⟩ := dc_of S hx h1
      cases rx
      obtain ⟨y, rfl, ry⟩ := rels1 hd
      obtain ⟨uy, rfl, ruy⟩ := vals1 rv
      refine (d_getD ok I rd dd h3 h2 ry ruy).1 fun v w' s' hv I' rw' => ⟨v, H, I', rw', ?_⟩
      rw [← h4] at hv
      cases o with
      | none => subst hv; exact q.same S rfl
      | some dv => exact q.same S hv
  · cases z : dfind st dx _ with
    | none => rw [z] at e; cases e
    | some o =>
      rw [z] at e; cases e
      obtain ⟨p, kk, h1, h2, h3, h4⟩ := find_of z
      obtain ⟨a, w, rfl, rd, dd⟩ := dc_of S hx h1
      cases rx
      obtain ⟨y, yd, rfl, ry, ryd⟩ := rels2 hd
      obtain ⟨uy, ud, rfl, ruy, rud⟩ := vals2 rv
      refine (d_getD ok I rd dd h3 h2 ry ruy).2 _ yd ud ryd rud fun v w' s' hv I' rw' => ⟨v, H, I', rw', ?_⟩
      rw [← h4] at hv
      exact q.same S hv
  · cases e
end
end Wk

set_option maxRecDepth 100000
set_option maxHeartbeats 1000000
/-! WkS: sorted. -/
namespace Wk
open PySem PySem.Spec PyProof.Rows L2

section
variable {α : Type} {lt : α → α → Bool}
theorem ins_perm {x : α} : ∀ {l : List α}, (insB lt x l).Perm (x :: l)
  | [] => List.Perm.refl _
  | y :: ys => by
    unfold insB
    split
    · exact (List.Perm.cons y ins_perm).trans (List.Perm.swap x y ys)
    · exact List.Perm.refl _
theorem isort_perm : ∀ {l : List α}, (isort lt l).Perm l
  | [] => List.Perm.refl _
  | x :: xs => ins_perm.trans (List.Perm.cons x isort_perm)
/-- sorted: what follows is not below -/
theorem ins_srt (tot : ∀ x y, lt y x = false ∨ lt x y = false) (tr : ∀ x y z, lt y x = false → lt z y = false → lt z x = false) {x : α} : ∀ {l : List α}, l.Pairwise (fun a b => lt b a = false) → (insB lt x l).Pairwise (fun a b => lt b a = false)
  | [], _ => by simp [insB]
  | y :: ys, h => by
    rw [List.pairwise_cons] at h
    unfold insB
    split
    · rename_i hy
      rw [List.pairwise_cons]
      refine ⟨fun z hz => ?_, ins_srt tot tr h.2⟩
      rcases List.mem_cons.mp (ins_perm.subset hz) with rfl | hz
      · rcases tot y z with q | q
        · exact q
        · rw [hy] at q; cases q
      · exact h.1 z hz
    · rename_i hy
      have hy : lt y x = false := by cases q : lt y x with | true => exact absurd q hy | false => rfl
      rw [List.pairwise_cons]
      refine ⟨fun z hz => ?_, List.pairwise_cons.mpr h⟩
      rcases List.mem_cons.mp hz with rfl | hz
      · exact hy
      · exact tr x y z hy (h.1 z hz)
theorem isort_srt (tot : ∀ x y, lt y x = false ∨ lt x y = false) (tr : ∀ x y z, lt y x = false → lt z y = false → lt z x = false) : ∀ {l : List α}, (isort lt l).Pairwise (fun a b => lt b a = false)
  | [] => by simp [isort]
  | x :: xs => ins_srt tot tr (isort_srt tot tr)
theorem srt_uniq (anti : ∀ x y, lt x y = false → lt y x = false → x = y) : ∀ {l m : List α}, l.Perm m → l.Pairwise (fun a b => lt b a = false) → m.Pairwise (fun a b => lt b a = false) → l = m
  | [], m, p, _, _ => by rw [List.nil_perm.mp p]
  | x :: xs, [], p, _, _ => by have := p.length_eq; simp at this
  | x :: xs, y :: ys, p, h1, h2 => by
    rw [List.pairwise_cons] at h1 h2
    have hx : x ∈ y :: ys := p.subset List.mem_cons_self
    have hy : y ∈ x :: xs := p.symm.subset List.mem_cons_self
    have e : x = y := by
      rcases List.mem_cons.mp hx with q | q
      · exact q
      · rcases List.mem_cons.mp hy with q2 | q2
        · exact q2.symm
        · exact anti x y (h2.1 x q) (h1.1 y q2)
    subst e
    rw [srt_uniq anti (List.perm_cons x |>.mp p) h1.2 h2.2]
end
theorem ltI_tot (x y : Int) : ltI y x = false ∨ ltI x y = false := by unfold ltI; simp; omega
theorem ltI_tr (x y z : Int) (h1 : ltI y x = false) (h2 : ltI z y = false) : ltI z x = false := by unfold ltI at *; simp at *; omega
theorem ltI_anti (x y : Int) (h1 : ltI x y = false) (h2 : ltI y x = false) : x = y := by unfold ltI at *; simp at *; omega
theorem ltPr_iff {p q : Int × Int} : ltPr p q = true ↔ p.1 < q.1 ∨ (p.1 = q.1 ∧ p.2 < q.2) := by unfold ltPr; split <;> simp <;> omega
theorem ltPr_no {p q : Int × Int} : ltPr p q = false ↔ ¬ (p.1 < q.1 ∨ (p.1 = q.1 ∧ p.2 < q.2)) := by rw [← ltPr_iff]; cases ltPr p q <;> simp
theorem ltPr_tot (x y : Int × Int) : ltPr y x = false ∨ ltPr x y = false := by rw [ltPr_no, ltPr_no]; omega
theorem ltPr_tr (x y z : Int × Int) (h1 : ltPr y x = false) (h2 : ltPr z y = false) : ltPr z x = false := by rw [ltPr_no] at *; omega
theorem ltPr_anti (x y : Int × Int) (h1 : ltPr x y = false) (h2 : ltPr y x = false) : x = y := by rw [ltPr_no] at *; exact Prod.ext (by omega) (by omega)
section
variable [pw : PrW] {X : Cx}
theorem prOf_eq {d : D} {p : Int × Int} (e : prOf d = some p) : d = prD p := by
  unfold prOf at e
  split at e
  · cases e; rfl
  · cases e
theorem prs_eq : ∀ {ds : List D} {ps : List (Int × Int)}, prsOf ds = some ps → ds = ps.map prD
  | [], ps, e => by cases e; rfl
  | d :: ds, ps, e => by
    have e : ((prOf d).bind fun p => (prsOf ds).map (p :: ·)) = some ps := e
    cases z1 : prOf d with
    | none => rw [z1] at e; cases e
    | some p =>
      rw [z1, Option.bind_some] at e
      cases z : prsOf ds with
      | none => rw [z] at e; cases e
      | some qs => rw [z] at e; cases e; rw [prOf_eq z1, prs_eq z]; rfl
theorem pr_rel {K : PySem.W.Frag} {H : Hp} {fb ι : List Addr} {p : Int × Int} {x : V} : Rel K H fb ι (prD p) x ↔ ∃ t, x = V.ref t ∧ H t = some (.tup [.int p.1, .int p.2]) ∧ t ∉ ι ∧ t ∉ fb := by
  constructor
  · rintro ⟨a, ws, rfl, q, n, m, w⟩
    obtain ⟨w1, w2, rfl, q1, q2⟩ := rels2 w
    cases q1; cases q2
    exact ⟨a, rfl, q, n, m⟩
  · rintro ⟨t, rfl, q, n, m⟩
    exact ⟨t, _, rfl, q, n, m, _, _, rfl, rfl, _, _, rfl, rfl, rfl⟩
theorem prs_mem {K : PySem.W.Frag} {H : Hp} {fb ι : List Addr} : ∀ {ps : List (Int × Int)} {xs : List V}, Rels K H fb ι (ps.map prD) xs → ∀ x ∈ xs, ∃ p, Rel K H fb ι (prD p) x
  | [], xs, r, x, hx => by have r : xs = [] := r; subst r; cases hx
  | p :: ps, xs, r, x, hx => by
    obtain ⟨y, ys, rfl, r1, r2⟩ := r
    rcases List.mem_cons.mp hx with rfl | hx
    · exact ⟨p, r1⟩
    · exact prs_mem r2 x hx
/-- a pair by what it stands for -/
noncomputable def kOf (K : PySem.W.Frag) (H : Hp) (fb ι : List Addr) (x : V) : Int × Int := open Classical in if h : ∃ p, Rel K H fb ι (prD p) x then Classical.choose h else (0, 0)
theorem kOf_eq {K : PySem.W.Frag} {H : Hp} {fb ι : List Addr} {x : V} {p : Int × Int} (r : Rel K H fb ι (prD p) x) : kOf K H fb ι x = p := by
  have h : ∃ p, Rel K H fb ι (prD p) x := ⟨p, r⟩
  have e : kOf K H fb ι x = Classical.choose h := by unfold kOf; exact dif_pos h
  rw [e]
  have w := Classical.choose_spec h
  obtain ⟨t, rfl, q, _⟩ := pr_rel.mp r
  obtain ⟨t2, e2, q2, _⟩ := pr_rel.mp w
  cases e2
  rw [q] at q2
  simp at q2
  exact Prod.ext q2.1.symm q2.2.symm
theorem prs_map {K : PySem.W.Frag} {H : Hp} {fb ι : List Addr} : ∀ {ps : List (Int × Int)} {xs : List V}, Rels K H fb ι (ps.map prD) xs → xs.map (kOf K H fb ι) = ps
  | [], xs, r => by have r : xs = [] := r; subst r; rfl
  | p :: ps, xs, r => by
    obtain ⟨y, ys, rfl, r1, r2⟩ := r
    rw [List.map_cons, kOf_eq r1, prs_map r2]
theorem prs_back {K : PySem.W.Frag} {H : Hp} {fb ι : List Addr} : ∀ {xs : List V}, (∀ x ∈ xs, ∃ p, Rel K H fb ι (prD p) x) → Rels K H fb ι ((xs.map (kOf K H fb ι)).map prD) xs
  | [], _ => rfl
  | x :: xs, h => by
    obtain ⟨p, r⟩ := h x List.mem_cons_self
    exact ⟨x, xs, rfl, by show Rel K H fb ι (prD (kOf K H fb ι x)) x; rw [kOf_eq r]; exact r, prs_back fun y hy => h y (List.mem_cons_of_mem _ hy)⟩
theorem keys_int : ∀ {kvs : List (L2.Key × V)} {ns : List Int}, intsOf (kvs.map fun kv => kD kv.1) = some ns → kvs.map (·.1) = ns.map Sum.inl
  | [], ns, e => by cases e; rfl
  | (.inr z, y) :: kvs, ns, e => by cases e
  | (.inl i, y) :: kvs, ns, e => by
    have hn : (intsOf (kvs.map fun kv => kD kv.1)).map (i :: ·) = some ns := e
    cases z : intsOf (kvs.map fun kv => kD kv.1) with
    | none => rw [z] at hn; cases hn
    | some ms => rw [z] at hn; cases hn; rw [List.map_cons, List.map_cons, keys_int z]
theorem bltD_sorted {vs : List D} {st : Store} : bltD "sorted" vs st = match vs with
    | [x] => sortedD st x
    | _ => none := rfl
theorem bt_sorted (hX : X.prog = pw.P ∧ X.w = pw.w ∧ X.mg = pw.mg) (hc : X.calm = true) : CallR X (.builtin "sorted") (rBlt X.K (bltD "sorted")) := by
  intro pins s σ H vs us Q I r h
  obtain ⟨fb, ι, st, ds, d, S, hd, e, q⟩ := h
  rw [bltD_sorted] at e
  split at e
  · rename_i x
    obtain ⟨v, rfl, r1⟩ := rels1 hd
    unfold sortedD at e
    split at e
    · rename_i p hp
      split at e
      · rename_i hl
        have hl : p.1.length < 64 := Nat.blt_eq.mp hl
        cases hn : intsOf p.1 with
        | none => rw [hn] at e; cases e
        | some ns =>
          rw [hn] at e; cases e
          obtain ⟨a, u, rfl, rd, dd⟩ := dc_of S r1 hp
          rcases dd with ⟨kvs, rfl, hk, rr⟩ | ⟨xs, ws, rfl, hk, hv, r1', r2⟩
          · have ek : kvs.map (·.1) = ns.map Sum.inl := keys_int (by rw [← hk]; exact hn)
            have hlen : ns.length < 64 := by
              have := congrArg List.length ek
              rw [hk] at hl
              simp at this hl
              omega
            refine call_sortedDI hc pins s σ H _ us Q I r ⟨a, kvs, ns, rfl, rd, ek, hlen, fun ys p hperm hs hp => ?_⟩
            have : ys = isort ltI ns := srt_uniq ltI_anti (hperm.trans isort_perm.symm) (hs.imp fun {a b} h => by unfold ltI; simp; omega) (isort_srt ltI_tot ltI_tr)
            subst this
            exact q.lst S (scr_rel H) hp
          · exfalso
            cases xs with
            | nil => exact hk.2 rfl
            | cons x0 xs =>
              have h0 := hk.1
              cases hp1 : p.1 with
              | nil => rw [hp1] at h0; simp at h0
              | cons k0 ks =>
                rw [hp1] at h0 hn
                rw [List.map_cons, List.map_cons] at h0
                have h0 := (List.cons.inj h0).1
                cases k0 with
                | int i => cases h0
                | _ => cases hn
      · cases e
    · cases hx : lsOf st x with
      | none => rw [hx] at e; cases e
      | some xs =>
        rw [hx, Option.bind_some] at e
        obtain ⟨a, ws, rfl, ha, ra⟩ := ls_of S r1 hx
        cases hn : intsOf xs with
        | some ns =>
          rw [hn] at e; cases e
          have e4 := ints_rel ra hn
          subst e4
          refine cr_sortedI pins s σ H _ us Q I r ⟨a, ns, rfl, ha, fun ys p hperm hs hp => ?_⟩
          have : ys = isort ltI ns := srt_uniq ltI_anti (hperm.trans isort_perm.symm) (hs.imp fun {a b} h => by unfold ltI; simp; omega) (isort_srt ltI_tot ltI_tr)
          subst this
          exact q.lst S (scr_rel H) hp
        | none =>
          rw [hn] at e
          cases hq : prsOf xs with
          | none => rw [hq] at e; cases e
          | some ps =>
            rw [hq] at e; cases e
            have ex := prs_eq hq
            subst ex
            have mem := prs_mem ra
            refine cr_sortedPO pins s σ H _ us Q I r ⟨a, ws, kOf X.K H fb ι, rfl, ha, fun y hy => ?_, fun ys p hs hb hp => ?_⟩
            · obtain ⟨pp, rp⟩ := mem y hy
              rw [kOf_eq rp]
              obtain ⟨t, e1, e2, _⟩ := pr_rel.mp rp
              exact ⟨t, e1, e2⟩
            · have hm : ∀ y ∈ ys, ∃ p, Rel X.K H fb ι (prD p) y := fun y hy => mem y (hb.perm.subset hy)
              have back := prs_back hm
              have ep : ys.map (kOf X.K H fb ι) = isort ltPr ps := by
                refine srt_uniq ltPr_anti (((hb.perm.map _).trans (by rw [prs_map ra])).trans isort_perm.symm) ?_ (isort_srt ltPr_tot ltPr_tr)
                rw [List.pairwise_map]
                exact hs.imp fun {a b} h => h
              rw [ep] at back
              exact q.lst S back hp
  · cases e
end
end Wk

set_option maxRecDepth 100000
set_option maxHeartbeats 2000000
/-! WkC: dict comprehensions with one or two fors, keys of either kind. -/
namespace Wk
open PySem PySem.Spec PyProof.Rows L2
variable [pw : PrW]

section
variable {prog : Program} {w : World} {A : Around} {R : Result → Shared → Prop} {s : Shared} {kx vx t0 i0 t1 i1 : Expr} {ifs0 ifs1 : List Expr} {scope : Scope} {pos : Pos} {it : Value} {D : Addr} {env : PySem.Env}
/-- an error within a block -/
abbrev NBy (prog : Program) (w : World) (A : Around) (R : Result → Shared → Prop) (env : PySem.Env) : Value → Shared → Prop := notedBy (model prog w) A env fun e s' => R (.error e) s'
/-- one turn of a clause: K, where the tests hold -/
def StepD (prog : Program) (w : World) (A : Around) (R : Result → Shared → Prop) (env : PySem.Env) (it : Value) (t : Expr) (ifs : List Expr) (no : Shared → Prop) (K : Shared → Prop) (s : Shared) : Prop :=
  wpAny (model prog w) A (pyNext it) (fun r z1 => match r with
    | none => R (.ok .next) z1
    | some v => wpAny (model prog w) A (letOwnedTupleGo t it v) (fun _ z2 => wpAny (model prog w) A (assign t env v) (fun _ z3 =>
        wpAny (model prog w) A (forIn ifs true fun c r => if r = true then do let ok ← isTrue c env (eval c env); pure (ForInStep.yield ok) else pure (ForInStep.yield r)) (fun b z4 => if b = true then K z4 else no z4)
          (NBy prog w A R env) z3) (NBy prog w A R env) z2) (NBy prog w A R env) z1) (NBy prog w A R env) s
/-- a pair is made and put -/
def EmitD (prog : Program) (w : World) (A : Around) (R : Result → Shared → Prop) (env : PySem.Env) (kx vx : Expr) (D : Addr) (fin : Shared → Prop) (s : Shared) : Prop :=
  wpAny (model prog w) A (eval kx env) (fun a z1 => wpAny (model prog w) A (eval vx env) (fun b z2 => wpAny (model prog w) A (dictSet D a b) (fun _ z3 => fin z3) (NBy prog w A R env) z2) (NBy prog w A R env) z1) (NBy prog w A R env) s
theorem turnD_out : compTurn (.DictComp kx vx [⟨t0, i0, ifs0, 0⟩, ⟨t1, i1, ifs1, 0⟩] scope pos) 0 it (.ref D) env = (do
      standAt i0.pos
      match ← pyNext it with
      | none => pure (.done .next)
      | some v =>
        letOwnedTupleGo t0 it v
        assign t0 env v
        let mut ok := true
        for c in ifs0 do
          if ok then ok ← isTrue c env (eval c env)
        if ok then
          let x ← eval i1 env
          standAt i1.pos
          let x ← foldedSetIterable i1 env x
          let _ ← runOwn (.compStart (.DictComp kx vx [⟨t0, i0, ifs0, 0⟩, ⟨t1, i1, ifs1, 0⟩] scope pos) 1 (← holding [x] (pyIter x)) (.ref D) env) env
        again (.compLoop (.DictComp kx vx [⟨t0, i0, ifs0, 0⟩, ⟨t1, i1, ifs1, 0⟩] scope pos) 0 it (.ref D) env)) := by rfl
theorem turnD_in : compTurn (.DictComp kx vx [⟨t0, i0, ifs0, 0⟩, ⟨t1, i1, ifs1, 0⟩] scope pos) 1 it (.ref D) env = (do
      standAt i1.pos
      match ← pyNext it with
      | none => pure (.done .next)
      | some v =>
        letOwnedTupleGo t1 it v
        assign t1 env v
        let mut ok := true
        for c in ifs1 do
          if ok then ok ← isTrue c env (eval c env)
        if ok then
          (do
            let kv ← eval kx env
            let vv ← holding [kv] (eval vx env)
            standAt { kx.pos with endLine := vx.pos.endLine, endCol := vx.pos.endCol }
            holding [kv, vv] (dictSet D kv vv))
        again (.compLoop (.DictComp kx vx [⟨t0, i0, ifs0, 0⟩, ⟨t1, i1, ifs1, 0⟩] scope pos) 1 it (.ref D) env)) := by rfl
abbrev mv {M : Model} {A : Around} {α : Type} {m : Sem α} {Q Q' : α → Shared → Prop} {E : Value → Shared → Prop} {s : Shared} (h : wpAny M A m Q E s) (f : ∀ a z, Q a z → Q' a z) : wpAny M A m Q' E s := wpAny_mono h f fun _ _ x => x
theorem loopD_in (I : Nat → Shared → Prop) (turn : ∀ n s, I n s → StepD prog w A R env it t1 ifs1 (fun z => ∃ m, m < n ∧ I m z) (EmitD prog w A R env kx vx D fun z => ∃ m, m < n ∧ I m z) s) (n : Nat) (h : I n s) :
    codeAny (model prog w) A (.compLoop (.DictComp kx vx [⟨t0, i0, ifs0, 0⟩, ⟨t1, i1, ifs1, 0⟩] scope pos) 1 it (.ref D) env) R s := by
  refine codeAny_loop rfl I (fun n s hI => ?_) n h
  show wpAny _ A ((compTurn _ 1 it (.ref D) env).onRaise (fun x => do noteFrame x env; theTreesLotGoes x)) _ _ s
  refine wpAny_noted ?_; rw [turnD_in]
  refine wpAny_bind (wpAny_standAt (wpAny_bind (mv (turn n s hI) fun r z1 q1 => ?_)))
  cases r with
  | none => exact wpAny_pure q1
  | some v =>
    refine wpAny_bind (mv q1 fun _ z2 q2 => wpAny_bind (mv q2 fun _ z3 q3 => wpAny_bind (mv q3 fun b z4 q4 => ?_)))
    cases b with
    | false => exact wpAny_pure ⟨rfl, q4⟩
    | true => exact wpAny_bind (wpAny_bind (mv q4 fun a z5 q5 => wpAny_bind (wpAny_holding (mv q5 fun c z6 q6 => wpAny_bind (wpAny_standAt (wpAny_holding (mv q6 fun _ z7 q7 => wpAny_pure ⟨rfl, q7⟩)))))))
theorem loopD_1 (I : Nat → Shared → Prop) (turn : ∀ n s, I n s → StepD prog w A R env it t0 ifs0 (fun z => ∃ m, m < n ∧ I m z) (EmitD prog w A R env kx vx D fun z => ∃ m, m < n ∧ I m z) s) (n : Nat) (h : I n s) :
    codeAny (model prog w) A (.compLoop (.DictComp kx vx [⟨t0, i0, ifs0, 0⟩] scope pos) 0 it (.ref D) env) R s := by
  refine codeAny_loop rfl I (fun n s hI => ?_) n h
  show wpAny _ A ((compTurn _ 0 it (.ref D) env).onRaise (fun x => do noteFrame x env; theTreesLotGoes x)) _ _ s
  refine wpAny_noted ?_; rw [compTurn_dict]
  refine wpAny_bind (wpAny_standAt (wpAny_bind (mv (turn n s hI) fun r z1 q1 => ?_)))
  cases r with
  | none => exact wpAny_pure q1
  | some v =>
    refine wpAny_bind (mv q1 fun _ z2 q2 => wpAny_bind (mv q2 fun _ z3 q3 => wpAny_bind (mv q3 fun b z4 q4 => ?_)))
    cases b with
    | false => exact wpAny_pure ⟨rfl, q4⟩
    | true => exact wpAny_bind (wpAny_bind (mv q4 fun a z5 q5 => wpAny_bind (wpAny_holding (mv q5 fun c z6 q6 => wpAny_bind (wpAny_standAt (wpAny_holding (mv q6 fun _ z7 q7 => wpAny_pure ⟨rfl, q7⟩)))))))
/-- what the second source's own loop is to reach -/
abbrev InnD (fin : Shared → Prop) : Result → Shared → Prop := fun r z => match r with
  | .ok _ => fin z
  | .error _ => False
theorem loopD_out (hs : ∀ x, foldedSetIterable i1 env x = pure x) (I : Nat → Shared → Prop)
    (turn : ∀ n s, I n s → StepD prog w A R env it t0 ifs0 (fun z => ∃ m, m < n ∧ I m z) (fun z4 => wpAny (model prog w) A (eval i1 env) (fun x z5 => wpAny (model prog w) A (pyIter x) (fun it1 z6 =>
      codeAny (model prog w) A (.compStart (.DictComp kx vx [⟨t0, i0, ifs0, 0⟩, ⟨t1, i1, ifs1, 0⟩] scope pos) 1 it1 (.ref D) env) (InnD fun z => ∃ m, m < n ∧ I m z) z6) (NBy prog w A R env) z5) (NBy prog w A R env) z4) s) (n : Nat) (h : I n s) :
    codeAny (model prog w) A (.compLoop (.DictComp kx vx [⟨t0, i0, ifs0, 0⟩, ⟨t1, i1, ifs1, 0⟩] scope pos) 0 it (.ref D) env) R s := by
  refine codeAny_loop rfl I (fun n s hI => ?_) n h
  show wpAny _ A ((compTurn _ 0 it (.ref D) env).onRaise (fun x => do noteFrame x env; theTreesLotGoes x)) _ _ s
  refine wpAny_noted ?_; rw [turnD_out]
  refine wpAny_bind (wpAny_standAt (wpAny_bind (mv (turn n s hI) fun r z1 q1 => ?_)))
  cases r with
  | none => exact wpAny_pure q1
  | some v =>
    refine wpAny_bind (mv q1 fun _ z2 q2 => wpAny_bind (mv q2 fun _ z3 q3 => wpAny_bind (mv q3 fun b z4 q4 => ?_)))
    cases b with
    | false => exact wpAny_pure ⟨rfl, q4⟩
    | true =>
      refine wpAny_bind (mv q4 fun x z5 q5 => wpAny_bind (wpAny_standAt (wpAny_bind (wpAny_of_eq (hs x) (wpAny_bind (wpAny_holding (mv q5 fun it1 z6 q6 => ?_)))))))
      refine wpAny_bind (wpAny_runOwn ?_); rw [Around.mark_none]
      refine codeAny_mono q6 fun r z7 q7 => ?_
      cases r with
      | ok f => first | exact wpAny_pure ⟨rfl, q7⟩ | exact wpAny_bind (wpAny_pure (wpAny_pure ⟨rfl, q7⟩))
      | error e => exact q7.elim
theorem startD_1 {acc : Value} (h0 : codeAny (model prog w) A (.compLoop (.DictComp kx vx [⟨t0, i0, ifs0, 0⟩, ⟨t1, i1, ifs1, 0⟩] scope pos) 1 it acc env) R s)
    (h : wpAny (model prog w) A (pyIter it) (fun it' z => codeAny (model prog w) A (.compLoop (.DictComp kx vx [⟨t0, i0, ifs0, 0⟩, ⟨t1, i1, ifs1, 0⟩] scope pos) 1 it' acc env) R z) (NBy prog w A R env) s) :
    codeAny (model prog w) A (.compStart (.DictComp kx vx [⟨t0, i0, ifs0, 0⟩, ⟨t1, i1, ifs1, 0⟩] scope pos) 1 it acc env) R s := by
  refine codeAny_of_tree ?_
  show wpAny _ _ ((compStart _ 1 it acc env).onRaise (fun x => do noteFrame x env; standAt theWindowsPlace)) _ _ s
  refine wpAny_notedAt ?_; unfold compStart
  show wpAny _ _ (ask >>= _) _ _ s
  refine wpAny_bind (wpAny_askSetting (wpAny_ite ?_)); split
  · first | exact wpAny_bind (wpAny_pure (wpAny_pure (And.intro rfl h0))) | exact wpAny_pure (And.intro rfl h0)
  · first
      | exact wpAny_bind (wpAny_rule (wpAny_bind (wpAny_standAt (wpAny_bind (mv h fun it' z q => wpAny_pure (And.intro rfl q))))))
      | (refine wpAny_bind (wpAny_rule ?_); show wpAny _ _ (standAt i1.pos >>= _) _ _ s; exact wpAny_bind (wpAny_standAt (wpAny_bind (mv h fun it' z q => wpAny_pure (And.intro rfl q)))))
end
end Wk

set_option maxRecDepth 100000
set_option maxHeartbeats 2000000
/-! WkC2: the block of a dict comprehension (printed by gen_wkc.py). -/
namespace Wk
open PySem PySem.Spec PyProof.Rows L2
variable [pw : PrW]

section
variable {X : Cx}
/-- D[y] = z, in X or a block of it -/
def PutR (X : Cx) (D : Addr) (y z : V) (H : Hp) (Nx : Hp → Prop) : Prop := ∀ (Y : Cx), Y.prog = X.prog → Y.w = X.w → Y.mg = X.mg → Y.A = X.A → Y.K = X.K → ∀ (pins : List (Addr × Obj)) (σ : L2.St) (s : Shared) (a b : Value) (Q : Unit → Shared → Prop) (E : Value → Shared → Prop), L2.Inv Y pins σ H s → L2.RelV y a → L2.RelV z b →
  (∀ H' s', L2.Inv Y pins σ H' s' → Nx H' → Q () s') → wpAny (model Y.prog Y.w) Y.A (dictSet D a b) Q E s
/-- key, value, put -/
def tEm (X : Cx) (D : Addr) (tk tv : TE) (Nx : Hp → Prop) : L2.St → Hp → Prop := fun σ H => tk σ H fun y H4 => tv σ H4 fun z H5 => PutR X D y z H5 Nx
def tD1 (X : Cx) (wi : TI) (g : TG) (tt : TT) (tk tv : TE) (vs : List Nat) : TE := fun σ H Q => wi σ H fun J H1 => ∀ D, H1 D = none → ∃ Wd : Nat → Nat → Hp → Prop, (∃ m, Wd 0 m (upd H1 D (.dK []))) ∧ ∀ i m H, Wd i m H →
  (J.stop i H ∧ Q (.ref D) H) ∨ (J.go i H ∧ ∃ Nx : Hp → Prop, (∀ H', Nx H' → ∃ m', m' < m ∧ Wd (i + 1) m' H') ∧ ∀ x H', J.yld i H x H' → g x (wipe σ vs) H' fun σ2 H2 => wipe σ2 vs = wipe σ vs ∧ tt σ2 H2 fun b H3 => if b = true then tEm X D tk tv Nx σ2 H3 else Nx H3)
def tD2 (X : Cx) (wi : TI) (g : TG) (tt : TT) (wi1 : TI) (g1 : TG) (tt1 : TT) (tk tv : TE) (vs vs1 : List Nat) : TE := fun σ H Q => wi σ H fun J H1 => ∀ D, H1 D = none → ∃ Wd : Nat → Nat → Hp → Prop, (∃ m, Wd 0 m (upd H1 D (.dK []))) ∧ ∀ i m H, Wd i m H →
  (J.stop i H ∧ Q (.ref D) H) ∨ (J.go i H ∧ ∃ Nx : Hp → Prop, (∀ H', Nx H' → ∃ m', m' < m ∧ Wd (i + 1) m' H') ∧ ∀ x H', J.yld i H x H' → g x (wipe σ vs) H' fun σ2 H2 => wipe σ2 vs = wipe σ vs ∧ tt σ2 H2 fun b H3 =>
    if b = true then wi1 σ2 H3 fun J1 H4 => ∃ W1 : Nat → Nat → Hp → Prop, (∃ m, W1 0 m H4) ∧ ∀ j k H, W1 j k H → (J1.stop j H ∧ Nx H) ∨ (J1.go j H ∧ ∃ Nx1 : Hp → Prop, (∀ H', Nx1 H' → ∃ k', k' < k ∧ W1 (j + 1) k' H') ∧
      ∀ x H', J1.yld j H x H' → g1 x (wipe σ2 vs1) H' fun σ3 H5 => wipe σ3 vs1 = wipe σ2 vs1 ∧ tt1 σ3 H5 fun b H6 => if b = true then tEm X D tk tv Nx1 σ3 H6 else Nx1 H6) else Nx H3)
theorem dc1_core {use : Option (Value → Sem Unit)} {Qf : Value → Shared → Prop} {pos1 : Pos} {pins : List (Addr × Obj)} {s : Shared} {σ : L2.St} {H : Hp} {Q : VK} {kx vx tg iter : Expr} {ifs : List Expr} {scope : Scope} {own : List (Str × Nat)} {pos : Pos} {wi : TI} {g : TG} {tt : TT} {tk tv : TE}
    (hc : X.calm = true) (hN : X.N.Nodup) (I : L2.Inv X pins σ H s) (hi : PI X tg iter wi) (ok : BlkOk X.N X.env.scope scope own)
    (hg : ∀ (z : Shared) (U : Hp) (Cb : Addr) (cl : List (Str × Addr)) (fp : List Addr), PG (X.blk z U scope (compEnvC scope cl Cb X.env) fp) tg g) (ht : ∀ (z : Shared) (U : Hp) (Cb : Addr) (cl : List (Str × Addr)) (fp : List Addr), PTs (X.blk z U scope (compEnvC scope cl Cb X.env) fp) ifs tt) (hk : ∀ (z : Shared) (U : Hp) (Cb : Addr) (cl : List (Str × Addr)) (fp : List Addr), PE (X.blk z U scope (compEnvC scope cl Cb X.env) fp) kx tk) (he : ∀ (z : Shared) (U : Hp) (Cb : Addr) (cl : List (Str × Addr)) (fp : List Addr), PE (X.blk z U scope (compEnvC scope cl Cb X.env) fp) vx tv) (hs : ∀ x, foldedSetIterable iter X.env x = pure x)
    (h : tD1 X wi g tt tk tv (own.map (·.2)) σ H Q)
    (back : ∀ D Cb z m U, L2.Inv X pins σ U z → Q (.ref D) U → z.heap.Ns Cb m → FpOk X pins U Cb → compPost (model X.prog X.w) X.A X.xe use Qf (.ref D) Cb (.ok .next) z) :
    wpAny (model X.prog X.w) X.A (comprehension (.DictComp kx vx [⟨tg, iter, ifs, 0⟩] scope pos) scope X.env pos1 newDict false (eval iter X.env) use) Qf X.xe s := by
  have frees : ∀ y ∈ scope.names, y.2 = .free → ∃ c, X.env.cells.lookup y.1 = some c := fun y hy e => (ok.free y hy e).elim (fun k => I.ok.has _ (.inl k)) fun k => I.ok.has _ (.inr k)
  refine wpAny_comprehension_free (use := use) rfl hs (closure_ok frees) ok.kind (fun y hy e => by rw [ok.uniq y hy, e]) (thn (hi.run pins s σ H _ I h) fun xv z1 hx => thn hx fun itv z2 h2 => ?_)
  obtain ⟨it, fp, tn, J, U2, e, I2, T, st2, f2, q⟩ := h2; subst e
  refine wpAny_newObj_type (newEnv_comp ?_)
  generalize hD : z2.heap.objs.size = D
  have hDn : U2 D = none := I2.hok.fresh (Nat.le_of_eq hD)
  obtain ⟨Wd, ⟨m0, w0⟩, turn⟩ := q D hDn
  generalize hs3 : ({ z2 with heap := z2.heap.push { cls := .type "dict", data := .dict #[] } } : Shared) = z3
  have I3 : L2.Inv X pins σ (upd U2 D (.dK [])) z3 := by
    rw [← hs3]; refine I2.laid (t' := z2.toks) (fun b o e => Heap.get?_push_of_some _ e) (Nat.le_of_eq hD) ?_
    rw [← hD]; exact dk_empty z2.heap I2.big
  have h3 : z3.heap = z2.heap.push { cls := .type "dict", data := .dict #[] } := by rw [← hs3]
  have below : ∀ b ∈ fp, b < z2.heap.objs.size := fun b hb => let ⟨o, e, _⟩ := T.obj _ _ st2 b hb; Heap.lt_size e
  have f3 : ∀ b ∈ fp, FpOk X pins (upd U2 D (.dK [])) b ∧ b < z3.heap.objs.size := fun b hb => by
    have hlt := below b hb
    refine ⟨⟨(upd_ne (by rw [← hD]; exact Nat.ne_of_lt hlt)).trans (f2 b hb).1, (f2 b hb).2⟩, by rw [h3, Heap.size_push]; exact Nat.lt_succ_of_lt hlt⟩
  have st3 : tn 0 z3.heap := T.keep _ _ _ st2 fun b _ o e => by rw [h3]; exact Heap.get?_push_of_some _ e
  have I4 := block_start I3 ok hN f3
  generalize hU3 : upd U2 D (.dK []) = U3 at I3 I4 w0 f3
  generalize hcl : cellsFrom (z3.heap.objs.size + 1) scope.names (cloFrom X.env.cells scope.names []) = cl at I4
  have pg := hg z3 U3 z3.heap.objs.size cl fp; have pt := ht z3 U3 z3.heap.objs.size cl fp; have pk := hk z3 U3 z3.heap.objs.size cl fp; have pv := he z3 U3 z3.heap.objs.size cl fp
  show codeAny _ _ (.compStart (.DictComp kx vx [⟨tg, iter, ifs, 0⟩] scope pos) 0 (.ref it) (.ref D) (compEnvC scope cl z3.heap.objs.size X.env)) (compPost (model X.prog X.w) X.A X.xe use Qf (.ref D) z3.heap.objs.size) { z3 with heap := pushCells (z3.heap.push { cls := .type "dict", data := .dict #[] }) scope.names }
  have nfp : ∀ b ∈ fp, U3 b = none := fun b hb => (f3 b hb).1.1
  generalize hce : compEnvC scope cl z3.heap.objs.size X.env = ce at I4 pg pt pk pv ⊢
  have cL : ce.locals = z3.heap.objs.size := by subst hce; rfl
  generalize hs4 : ({ z3 with heap := pushCells (z3.heap.push { cls := .type "dict", data := .dict #[] }) scope.names } : Shared) = z4 at I4 ⊢
  have st4 : tn 0 z4.heap := T.keep _ _ _ st3 fun b _ o e => by rw [← hs4]; exact pushCells_keeps _ _ _ _ (Heap.get?_push_of_some _ e)
  have stat : ∀ {τ : L2.St} {U : Hp} {z : Shared}, L2.Inv (X.blk z3 U3 scope ce fp) [] τ U z → (∀ b ∈ fp, U b = none) → ∀ b ∈ fp, FpOk (X.blk z3 U3 scope ce fp) [] U b := fun J hn b hb =>
    ⟨hn b hb, (J.ok.exf b hb).1, J.ok.exfs b hb, .inl hb, fun x c e => (J.ok.exf b hb).2 x c e, fun p hp => absurd (show p ∈ ([] : List (Addr × Obj)) ++ [] from hp) (by simp)⟩
  -- the first clause's state
  let SI : Nat → Shared → Prop := fun n z => ∃ i U, L2.Inv (X.blk z3 U3 scope ce fp) [] (wipe σ (own.map (·.2))) U z ∧ tn i z.heap ∧ (∀ b ∈ fp, U b = none) ∧ Wd i n U
  have loop : codeAny (model X.prog X.w) X.A (.compLoop (.DictComp kx vx [⟨tg, iter, ifs, 0⟩] scope pos) 0 (.ref it) (.ref D) ce) (compPost (model X.prog X.w) X.A X.xe use Qf (.ref D) z3.heap.objs.size) z4 := by
    refine loopD_1 SI ?_ m0 ⟨0, U3, I4, st4, nfp, w0⟩
    rintro n z5 ⟨i, U5, I5, st5, n5, w5⟩
    show wpAny _ _ _ _ _ _
    rcases turn i n U5 w5 with ⟨stop, qq⟩ | ⟨go, Nx, hNx, step⟩
    · refine thnF (T.done (X.blk z3 U3 scope ce fp) rfl rfl rfl hc i [] z5 _ U5 (fun _ _ => False) I5 (stat I5 n5) st5 stop) fun r z6 ⟨hr, I6⟩ => ?_
      subst hr
      have I7 : L2.Inv X pins σ U5 z6 := I3.call' (ch := fp) I6.os I6.base I6.hok I6.bare fun b hb => let w := (f3 b hb).1; ⟨w.2.2.2.1, w.2.1, w.2.2.2.2.1, w.2.2.2.2.2⟩
      have nC : U5 z3.heap.objs.size = none := by rw [← cL]; exact I6.free
      obtain ⟨m, hn, _⟩ := I6.loc
      exact back D z3.heap.objs.size z6 m U5 I7 qq (by rw [← cL]; exact hn) (I3.fpOk (Nat.le_refl _) nC)
    · refine thnF (T.item (X.blk z3 U3 scope ce fp) rfl rfl rfl hc i [] z5 _ U5 (fun _ _ => False) I5 (stat I5 n5) st5 go) fun r z6 ⟨u, hr, h6⟩ => ?_
      subst hr
      refine thnF h6 fun _ z7 ⟨x, U7, I7, r7, y7, st7, n7⟩ => ?_
      have I7' := I7.pinned (stat I7 n7) (T.obj _ _ st7)
      refine thnF (pg.run _ z7 _ U7 x u _ I7' r7 (step x U7 y7)) fun _ z8 ⟨σ8, U8, I8, hw8, q8⟩ => thnF (pt.run _ z8 σ8 U8 _ I8 q8) fun b z9 ⟨U9, I9, q9⟩ => ?_
      have fin : ∀ {σ9 : L2.St} {z : Shared} {U : Hp}, L2.Inv (X.blk z3 U3 scope ce fp) ([] ++ pinsAt fp z7.heap) σ9 U z → (wipe σ (own.map (·.2))).length = σ9.length → (∀ (j : Nat) v, (wipe σ (own.map (·.2)))[j]? = some (some v) → σ9[j]? = some (some v)) → Nx U → ∃ m, m < n ∧ SI m z := fun {σ9 z U} J hl hk nx => by
        obtain ⟨m', hm, w'⟩ := hNx U nx
        have pin' : ∀ b ∈ fp, ∀ o, z7.heap.get? b = some o → z.heap.get? b = some o ∧ U b = none := fun b hb o e => let w := J.pin (b, o) (List.mem_append_right _ (List.mem_append_right _ (mem_pinsAt hb e))); ⟨w.1, w.2.1⟩
        refine ⟨m', hm, i + 1, U, (J.unpinned (pins := [])).weak hl hk, T.keep _ _ _ st7 fun b hb o e => (pin' b hb o e).1, fun b hb => ?_, w'⟩
        obtain ⟨o, e, _⟩ := T.obj _ _ st7 b hb; exact (pin' b hb o e).2
      have hl8 : (wipe σ (own.map (·.2))).length = σ8.length := by rw [← hw8, wipe_length]
      have hk8 : ∀ (j : Nat) v, (wipe σ (own.map (·.2)))[j]? = some (some v) → σ8[j]? = some (some v) := fun j v e => by rw [← hw8] at e; exact (wipe_some e).1
      cases b with
      | false => exact fin I9 hl8 hk8 q9
      | true =>
        have q9 : tEm X D tk tv Nx σ8 U9 := q9
        show wpAny _ _ _ _ _ _
        refine thnF (pk.run _ z9 σ8 U9 _ I9 q9) fun a z10 ⟨yk, U10, I10, r10, q10⟩ => thnF (pv.run _ z10 σ8 U10 _ I10 q10) fun c z11 ⟨yv, U11, I11, r11, q11⟩ => ?_
        exact q11 (X.blk z3 U3 scope ce fp) rfl rfl rfl rfl rfl _ _ _ _ _ _ _ I11 r10 r11 fun U12 z12 I12 nx => fin I12 hl8 hk8 nx
  exact codeAny_compStart_dict loop (T.self X.A 0 _ _ _ st4 loop)
theorem dc2_core {use : Option (Value → Sem Unit)} {Qf : Value → Shared → Prop} {pos1 : Pos} {pins : List (Addr × Obj)} {s : Shared} {σ : L2.St} {H : Hp} {Q : VK} {kx vx tg iter tg1 iter1 : Expr} {ifs ifs1 : List Expr} {scope : Scope} {own : List (Str × Nat)} {pos : Pos} {wi wi1 : TI} {g g1 : TG} {tt tt1 : TT} {tk tv : TE} {vs1 : List Nat}
    (hc : X.calm = true) (hN : X.N.Nodup) (I : L2.Inv X pins σ H s) (hi : PI X tg iter wi) (ok : BlkOk X.N X.env.scope scope own) (hv : ∀ i ∈ vs1, i ∈ own.map (·.2))
    (hg : ∀ (z : Shared) (U : Hp) (Cb : Addr) (cl : List (Str × Addr)) (fp : List Addr), PG (X.blk z U scope (compEnvC scope cl Cb X.env) fp) tg g) (ht : ∀ (z : Shared) (U : Hp) (Cb : Addr) (cl : List (Str × Addr)) (fp : List Addr), PTs (X.blk z U scope (compEnvC scope cl Cb X.env) fp) ifs tt) (hk : ∀ (z : Shared) (U : Hp) (Cb : Addr) (cl : List (Str × Addr)) (fp : List Addr), PE (X.blk z U scope (compEnvC scope cl Cb X.env) fp) kx tk) (he : ∀ (z : Shared) (U : Hp) (Cb : Addr) (cl : List (Str × Addr)) (fp : List Addr), PE (X.blk z U scope (compEnvC scope cl Cb X.env) fp) vx tv) (hs : ∀ x, foldedSetIterable iter X.env x = pure x)
    (hi1 : ∀ (z : Shared) (U : Hp) (Cb : Addr) (cl : List (Str × Addr)) (fp : List Addr), PI (X.blk z U scope (compEnvC scope cl Cb X.env) fp) tg1 iter1 wi1) (hg1 : ∀ (z : Shared) (U : Hp) (Cb : Addr) (cl : List (Str × Addr)) (fp : List Addr), PG (X.blk z U scope (compEnvC scope cl Cb X.env) fp) tg1 g1) (ht1 : ∀ (z : Shared) (U : Hp) (Cb : Addr) (cl : List (Str × Addr)) (fp : List Addr), PTs (X.blk z U scope (compEnvC scope cl Cb X.env) fp) ifs1 tt1) (hs1 : ∀ env x, foldedSetIterable iter1 env x = pure x)
    (h : tD2 X wi g tt wi1 g1 tt1 tk tv (own.map (·.2)) vs1 σ H Q)
    (back : ∀ D Cb z m U, L2.Inv X pins σ U z → Q (.ref D) U → z.heap.Ns Cb m → FpOk X pins U Cb → compPost (model X.prog X.w) X.A X.xe use Qf (.ref D) Cb (.ok .next) z) :
    wpAny (model X.prog X.w) X.A (comprehension (.DictComp kx vx [⟨tg, iter, ifs, 0⟩, ⟨tg1, iter1, ifs1, 0⟩] scope pos) scope X.env pos1 newDict false (eval iter X.env) use) Qf X.xe s := by
  have frees : ∀ y ∈ scope.names, y.2 = .free → ∃ c, X.env.cells.lookup y.1 = some c := fun y hy e => (ok.free y hy e).elim (fun k => I.ok.has _ (.inl k)) fun k => I.ok.has _ (.inr k)
  refine wpAny_comprehension_free (use := use) rfl hs (closure_ok frees) ok.kind (fun y hy e => by rw [ok.uniq y hy, e]) (thn (hi.run pins s σ H _ I h) fun xv z1 hx => thn hx fun itv z2 h2 => ?_)
  obtain ⟨it, fp, tn, J, U2, e, I2, T, st2, f2, q⟩ := h2; subst e
  refine wpAny_newObj_type (newEnv_comp ?_)
  generalize hD : z2.heap.objs.size = D
  have hDn : U2 D = none := I2.hok.fresh (Nat.le_of_eq hD)
  obtain ⟨Wd, ⟨m0, w0⟩, turn⟩ := q D hDn
  generalize hs3 : ({ z2 with heap := z2.heap.push { cls := .type "dict", data := .dict #[] } } : Shared) = z3
  have I3 : L2.Inv X pins σ (upd U2 D (.dK [])) z3 := by
    rw [← hs3]; refine I2.laid (t' := z2.toks) (fun b o e => Heap.get?_push_of_some _ e) (Nat.le_of_eq hD) ?_
    rw [← hD]; exact dk_empty z2.heap I2.big
  have h3 : z3.heap = z2.heap.push { cls := .type "dict", data := .dict #[] } := by rw [← hs3]
  have below : ∀ b ∈ fp, b < z2.heap.objs.size := fun b hb => let ⟨o, e, _⟩ := T.obj _ _ st2 b hb; Heap.lt_size e
  have f3 : ∀ b ∈ fp, FpOk X pins (upd U2 D (.dK [])) b ∧ b < z3.heap.objs.size := fun b hb => by
    have hlt := below b hb
    refine ⟨⟨(upd_ne (by rw [← hD]; exact Nat.ne_of_lt hlt)).trans (f2 b hb).1, (f2 b hb).2⟩, by rw [h3, Heap.size_push]; exact Nat.lt_succ_of_lt hlt⟩
  have st3 : tn 0 z3.heap := T.keep _ _ _ st2 fun b _ o e => by rw [h3]; exact Heap.get?_push_of_some _ e
  have I4 := block_start I3 ok hN f3
  generalize hU3 : upd U2 D (.dK []) = U3 at I3 I4 w0 f3
  generalize hcl : cellsFrom (z3.heap.objs.size + 1) scope.names (cloFrom X.env.cells scope.names []) = cl at I4
  have pg := hg z3 U3 z3.heap.objs.size cl fp; have pt := ht z3 U3 z3.heap.objs.size cl fp; have pk := hk z3 U3 z3.heap.objs.size cl fp; have pv := he z3 U3 z3.heap.objs.size cl fp
  have pi1 := hi1 z3 U3 z3.heap.objs.size cl fp; have pg1 := hg1 z3 U3 z3.heap.objs.size cl fp; have pt1 := ht1 z3 U3 z3.heap.objs.size cl fp
  show codeAny _ _ (.compStart (.DictComp kx vx [⟨tg, iter, ifs, 0⟩, ⟨tg1, iter1, ifs1, 0⟩] scope pos) 0 (.ref it) (.ref D) (compEnvC scope cl z3.heap.objs.size X.env)) (compPost (model X.prog X.w) X.A X.xe use Qf (.ref D) z3.heap.objs.size) { z3 with heap := pushCells (z3.heap.push { cls := .type "dict", data := .dict #[] }) scope.names }
  have nfp : ∀ b ∈ fp, U3 b = none := fun b hb => (f3 b hb).1.1
  generalize hce : compEnvC scope cl z3.heap.objs.size X.env = ce at I4 pg pt pk pv pi1 pg1 pt1 ⊢
  have cL : ce.locals = z3.heap.objs.size := by subst hce; rfl
  generalize hs4 : ({ z3 with heap := pushCells (z3.heap.push { cls := .type "dict", data := .dict #[] }) scope.names } : Shared) = z4 at I4 ⊢
  have st4 : tn 0 z4.heap := T.keep _ _ _ st3 fun b _ o e => by rw [← hs4]; exact pushCells_keeps _ _ _ _ (Heap.get?_push_of_some _ e)
  have stat : ∀ {τ : L2.St} {U : Hp} {z : Shared}, L2.Inv (X.blk z3 U3 scope ce fp) [] τ U z → (∀ b ∈ fp, U b = none) → ∀ b ∈ fp, FpOk (X.blk z3 U3 scope ce fp) [] U b := fun J hn b hb =>
    ⟨hn b hb, (J.ok.exf b hb).1, J.ok.exfs b hb, .inl hb, fun x c e => (J.ok.exf b hb).2 x c e, fun p hp => absurd (show p ∈ ([] : List (Addr × Obj)) ++ [] from hp) (by simp)⟩
  -- the first clause's state
  let SI : Nat → Shared → Prop := fun n z => ∃ i U, L2.Inv (X.blk z3 U3 scope ce fp) [] (wipe σ (own.map (·.2))) U z ∧ tn i z.heap ∧ (∀ b ∈ fp, U b = none) ∧ Wd i n U
  have loop : codeAny (model X.prog X.w) X.A (.compLoop (.DictComp kx vx [⟨tg, iter, ifs, 0⟩, ⟨tg1, iter1, ifs1, 0⟩] scope pos) 0 (.ref it) (.ref D) ce) (compPost (model X.prog X.w) X.A X.xe use Qf (.ref D) z3.heap.objs.size) z4 := by
    refine loopD_out (hs1 ce) SI ?_ m0 ⟨0, U3, I4, st4, nfp, w0⟩
    rintro n z5 ⟨i, U5, I5, st5, n5, w5⟩
    show wpAny _ _ _ _ _ _
    rcases turn i n U5 w5 with ⟨stop, qq⟩ | ⟨go, Nx, hNx, step⟩
    · refine thnF (T.done (X.blk z3 U3 scope ce fp) rfl rfl rfl hc i [] z5 _ U5 (fun _ _ => False) I5 (stat I5 n5) st5 stop) fun r z6 ⟨hr, I6⟩ => ?_
      subst hr
      have I7 : L2.Inv X pins σ U5 z6 := I3.call' (ch := fp) I6.os I6.base I6.hok I6.bare fun b hb => let w := (f3 b hb).1; ⟨w.2.2.2.1, w.2.1, w.2.2.2.2.1, w.2.2.2.2.2⟩
      have nC : U5 z3.heap.objs.size = none := by rw [← cL]; exact I6.free
      obtain ⟨m, hn, _⟩ := I6.loc
      exact back D z3.heap.objs.size z6 m U5 I7 qq (by rw [← cL]; exact hn) (I3.fpOk (Nat.le_refl _) nC)
    · refine thnF (T.item (X.blk z3 U3 scope ce fp) rfl rfl rfl hc i [] z5 _ U5 (fun _ _ => False) I5 (stat I5 n5) st5 go) fun r z6 ⟨u, hr, h6⟩ => ?_
      subst hr
      refine thnF h6 fun _ z7 ⟨x, U7, I7, r7, y7, st7, n7⟩ => ?_
      have I7' := I7.pinned (stat I7 n7) (T.obj _ _ st7)
      refine thnF (pg.run _ z7 _ U7 x u _ I7' r7 (step x U7 y7)) fun _ z8 ⟨σ8, U8, I8, hw8, q8⟩ => thnF (pt.run _ z8 σ8 U8 _ I8 q8) fun b z9 ⟨U9, I9, q9⟩ => ?_
      have fin : ∀ {σ9 : L2.St} {z : Shared} {U : Hp}, L2.Inv (X.blk z3 U3 scope ce fp) ([] ++ pinsAt fp z7.heap) σ9 U z → (wipe σ (own.map (·.2))).length = σ9.length → (∀ (j : Nat) v, (wipe σ (own.map (·.2)))[j]? = some (some v) → σ9[j]? = some (some v)) → Nx U → ∃ m, m < n ∧ SI m z := fun {σ9 z U} J hl hk nx => by
        obtain ⟨m', hm, w'⟩ := hNx U nx
        have pin' : ∀ b ∈ fp, ∀ o, z7.heap.get? b = some o → z.heap.get? b = some o ∧ U b = none := fun b hb o e => let w := J.pin (b, o) (List.mem_append_right _ (List.mem_append_right _ (mem_pinsAt hb e))); ⟨w.1, w.2.1⟩
        refine ⟨m', hm, i + 1, U, (J.unpinned (pins := [])).weak hl hk, T.keep _ _ _ st7 fun b hb o e => (pin' b hb o e).1, fun b hb => ?_, w'⟩
        obtain ⟨o, e, _⟩ := T.obj _ _ st7 b hb; exact (pin' b hb o e).2
      have hl8 : (wipe σ (own.map (·.2))).length = σ8.length := by rw [← hw8, wipe_length]
      have hk8 : ∀ (j : Nat) v, (wipe σ (own.map (·.2)))[j]? = some (some v) → σ8[j]? = some (some v) := fun j v e => by rw [← hw8] at e; exact (wipe_some e).1
      cases b with
      | false => exact fin I9 hl8 hk8 q9
      | true =>
        simp only [if_true] at q9
        have hk9 : ∀ (j : Nat) v, (wipe σ (own.map (·.2)))[j]? = some (some v) → (wipe σ8 vs1)[j]? = some (some v) := fun j v e => by
          rw [← hw8] at e; obtain ⟨e1, e2⟩ := wipe_some e
          rw [Wk.wipe_out fun w => e2 (hv j w)]; exact e1
        show wpAny _ _ _ _ _ _
        refine thnF (pi1.run _ z9 σ8 U9 _ I9 q9) fun xv z10 hx => thnF hx fun itv z11 h11 => ?_
        obtain ⟨it1, fp1, tn1, J1, U11, e1, I11, T1, st11, f11, W1, ⟨m1, w1⟩, turn1⟩ := h11; subst e1
        have stat1 : ∀ {U : Hp}, (∀ b ∈ fp1, U b = none) → ∀ b ∈ fp1, FpOk (X.blk z3 U3 scope ce fp) ([] ++ pinsAt fp z7.heap) U b := fun hn b hb => ⟨hn b hb, (f11 b hb).2⟩
        let SI1 : Nat → Shared → Prop := fun k z => ∃ j U, L2.Inv (X.blk z3 U3 scope ce fp) ([] ++ pinsAt fp z7.heap) (wipe σ8 vs1) U z ∧ tn1 j z.heap ∧ (∀ b ∈ fp1, U b = none) ∧ W1 j k U
        have loop1 : codeAny (model X.prog X.w) X.A (.compLoop (.DictComp kx vx [⟨tg, iter, ifs, 0⟩, ⟨tg1, iter1, ifs1, 0⟩] scope pos) 1 (.ref it1) (.ref D) ce) (InnD fun z => ∃ m, m < n ∧ SI m z) z11 := by
          refine loopD_in SI1 ?_ m1 ⟨0, U11, I11.weak (wipe_length _ _) (fun j v e => (wipe_some e).1), st11, fun b hb => (f11 b hb).1, w1⟩
          rintro k z12 ⟨j, U12, I12, st12, n12, w12⟩
          show wpAny _ _ _ _ _ _
          rcases turn1 j k U12 w12 with ⟨stop1, nx1⟩ | ⟨go1, Nx1, hNx1, step1⟩
          · refine thnF (T1.done (X.blk z3 U3 scope ce fp) rfl rfl rfl hc j _ z12 (wipe σ8 vs1) U12 (fun _ _ => False) I12 (stat1 n12) st12 stop1) fun r z13 ⟨hr, I13⟩ => ?_
            subst hr
            exact fin I13 (hl8.trans (wipe_length σ8 vs1).symm) hk9 nx1
          · refine thnF (T1.item (X.blk z3 U3 scope ce fp) rfl rfl rfl hc j _ z12 (wipe σ8 vs1) U12 (fun _ _ => False) I12 (stat1 n12) st12 go1) fun r z13 ⟨u1, hr, h13⟩ => ?_
            subst hr
            refine thnF h13 fun _ z14 ⟨x1, U14, I14, r14, y14, st14, n14⟩ => ?_
            have I14' := I14.pinned (stat1 n14) (T1.obj _ _ st14)
            refine thnF (pg1.run _ z14 (wipe σ8 vs1) U14 x1 u1 _ I14' r14 (step1 x1 U14 y14)) fun _ z15 ⟨σ15, U15, I15, hw15, q15⟩ => thnF (pt1.run _ z15 σ15 U15 _ I15 q15) fun b1 z16 ⟨U16, I16, q16⟩ => ?_
            have fin1 : ∀ {z : Shared} {U : Hp}, L2.Inv (X.blk z3 U3 scope ce fp) (([] ++ pinsAt fp z7.heap) ++ pinsAt fp1 z14.heap) σ15 U z → Nx1 U → ∃ m, m < k ∧ SI1 m z := fun {z U} J nx => by
              obtain ⟨m', hm, w'⟩ := hNx1 U nx
              have pin' : ∀ b ∈ fp1, ∀ o, z14.heap.get? b = some o → z.heap.get? b = some o ∧ U b = none := fun b hb o e => let w := J.pin (b, o) (List.mem_append_right _ (List.mem_append_right _ (mem_pinsAt hb e))); ⟨w.1, w.2.1⟩
              refine ⟨m', hm, j + 1, U, J.unpinned.weak (by rw [← hw15, wipe_length]) (fun j v e => by rw [← hw15] at e; exact (wipe_some e).1), T1.keep _ _ _ st14 fun b hb o e => (pin' b hb o e).1, fun b hb => ?_, w'⟩
              obtain ⟨o, e, _⟩ := T1.obj _ _ st14 b hb; exact (pin' b hb o e).2
            cases b1 with
            | false => exact fin1 I16 q16
            | true =>
              have q16 : tEm X D tk tv Nx1 σ15 U16 := q16
              show wpAny _ _ _ _ _ _
              refine thnF (pk.run _ z16 σ15 U16 _ I16 q16) fun a z17 ⟨yk, U17, I17, r17, q17⟩ => thnF (pv.run _ z17 σ15 U17 _ I17 q17) fun c z18 ⟨yv, U18, I18, r18, q18⟩ => ?_
              exact q18 (X.blk z3 U3 scope ce fp) rfl rfl rfl rfl rfl _ _ _ _ _ _ _ I18 r17 r18 fun U19 z19 I19 nx => fin1 I19 nx
        exact startD_1 loop1 (T1.self X.A 0 _ _ _ st11 loop1)
  exact codeAny_compStart_dict loop (T.self X.A 0 _ _ _ st4 loop)
theorem dc1_block {pins : List (Addr × Obj)} {s : Shared} {σ : L2.St} {H : Hp} {Q : VK} {kx vx tg iter : Expr} {ifs : List Expr} {scope : Scope} {own : List (Str × Nat)} {pos : Pos} {wi : TI} {g : TG} {tt : TT} {tk tv : TE} (hc : X.calm = true) (hN : X.N.Nodup) (I : L2.Inv X pins σ H s) (hi : PI X tg iter wi) (ok : BlkOk X.N X.env.scope scope own)
    (hg : ∀ (z : Shared) (U : Hp) (Cb : Addr) (cl : List (Str × Addr)) (fp : List Addr), PG (X.blk z U scope (compEnvC scope cl Cb X.env) fp) tg g) (ht : ∀ (z : Shared) (U : Hp) (Cb : Addr) (cl : List (Str × Addr)) (fp : List Addr), PTs (X.blk z U scope (compEnvC scope cl Cb X.env) fp) ifs tt) (hk : ∀ (z : Shared) (U : Hp) (Cb : Addr) (cl : List (Str × Addr)) (fp : List Addr), PE (X.blk z U scope (compEnvC scope cl Cb X.env) fp) kx tk) (he : ∀ (z : Shared) (U : Hp) (Cb : Addr) (cl : List (Str × Addr)) (fp : List Addr), PE (X.blk z U scope (compEnvC scope cl Cb X.env) fp) vx tv) (hs : ∀ x, foldedSetIterable iter X.env x = pure x)
    (h : tD1 X wi g tt tk tv (own.map (·.2)) σ H Q) : wpAny (model X.prog X.w) X.A (eval (.DictComp kx vx [⟨tg, iter, ifs, 0⟩] scope pos) X.env) (EP X pins σ Q) X.xe s := by
  rw [arm_eval_DictComp]
  exact dc1_core hc hN I hi ok hg ht hk he hs h fun D Cb z m U J q hn f => ⟨m, hn, fun h2 sb => by
    obtain ⟨f0, f1, f2, f3, f4, f5⟩ := f
    exact ⟨.ref D, U, J.turned (t' := z.toks) (fun b o hb e => (sb.2 b hb).trans e) f0 f1 f3 f4 f5, rfl, q⟩⟩
/-- a name gets the dict, on one line -/
theorem ps_setDc1 {i : Nat} {y : Str} {py spos : Pos} {kx vx tg iter : Expr} {ifs : List Expr} {scope : Scope} {own : List (Str × Nat)} {pos : Pos} {wi : TI} {g : TG} {tt : TT} {tk tv : TE} (hc : X.calm = true) (hN : X.N.Nodup) (hy : X.N[i]? = some y) (hyl : X.env.scope.names.lookup y = some .local)
    (hsw : swapsWith (.DictComp kx vx [⟨tg, iter, ifs, 0⟩] scope pos) (some (.Name y py)) spos.line X.env = pure true) (hi : PI X tg iter wi) (ok : BlkOk X.N X.env.scope scope own)
    (hg : ∀ (z : Shared) (U : Hp) (Cb : Addr) (cl : List (Str × Addr)) (fp : List Addr), PG (X.blk z U scope (compEnvC scope cl Cb X.env) fp) tg g) (ht : ∀ (z : Shared) (U : Hp) (Cb : Addr) (cl : List (Str × Addr)) (fp : List Addr), PTs (X.blk z U scope (compEnvC scope cl Cb X.env) fp) ifs tt) (hk : ∀ (z : Shared) (U : Hp) (Cb : Addr) (cl : List (Str × Addr)) (fp : List Addr), PE (X.blk z U scope (compEnvC scope cl Cb X.env) fp) kx tk) (he : ∀ (z : Shared) (U : Hp) (Cb : Addr) (cl : List (Str × Addr)) (fp : List Addr), PE (X.blk z U scope (compEnvC scope cl Cb X.env) fp) vx tv) (hs : ∀ x, foldedSetIterable iter X.env x = pure x)
 :
    PS X (.Assign [.Name y py] (.DictComp kx vx [⟨tg, iter, ifs, 0⟩] scope pos) spos) (tAsg (tD1 X wi g tt tk tv (own.map (·.2))) (gName i)) := by
  refine ⟨fun pins s σ H D I h => ?_⟩
  rw [exec_Assign_Name_used _ _ _ _ hsw]
  refine wpAny_bind (wpAny_standAt (wpAny_bind ?_))
  show wpAny _ X.A (do let _ ← comprehension (.DictComp kx vx [⟨tg, iter, ifs, 0⟩] scope pos) scope X.env (firstIterPos [⟨tg, iter, ifs, 0⟩] pos) newDict false (eval iter X.env) (some (assign (.Name y py) X.env))) _ _ s
  have h : (tD1 X wi g tt tk tv (own.map (·.2))) σ H (fun x U => gName i x σ U D.nx) := h
  refine wpAny_bind (thn (dc1_core (Qf := fun _ z => SP X pins D .next z) hc hN I hi ok hg ht hk he hs h fun L Cb z m U J q hn f => ?_) fun _ z hq => wpAny_pure (wpAny_pure hq))
  show wpAny _ _ (assign (.Name y py) X.env (.ref L)) _ _ _
  refine wpAny_assign_Name (store_ok2 (v := V.ref L) J hN hy (.inl hyl) rfl (fun z2 J2 ⟨a, sb, ha⟩ => ?_) (.inr hyl))
  obtain ⟨f0, f1, f2, f3, f4, f5⟩ := f
  have ne : Cb ≠ a := ha.elim (fun w => by rw [w]; exact f1) fun w e => f4 y a w e.symm
  exact ⟨m, hn.sameBut sb ne, fun h3 sb3 => ⟨_, U, J2.turned (t' := z2.toks) (fun b o hb e => (sb3.2 b hb).trans e) f0 f1 f3 f4 f5, q⟩⟩
theorem dc2_block {pins : List (Addr × Obj)} {s : Shared} {σ : L2.St} {H : Hp} {Q : VK} {kx vx tg iter tg1 iter1 : Expr} {ifs ifs1 : List Expr} {scope : Scope} {own : List (Str × Nat)} {pos : Pos} {wi wi1 : TI} {g g1 : TG} {tt tt1 : TT} {tk tv : TE} {vs1 : List Nat} (hc : X.calm = true) (hN : X.N.Nodup) (I : L2.Inv X pins σ H s) (hi : PI X tg iter wi) (ok : BlkOk X.N X.env.scope scope own) (hv : ∀ i ∈ vs1, i ∈ own.map (·.2))
    (hg : ∀ (z : Shared) (U : Hp) (Cb : Addr) (cl : List (Str × Addr)) (fp : List Addr), PG (X.blk z U scope (compEnvC scope cl Cb X.env) fp) tg g) (ht : ∀ (z : Shared) (U : Hp) (Cb : Addr) (cl : List (Str × Addr)) (fp : List Addr), PTs (X.blk z U scope (compEnvC scope cl Cb X.env) fp) ifs tt) (hk : ∀ (z : Shared) (U : Hp) (Cb : Addr) (cl : List (Str × Addr)) (fp : List Addr), PE (X.blk z U scope (compEnvC scope cl Cb X.env) fp) kx tk) (he : ∀ (z : Shared) (U : Hp) (Cb : Addr) (cl : List (Str × Addr)) (fp : List Addr), PE (X.blk z U scope (compEnvC scope cl Cb X.env) fp) vx tv) (hs : ∀ x, foldedSetIterable iter X.env x = pure x)
    (hi1 : ∀ (z : Shared) (U : Hp) (Cb : Addr) (cl : List (Str × Addr)) (fp : List Addr), PI (X.blk z U scope (compEnvC scope cl Cb X.env) fp) tg1 iter1 wi1) (hg1 : ∀ (z : Shared) (U : Hp) (Cb : Addr) (cl : List (Str × Addr)) (fp : List Addr), PG (X.blk z U scope (compEnvC scope cl Cb X.env) fp) tg1 g1) (ht1 : ∀ (z : Shared) (U : Hp) (Cb : Addr) (cl : List (Str × Addr)) (fp : List Addr), PTs (X.blk z U scope (compEnvC scope cl Cb X.env) fp) ifs1 tt1) (hs1 : ∀ env x, foldedSetIterable iter1 env x = pure x)
    (h : tD2 X wi g tt wi1 g1 tt1 tk tv (own.map (·.2)) vs1 σ H Q) : wpAny (model X.prog X.w) X.A (eval (.DictComp kx vx [⟨tg, iter, ifs, 0⟩, ⟨tg1, iter1, ifs1, 0⟩] scope pos) X.env) (EP X pins σ Q) X.xe s := by
  rw [arm_eval_DictComp]
  exact dc2_core hc hN I hi ok hv hg ht hk he hs hi1 hg1 ht1 hs1 h fun D Cb z m U J q hn f => ⟨m, hn, fun h2 sb => by
    obtain ⟨f0, f1, f2, f3, f4, f5⟩ := f
    exact ⟨.ref D, U, J.turned (t' := z.toks) (fun b o hb e => (sb.2 b hb).trans e) f0 f1 f3 f4 f5, rfl, q⟩⟩
/-- a name gets the dict, on one line -/
theorem ps_setDc2 {i : Nat} {y : Str} {py spos : Pos} {kx vx tg iter tg1 iter1 : Expr} {ifs ifs1 : List Expr} {scope : Scope} {own : List (Str × Nat)} {pos : Pos} {wi wi1 : TI} {g g1 : TG} {tt tt1 : TT} {tk tv : TE} {vs1 : List Nat} (hc : X.calm = true) (hN : X.N.Nodup) (hy : X.N[i]? = some y) (hyl : X.env.scope.names.lookup y = some .local)
    (hsw : swapsWith (.DictComp kx vx [⟨tg, iter, ifs, 0⟩, ⟨tg1, iter1, ifs1, 0⟩] scope pos) (some (.Name y py)) spos.line X.env = pure true) (hi : PI X tg iter wi) (ok : BlkOk X.N X.env.scope scope own) (hv : ∀ i ∈ vs1, i ∈ own.map (·.2))
    (hg : ∀ (z : Shared) (U : Hp) (Cb : Addr) (cl : List (Str × Addr)) (fp : List Addr), PG (X.blk z U scope (compEnvC scope cl Cb X.env) fp) tg g) (ht : ∀ (z : Shared) (U : Hp) (Cb : Addr) (cl : List (Str × Addr)) (fp : List Addr), PTs (X.blk z U scope (compEnvC scope cl Cb X.env) fp) ifs tt) (hk : ∀ (z : Shared) (U : Hp) (Cb : Addr) (cl : List (Str × Addr)) (fp : List Addr), PE (X.blk z U scope (compEnvC scope cl Cb X.env) fp) kx tk) (he : ∀ (z : Shared) (U : Hp) (Cb : Addr) (cl : List (Str × Addr)) (fp : List Addr), PE (X.blk z U scope (compEnvC scope cl Cb X.env) fp) vx tv) (hs : ∀ x, foldedSetIterable iter X.env x = pure x)
    (hi1 : ∀ (z : Shared) (U : Hp) (Cb : Addr) (cl : List (Str × Addr)) (fp : List Addr), PI (X.blk z U scope (compEnvC scope cl Cb X.env) fp) tg1 iter1 wi1) (hg1 : ∀ (z : Shared) (U : Hp) (Cb : Addr) (cl : List (Str × Addr)) (fp : List Addr), PG (X.blk z U scope (compEnvC scope cl Cb X.env) fp) tg1 g1) (ht1 : ∀ (z : Shared) (U : Hp) (Cb : Addr) (cl : List (Str × Addr)) (fp : List Addr), PTs (X.blk z U scope (compEnvC scope cl Cb X.env) fp) ifs1 tt1) (hs1 : ∀ env x, foldedSetIterable iter1 env x = pure x)
 :
    PS X (.Assign [.Name y py] (.DictComp kx vx [⟨tg, iter, ifs, 0⟩, ⟨tg1, iter1, ifs1, 0⟩] scope pos) spos) (tAsg (tD2 X wi g tt wi1 g1 tt1 tk tv (own.map (·.2)) vs1) (gName i)) := by
  refine ⟨fun pins s σ H D I h => ?_⟩
  rw [exec_Assign_Name_used _ _ _ _ hsw]
  refine wpAny_bind (wpAny_standAt (wpAny_bind ?_))
  show wpAny _ X.A (do let _ ← comprehension (.DictComp kx vx [⟨tg, iter, ifs, 0⟩, ⟨tg1, iter1, ifs1, 0⟩] scope pos) scope X.env (firstIterPos [⟨tg, iter, ifs, 0⟩, ⟨tg1, iter1, ifs1, 0⟩] pos) newDict false (eval iter X.env) (some (assign (.Name y py) X.env))) _ _ s
  have h : (tD2 X wi g tt wi1 g1 tt1 tk tv (own.map (·.2)) vs1) σ H (fun x U => gName i x σ U D.nx) := h
  refine wpAny_bind (thn (dc2_core (Qf := fun _ z => SP X pins D .next z) hc hN I hi ok hv hg ht hk he hs hi1 hg1 ht1 hs1 h fun L Cb z m U J q hn f => ?_) fun _ z hq => wpAny_pure (wpAny_pure hq))
  show wpAny _ _ (assign (.Name y py) X.env (.ref L)) _ _ _
  refine wpAny_assign_Name (store_ok2 (v := V.ref L) J hN hy (.inl hyl) rfl (fun z2 J2 ⟨a, sb, ha⟩ => ?_) (.inr hyl))
  obtain ⟨f0, f1, f2, f3, f4, f5⟩ := f
  have ne : Cb ≠ a := ha.elim (fun w => by rw [w]; exact f1) fun w e => f4 y a w e.symm
  exact ⟨m, hn.sameBut sb ne, fun h3 sb3 => ⟨_, U, J2.turned (t' := z2.toks) (fun b o hb e => (sb3.2 b hb).trans e) f0 f1 f3 f4 f5, q⟩⟩
end
end Wk

set_option maxRecDepth 100000
set_option maxHeartbeats 1000000
/-! WkG: comprehensions of any clauses: what is made stands apart. -/
namespace Wk
open PySem PySem.Spec PyProof.Rows L2
variable [pw : PrW]

section
variable {α β : Type} {st st2 : Store}
omit pw in
theorem bind_inv {m : M α} {f : α → M β} {b : β} (h : (m >>= f) st = some (.ok b st2)) : ∃ a st1, m st = some (.ok a st1) ∧ f a st1 = some (.ok b st2) := by
  have h : M.bind m f st = some (.ok b st2) := h
  unfold M.bind at h
  cases q : m st with
  | none => rw [q] at h; cases h
  | some o =>
    rw [q] at h
    cases o with
    | ex e s => cases h
    | ok a s => exact ⟨a, s, rfl, h⟩
omit pw in
theorem of_inv {o : Option α} {a : α} (h : M.of o st = some (.ok a st2)) : o = some a ∧ st2 = st := by
  cases o with
  | none => cases h
  | some b => cases h; exact ⟨rfl, rfl⟩
omit pw in
theorem rd_inv {f : Store → Option α} {a : α} (h : M.rd f st = some (.ok a st2)) : f st = some a ∧ st2 = st := by
  unfold M.rd at h
  cases q : f st with
  | none => rw [q] at h; cases h
  | some b => rw [q] at h; cases h; exact ⟨rfl, rfl⟩
omit pw in
theorem pure_inv {a b : α} (h : (pure a : M α) st = some (.ok b st2)) : a = b ∧ st2 = st := by
  have h : some (Out.ok a st) = some (.ok b st2) := h
  cases h; exact ⟨rfl, rfl⟩
omit pw in
theorem eachL_inv {f : D → M (List D)} {d : D} {ds ys : List D} (h : eachL f (d :: ds) st = some (.ok ys st2)) : ∃ y st3 ys3, f d st = some (.ok y st3) ∧ eachL f ds st3 = some (.ok ys3 st2) ∧ ys = y ++ ys3 := by
  obtain ⟨y, st3, h1, h⟩ := bind_inv (m := f d) h
  obtain ⟨ys3, st4, h2, h⟩ := bind_inv (m := eachL f ds) h
  obtain ⟨h3, rfl⟩ := pure_inv h
  exact ⟨y, st3, ys3, h1, h2, h3.symm⟩
omit pw in
theorem free1_inv {n : Option Nat} {m : M α} {a : α} (h : free1 n m st = some (.ok a st2)) : lkOf st n = none ∧ m st = some (.ok a st2) := by
  cases n with
  | none => exact ⟨rfl, h⟩
  | some n =>
    unfold free1 at h
    unfold lkOf
    cases q : st[n]? with
    | none => simp only [q] at h; cases h
    | some o =>
      simp only [q] at h
      cases hl : o.locked with
      | false => rw [hl] at h; cases h
      | true => rw [hl] at h; exact ⟨by simp [q, hl], h⟩
end
section
variable {K : PySem.W.Frag} {H H' : Hp} {fb ι ι' : List Addr} {p : Addr}
theorem GrowF.up (g : GrowF [p] ι H ι' H') : GrowF (p :: fb) ι H ι' H' :=
  ⟨g.pre, fun a o h n m => g.keep a o h n fun z => m (by rw [List.mem_singleton.mp z]; exact List.mem_cons_self), g.live, g.frz⟩
theorem GrowF.put {u u' : HO} (h : H p = some u) (m : Mut (some u)) : GrowF [p] ι H ι (upd H p u') := by
  refine ⟨⟨[], by simp, by simp⟩, fun a o e _ n => ?_, fun a o e => ?_, fun a o v e => ?_⟩
  · rw [upd_ne fun z => n (by rw [z]; exact List.mem_cons_self)]; exact e
  · by_cases z : a = p
    · subst z; exact ⟨_, upd_same⟩
    · exact ⟨o, by rw [upd_ne z]; exact e⟩
  · by_cases z : a = p
    · subst z; rw [h] at e; cases e; exact m.elim
    · rw [upd_ne z]; exact e
theorem growF_del {o : HO} (hD : H p = none) (g : GrowF [p] ι (upd H p o) ι' H') : Grow ι H ι' (del H' p) := by
  have ne : ∀ {b u}, H b = some u → b ≠ p := fun e z => by rw [z, hD] at e; cases e
  refine ⟨⟨?_, fun b w e m => ?_⟩, fun b w e => ?_, fun b o' u' e => ?_⟩
  · obtain ⟨new, e, f⟩ := g.pre
    refine ⟨new, e, fun b hb => ?_⟩
    have := f b hb
    by_cases z : b = p
    · subst z; exact hD
    · rw [upd_ne z] at this; exact this
  · rw [del_ne (ne e)]; exact g.keep b w (by rw [upd_ne (ne e)]; exact e) m fun z => ne e (List.mem_singleton.mp z)
  · rw [del_ne (ne e)]; exact g.live b w (by rw [upd_ne (ne e)]; exact e)
  · rw [del_ne (ne e)]; exact g.frz b o' u' (by rw [upd_ne (ne e)]; exact e)
theorem Rels.hide {o : HO} (hD : H p = none) {ds : List D} {xs : List V} (r : Rels K H fb ι ds xs) : Rels K (upd H p o) (p :: fb) ι ds xs :=
  Rels.tr (fun a u e n m => by
    have z : a ≠ p := fun z => by rw [z, hD] at e; cases e
    exact ⟨by rw [upd_ne z]; exact e, n, fun w => (List.mem_cons.mp w).elim z m⟩) (fun _ _ e => e) ds xs r
theorem Rels.bare {ds : List D} {xs : List V} (r : Rels K H (p :: fb) ι ds xs) : Rels K (del H p) fb ι ds xs :=
  Rels.tr (fun a u e n m => by
    have z : a ≠ p := fun z => m (by rw [z]; exact List.mem_cons_self)
    exact ⟨by rw [del_ne z]; exact e, n, fun w => m (List.mem_cons_of_mem _ w)⟩) (fun _ _ e => e) ds xs r
/-- a source beside something new -/
theorem Src.hide {its : List D} {J : It} {u : HO} (hD : H p = none) (h : Src K fb ι H its J) : Src K (p :: fb) ι (upd H p u) its J := by
  obtain ⟨G, Y, w, hG, hY⟩ := h.ex
  have ne : ∀ {b u}, H b = some u → b ≠ p := fun e z => by rw [z, hD] at e; cases e
  have non : ∀ {b}, upd H p u b = none → H b = none := fun {b} e => by
    by_cases z : b = p
    · subst z; exact hD
    · rw [upd_ne z] at e; exact e
  have gg : ∀ {ι' H'}, GrowF (p :: fb) ι (upd H p u) ι' H' → GrowF fb ι H ι' H' := fun {ι' H'} g => by
    refine ⟨?_, fun b w e m n => g.keep b w (by rw [upd_ne (ne e)]; exact e) m fun z => (List.mem_cons.mp z).elim (ne e) n, fun b w e => g.live b w (by rw [upd_ne (ne e)]; exact e), fun b o v e => g.frz b o v (by rw [upd_ne (ne e)]; exact e)⟩
    obtain ⟨new, e, f⟩ := g.pre
    exact ⟨new, e, fun b hb => non (f b hb)⟩
  refine ⟨G, Y, w, fun ι' H' g => hG ι' H' (gg g), fun i x ι' H' H'' st' fb' hl hf g S y => hY i x ι' H' H'' st' fb' hl (fun a m => ?_) (gg g) S y⟩
  rcases hf a m with z | z
  · rcases List.mem_cons.mp z with y | y
    · subst y; exact .inr hD
    · exact .inl y
  · exact .inr (non z)
end
/-- what the new thing holds -/
abbrev PHt := Hp → List Addr → List Addr → List D → HO → Prop
def PHmap (K : PySem.W.Frag) (PH : PHt) : Prop := ∀ {H H' : Hp} {fb fb' ι ι' : List Addr} {done : List D} {u : HO}, (∀ ds xs, Rels K H fb ι ds xs → Rels K H' fb' ι' ds xs) → PH H fb ι done u → PH H' fb' ι' done u
/-- behind so much more -/
def Aft (X : Cx) (fb : List Addr) (p : Addr) (PH : PHt) (ι : List Addr) (H : Hp) (st : Store) (done : List D) (Nx : Hp → Prop) : Prop :=
  ∀ ι' H' u', GrowF [p] ι H ι' H' → RelS X.K H' (p :: fb) ι' st → H' p = some u' → PH H' (p :: fb) ι' done u' → Nx H'
def Body (X : Cx) (fb : List Addr) (p : Addr) (PH : PHt) (okA : List D → Prop) (rest : Env → M (List D)) (Rs : (Hp → Prop) → L2.St → Hp → Prop) : Prop :=
  ∀ (env : Env) (σ : L2.St) (ι : List Addr) (st st3 : Store) (H : Hp) (ys done : List D) (u : HO) (Nx : Hp → Prop), RelE X.K H (p :: fb) ι env σ → RelS X.K H (p :: fb) ι st → H p = some u → PH H (p :: fb) ι done u → rest env st = some (.ok ys st3) → okA (done ++ ys) → Aft X fb p PH ι H st3 (done ++ ys) Nx → Rs Nx σ H
section
variable {X : Cx} {C : Ctx} {fb : List Addr} {p : Addr} {PH : PHt} {okA : List D → Prop} {rest : Env → M (List D)} {Rs : (Hp → Prop) → L2.St → Hp → Prop}
def tstF (C : Ctx) (hi : Bool) (c : Ex) (v : Env) : M Bool := if hi then evE C c v >>= asB else pure true
def gTurn (X : Cx) (C : Ctx) (tg : Tg) (hi : Bool) (c : Ex) (vs : List Nat) (Rs : (Hp → Prop) → L2.St → Hp → Prop) (σ : L2.St) (x : V) (H : Hp) (Nx : Hp → Prop) : Prop :=
  gOf X.K tg x (wipe σ vs) H fun σ2 H2 => wipe σ2 vs = wipe σ vs ∧ tTst X C hi c σ2 H2 fun b H3 => if b = true then Rs Nx σ2 H3 else Nx H3
theorem turn_ok (hB : Body X fb p PH okA rest Rs) (hP : PHmap X.K PH) {tg : Tg} {hi : Bool} {c : Ex} {vs : List Nat} (htg : ∀ i ∈ tgIx tg, i ∈ vs) {env : Env} {σ : L2.St} {d : D} {x : V} {ι : List Addr} {st st3 : Store} {H : Hp} {done ys : List D} {u : HO} {Nx : Hp → Prop}
    (hE : RelE X.K H (p :: fb) ι env σ) (S : RelS X.K H (p :: fb) ι st) (hu : H p = some u) (q : PH H (p :: fb) ι done u) (rd : Rel X.K H (p :: fb) ι d x) (he : itemF (tstF C hi c) rest tg vs env d st = some (.ok ys st3)) (ok : okA (done ++ ys)) (hN : Aft X fb p PH ι H st3 (done ++ ys) Nx) :
    gTurn X C tg hi c vs Rs σ x H Nx := by
  obtain ⟨v, st1, z1, he1⟩ := bind_inv he
  clear he
  obtain ⟨h1, e1⟩ := of_inv z1
  subst e1
  clear z1
  obtain ⟨b, st2, h2, he⟩ := bind_inv he1
  clear he1
  refine tg_ok tg rd hE.wipe h1 fun σ2 hE2 sets => ⟨wipe_sets sets htg, ?_⟩
  have np : p ∉ ι := fun z => S.dj p z List.mem_cons_self
  have els : ∀ {ι2 H2}, Grow ι H ι2 H2 → RelS X.K H2 (p :: fb) ι2 st2 → if b = true then Rs Nx σ2 H2 else Nx H2 := fun {ι2 H2} g S2 => by
    have hu2 : H2 p = some u := g.keep p u hu np
    have q2 : PH H2 (p :: fb) ι2 done u := hP (fun ds xs r => Rels.mono g ds xs r) q
    have g' : GrowF [p] ι H ι2 H2 := g.toF
    cases b with
    | true => exact hB v σ2 ι2 st2 st3 H2 ys done u Nx (hE2.mono g) S2 hu2 q2 he ok fun ι' H' u' g3 => hN ι' H' u' (g'.trans g3)
    | false =>
      obtain ⟨rfl, rfl⟩ := pure_inv he
      exact hN ι2 H2 u g' S2 hu2 (by rw [List.append_nil]; exact q2)
  cases hi with
  | false =>
    obtain ⟨rfl, rfl⟩ := pure_inv (a := true) h2
    exact els Grow.refl S
  | true =>
    have h2 : (evE C c v >>= asB) st1 = some (.ok b st2) := h2
    refine ⟨p :: fb, ι, v, st1, hE2, S, ?_⟩
    rw [h2]
    exact fun ι2 H2 g S2 => els g S2
theorem loop_g (hP : PHmap X.K PH) (hA : ∀ a b, okA (a ++ b) → okA a) {f : D → M (List D)} {Tn : V → Hp → (Hp → Prop) → Prop} {J : It} {its ys done0 : List D} {ι0 : List Addr} {H0 : Hp} {st0 st2 : Store} {u0 : HO} {Qd : Hp → Prop} (hJ : Src X.K (p :: fb) ι0 H0 its J)
    (S0 : RelS X.K H0 (p :: fb) ι0 st0) (hu0 : H0 p = some u0) (q0 : PH H0 (p :: fb) ι0 done0 u0) (hev : eachL f its st0 = some (.ok ys st2)) (okf : okA (done0 ++ ys))
    (turn : ∀ d x ι H st st3 ysd done u Nx, GrowF [p] ι0 H0 ι H → RelS X.K H (p :: fb) ι st → Rel X.K H (p :: fb) ι d x → H p = some u → PH H (p :: fb) ι done u → f d st = some (.ok ysd st3) → okA (done ++ ysd) → Aft X fb p PH ι H st3 (done ++ ysd) Nx → Tn x H Nx)
    (hd : Aft X fb p PH ι0 H0 st2 (done0 ++ ys) Qd) :
    ∃ W : Nat → Nat → Hp → Prop, (∃ m, W 0 m H0) ∧ ∀ i m H, W i m H → (J.stop i H ∧ Qd H) ∨ (J.go i H ∧ ∃ Nx : Hp → Prop, (∀ H', Nx H' → ∃ m', m' < m ∧ W (i + 1) m' H') ∧ ∀ x H', J.yld i H x H' → Tn x H' Nx) := by
  obtain ⟨Gp, Y, w, hG, hY⟩ := hJ.ex
  let Iv : Nat → Hp → Prop := fun i H => ∃ ι st done u ys', H p = some u ∧ GrowF [p] ι0 H0 ι H ∧ RelS X.K H (p :: fb) ι st ∧ PH H (p :: fb) ι done u ∧ eachL f (its.drop i) st = some (.ok ys' st2) ∧ done0 ++ ys = done ++ ys'
  refine ⟨fun i m H => m = its.length - i ∧ i ≤ its.length ∧ Iv i H, ⟨its.length, by simp, Nat.zero_le _, ι0, st0, done0, u0, ys, hu0, (Grow.refl).toF, S0, q0, hev, rfl⟩, ?_⟩
  rintro i m H ⟨rfl, hi, ι, st, done, u, ys', hu, g, S, q, he, e⟩
  have hg := hG ι H g.up
  by_cases hlt : i < its.length
  · refine .inr ⟨w.goes i H hlt hg, Iv (i + 1), fun H' z => ⟨_, by omega, rfl, hlt, z⟩, fun x H' y => ?_⟩
    obtain ⟨d, hdi, gY, SY, rd⟩ := hY i x ι H H' st (p :: fb) hlt (fun a m => .inl m) g.up S (w.yields i H x H' hlt hg y)
    have hdr : its.drop i = d :: its.drop (i + 1) := by
      rw [List.drop_eq_getElem_cons hlt]
      congr 1
      rw [List.getElem?_eq_getElem hlt] at hdi
      exact Option.some.inj hdi
    rw [hdr] at he
    obtain ⟨ysd, st3, ys3, hf, hrest, rfl⟩ := eachL_inv he
    have np : p ∉ ι := fun z => S.dj p z List.mem_cons_self
    refine turn d x ι H' st st3 ysd done u _ (g.trans gY.toF) SY rd (gY.keep p u hu np) (hP (fun ds xs r => Rels.mono gY ds xs r) q) hf (hA _ ys3 (by rw [List.append_assoc, ← e]; exact okf)) fun ι3 H3 u3 g3 S3 h3 q3 => ?_
    exact ⟨ι3, st3, done ++ ysd, u3, ys3, h3, (g.trans gY.toF).trans g3, S3, q3, hrest, by rw [e, List.append_assoc]⟩
  · have hi' : i = its.length := by omega
    subst hi'
    rw [List.drop_length] at he
    obtain ⟨rfl, rfl⟩ := pure_inv he
    refine .inl ⟨w.stops H hg, hd ι H u g S hu ?_⟩
    rw [e, List.append_nil]
    exact q
/-- a source that locks nothing -/
def sI0 (X : Cx) (C : Ctx) (W : WX) (k : IK) (xs : Exs) : TI := fun σ H R => sA X C W xs σ H fun vs H1 => ∃ fb ι st ds its n, RelS X.K H1 fb ι st ∧ Rels X.K H1 fb ι ds vs ∧ itD k ds st = some (its, n) ∧ lkOf st n = none ∧ ∀ J, Src X.K fb ι H1 its J → R J H1
theorem i_free {tg e : Expr} {W : WX} {k : IK} {xs : Exs} (h : PI X tg e (sI X C W k xs)) : PI X tg e (sI0 X C W k xs) :=
  PI.weaken h fun σ H R h => sA.mono h fun vs H1 ⟨fb, ι, st, ds, its, n, S, r, e, hl, q⟩ => ⟨fb, ι, st, ds, its, n, S, r, e, .inl ⟨hl, q⟩⟩
/-- a second clause is a body, too -/
def gInn (X : Cx) (C : Ctx) (k : IK) (xs : Exs) (tg : Tg) (hi : Bool) (c : Ex) (vs : List Nat) (Rs : (Hp → Prop) → L2.St → Hp → Prop) (Nx : Hp → Prop) (σ : L2.St) (H : Hp) : Prop := sI0 X C WN k xs σ H fun J H4 => ∃ W1 : Nat → Nat → Hp → Prop, (∃ m, W1 0 m H4) ∧ ∀ j k H, W1 j k H →
  (J.stop j H ∧ Nx H) ∨ (J.go j H ∧ ∃ Nx1 : Hp → Prop, (∀ H', Nx1 H' → ∃ k', k' < k ∧ W1 (j + 1) k' H') ∧ ∀ x H', J.yld j H x H' → gTurn X C tg hi c vs Rs σ x H' Nx1)
theorem body_in (hB : Body X fb p PH okA rest Rs) (hP : PHmap X.K PH) (hA : ∀ a b, okA (a ++ b) → okA a) {k : IK} {xs : Exs} {tg : Tg} {hi : Bool} {c : Ex} {vs : List Nat} (htg : ∀ i ∈ tgIx tg, i ∈ vs) :
    Body X fb p PH okA (innerF (fun v => evA C xs v) k (tstF C hi c) rest tg vs) (gInn X C k xs tg hi c vs Rs) := by
  intro env σ ι st st3 H ys done u Nx hE S hu q he ok hN
  obtain ⟨ds, st1, h1, he⟩ := bind_inv he
  obtain ⟨⟨its, n⟩, st2, z2, he2⟩ := bind_inv he
  obtain ⟨h2, e2⟩ := rd_inv z2
  subst e2
  obtain ⟨hl, he⟩ := free1_inv he2
  refine ⟨p :: fb, ι, env, st, hE, S, ?_⟩
  have h1 : evA C xs env st = some (.ok ds _) := h1
  rw [h1]
  intro ι1 H1 g S1 ws r
  have np : p ∉ ι := fun z => S.dj p z List.mem_cons_self
  refine ⟨p :: fb, ι1, _, ds, its, n, S1, r, h2, hl, fun J hJ => ?_⟩
  exact loop_g (PH := PH) hP hA hJ S1 (g.keep p u hu np) (hP (fun ds xs r => Rels.mono g ds xs r) q) he ok (fun d x ι2 H2 st st3 ysd done u Nx g2 S2 rd hu2 q2 hf ok2 hN2 => turn_ok (PH := PH) hB hP htg (hE.mono g |>.tr fun d v r => r.go g2.up fun a m => .inl m) S2 hu2 q2 rd hf ok2 hN2) fun ι' H' u' g3 => hN ι' H' u' ((Grow.toF g).trans g3)
end
section
variable {X : Cx} {C : Ctx} {W : WX}
/-- the whole comprehension -/
theorem top_ok {PH : Addr → PHt} {okA : List D → Prop} {rest : Env → M (List D)} {Rs : Addr → (Hp → Prop) → L2.St → Hp → Prop} {e0 : Ex} {k : IK} {xs : Exs} {tg : Tg} {hi : Bool} {c : Ex} {vs : List Nat} {fin : List D → M D} {u0 : HO}
    (eq : ∀ env, evE C e0 env = (evA C xs env >>= fun ds => M.rd (itD k ds) >>= fun q => calm (withLock q.2 (eachL (itemF (tstF C hi c) rest tg vs env) q.1)) >>= fin)) (htg : ∀ i ∈ tgIx tg, i ∈ vs)
    (hB : ∀ fb p, Body X fb p (PH p) okA rest (Rs p)) (hP : ∀ p, PHmap X.K (PH p)) (hA : ∀ a b, okA (a ++ b) → okA a) (h0 : ∀ p H fb ι, PH p H fb ι [] u0) (hf0 : ∀ ys st r, fin ys st = some r → okA ys)
    {σ : L2.St} {H : Hp} {Q : VK} (hfin : ∀ {fb ι st p H u ys}, RelS X.K H fb ι st → H p = none → PH p H fb ι ys u → Po X.K fb (fin ys st) (okE X.K fb Q) (exE X.mg W σ) ι H → Q (.ref p) (upd H p u)) (h : sE X C W e0 σ H Q) :
    sI X C W k xs σ H fun J H1 => ∀ p, H1 p = none → ∃ Wd : Nat → Nat → Hp → Prop, (∃ m, Wd 0 m (upd H1 p u0)) ∧ ∀ i m H, Wd i m H → (J.stop i H ∧ unQ X Q (.ref p) H) ∨ (J.go i H ∧ ∃ Nx : Hp → Prop, (∀ H', Nx H' → ∃ m', m' < m ∧ Wd (i + 1) m' H') ∧ ∀ x H', J.yld i H x H' → gTurn X C tg hi c vs (Rs p) σ x H' Nx) := by
  obtain ⟨fb, ι, env, st, hE, hS, hp⟩ := h
  rw [eq] at hp
  refine ⟨fb, ι, env, st, hE, hS, hp.bind.mono (fun ds st1 ι1 H1 g S q ws r => ?_) fun _ _ _ _ _ _ q => q⟩
  obtain ⟨⟨its, n⟩, e1, q⟩ := (Po.bind q).rd
  have q := q ι1 H1 Grow.refl S
  have q : Po X.K fb (M.bind (calm (withLock n (eachL (itemF (tstF C hi c) rest tg vs env) its))) fin st1) (okE X.K fb Q) (exE X.mg W σ) ι1 H1 := q
  have q2 := Po.bind (m := calm (withLock n (eachL (itemF (tstF C hi c) rest tg vs env) its))) (f := fin) q
  unfold M.bind at q
  unfold calm at q q2
  cases hw : withLock n (eachL (itemF (tstF C hi c) rest tg vs env) its) st1 with
  | none => simp only [hw] at q; exact q.elim
  | some o =>
    simp only [hw] at q q2
    cases o with
    | ex e' s => exact q.elim
    | ok ys st3 =>
      simp only at q q2
      cases hz : fin ys st3 with
      | none => rw [hz] at q; exact q.elim
      | some r0 =>
      have okf := hf0 ys st3 r0 hz
      have qf : ∀ ι' H', Grow ι1 H1 ι' H' → RelS X.K H' fb ι' st3 → Po X.K fb (fin ys st3) (okE X.K fb Q) (exE X.mg W σ) ι' H' := q2
      clear q q2
      have he1 := hE.mono g
      have go : ∀ {Hs : Hp} {stl st2 : Store} {J : It} {p : Addr}, RelS X.K Hs fb ι1 stl → RelE X.K Hs fb ι1 env σ → Src X.K fb ι1 Hs its J → Hs p = none → eachL (itemF (tstF C hi c) rest tg vs env) its stl = some (.ok ys st2) →
          (∀ ι' Hc u, Grow ι1 Hs ι' Hc → RelS X.K Hc fb ι' st2 → Hc p = none → PH p Hc fb ι' ys u → unQ X Q (.ref p) (upd Hc p u)) →
          ∃ Wd : Nat → Nat → Hp → Prop, (∃ m, Wd 0 m (upd Hs p u0)) ∧ ∀ i m H, Wd i m H → (J.stop i H ∧ unQ X Q (.ref p) H) ∨ (J.go i H ∧ ∃ Nx : Hp → Prop, (∀ H', Nx H' → ∃ m', m' < m ∧ Wd (i + 1) m' H') ∧ ∀ x H', J.yld i H x H' → gTurn X C tg hi c vs (Rs p) σ x H' Nx) := fun {Hs stl st2 J p} SL hEl hJ hpn hev hend => by
        have nfb : ∀ a ∈ fb, a ≠ p := fun a m z => SL.fbs a m (z ▸ hpn)
        refine loop_g (PH := PH p) (done0 := []) (hP p) hA (hJ.hide hpn) (SL.hide hpn) upd_same (h0 p _ _ _) hev okf (fun d x ι2 H2 st st3 ysd done u Nx g2 S2 rd hu2 q2 hf ok2 hN2 => turn_ok (PH := PH p) (hB fb p) (hP p) htg ((hEl.tr fun d v r => r.hide hpn).tr fun d v r => r.go g2.up fun a m => .inl m) S2 hu2 q2 rd hf ok2 hN2) fun ι' H' u' g3 S3 h3 q3 => ?_
        have z := hend ι' (del H' p) u' (growF_del hpn g3) (S3.bare nfb) del_same (hP p (fun ds xs r => r.bare) q3)
        rw [upd_del, upd_at h3] at z
        exact z
      refine ⟨fb, ι1, st1, ds, its, n, S, r, e1, ?_⟩
      cases hk : lkOf st1 n with
      | none => exact .inl ⟨rfl, fun J hJ p hp => go S he1 hJ hp (wl_free hk hw) fun ι' Hc u g' S' hc' q' => .inl (hfin S' hc' q' (qf ι' Hc g' S'))⟩
      | some m =>
        have hn := lkOf_some hk
        subst hn
        have hi : ∃ a, ι1[m]? = some a := by
          unfold lkOf at hk
          cases z : st1[m]? with
          | none => simp only [z] at hk; cases hk
          | some o =>
            have hlt : m < ι1.length := by rw [S.len]; exact (List.getElem?_eq_some_iff.mp z).1
            exact ⟨ι1[m], by simp [hlt]⟩
        obtain ⟨a, hi⟩ := hi
        obtain ⟨u, hu⟩ := S.live (List.mem_of_getElem? hi)
        obtain ⟨ob, ho, hol, mu, _⟩ := S.lock (od := default) hk hi hu
        obtain ⟨st2, hev, hul⟩ := wl_ok ho hol hw
        refine .inr ⟨m, a, u, rfl, hi, hu, mu, fun nf od J hJ p hp => ?_⟩
        obtain ⟨ob', ho', _, _, SL⟩ := S.lock (od := od) hk hi hu
        rw [ho] at ho'; cases ho'
        have gl : Grow ι1 H1 ι1 (upd H1 a (.frz od u)) := lock_grow (List.mem_of_getElem? hi) hu mu
        refine go SL (he1.mono gl) hJ hp hev fun ι' Hc u2 g' S' hp' q' => .inr ?_
        obtain ⟨od', u', h1, S3, g3⟩ := RelS.unlock S' hul hi hu mu g'
        have hne : a ≠ p := fun z => by rw [z, hp'] at h1; cases h1
        refine ⟨a, od', u', by rw [upd_ne hne]; exact h1, nf, ?_⟩
        rw [upd_sw (Ne.symm hne)]
        have hi' : ι'[m]? = some a := g'.at_ hi
        have g0 : Grow0 ι' Hc ι' (upd Hc a u') := ⟨⟨[], by simp, by simp⟩, fun b w e m => by rw [upd_ne (fun z => m (by rw [z]; exact List.mem_of_getElem? hi'))]; exact e⟩
        exact hfin S3 (by rw [upd_ne (Ne.symm hne)]; exact hp') (hP p (fun ds xs r => Rels.mono0 g0 ds xs r) q') (qf ι' _ g3 S3)
end
/-! ### what is put -/
section
variable {X : Cx} {C : Ctx} {fb : List Addr} {p : Addr}
def phL (K : PySem.W.Frag) : PHt := fun H fb ι done u => ∃ xs, u = .lst xs ∧ Rels K H fb ι done xs
def phD (K : PySem.W.Frag) (p : Addr) : PHt := fun H fb ι done u => ∃ q, putAll done ([], []) = some q ∧ DicU K H fb ι u p q.1 q.2
def okL (ys : List D) : Prop := ys.length ≤ sizeLine
def okD (ys : List D) : Prop := ∃ q, putAll ys ([], []) = some q
theorem phL_map {K : PySem.W.Frag} : PHmap K (phL K) := fun f ⟨xs, e, r⟩ => ⟨xs, e, f _ _ r⟩
theorem phD_map {K : PySem.W.Frag} : PHmap K (phD K p) := fun f ⟨q, e, r⟩ => ⟨q, e, r.map fun ds xs _ r => f ds xs r⟩
omit pw in
theorem okL_pre (a b : List D) (h : okL (a ++ b)) : okL a := by unfold okL at h ⊢; rw [List.length_append] at h; omega
omit pw in
theorem putAll_app : ∀ {a b : List D} {q : List D × List D}, putAll (a ++ b) q = (putAll a q).bind (putAll b)
  | [], b, q => rfl
  | d :: a, b, q => by
    cases d <;> try rfl
    rename_i xs
    match xs with
    | [] => rfl
    | [x] => rfl
    | [k, v] =>
      show (k.toDK.bind fun j => if flOk q.1 j && Nat.blt q.1.length sizeLine then putAll (a ++ b) (dput q.1 q.2 k j v) else none) = (k.toDK.bind fun j => if flOk q.1 j && Nat.blt q.1.length sizeLine then putAll a (dput q.1 q.2 k j v) else none).bind (putAll b)
      cases k.toDK with
      | none => rfl
      | some j =>
        show (if _ then putAll (a ++ b) _ else none) = Option.bind (if _ then putAll a _ else none) _
        split
        · exact putAll_app
        · rfl
    | x :: y :: z :: r => rfl
omit pw in
theorem okD_pre (a b : List D) (h : okD (a ++ b)) : okD a := by
  obtain ⟨q, h⟩ := h
  rw [putAll_app] at h
  cases z : putAll a ([], []) with
  | none => rw [z] at h; cases h
  | some q => exact ⟨q, z⟩
def emL (X : Cx) (C : Ctx) (e : Ex) (p : Addr) (Nx : Hp → Prop) (σ : L2.St) (H : Hp) : Prop := sE X C WN e σ H fun y H4 => ∃ acc, H4 p = some (.lst acc) ∧ acc.length < sizeLine ∧ Nx (upd H4 p (.lst (acc ++ [y])))
theorem RelS.putp {K : PySem.W.Frag} {H : Hp} {ι : List Addr} {st : Store} {u u' : HO} (S : RelS K H (p :: fb) ι st) (h : H p = some u) : RelS K (upd H p u') (p :: fb) ι st := by
  refine ⟨S.len, S.nd, fun a m e => ?_, S.dj, fun n ob a h1 h2 => ?_⟩
  · by_cases z : a = p
    · subst z; rw [upd_same] at e; cases e
    · rw [upd_ne z] at e; exact S.fbs a m e
  · have za : a ≠ p := fun z => S.dj a (List.mem_of_getElem? h2) (by rw [z]; exact List.mem_cons_self)
    refine RelO.tr (fun b w e n m => ?_) (fun _ _ e => e) (fun w e => by rw [upd_ne za]; exact e) (S.at_ n ob a h1 h2)
    have z : b ≠ p := fun z => m (by rw [z]; exact List.mem_cons_self)
    exact ⟨by rw [upd_ne z]; exact e, n, m⟩
theorem Rels.putp {K : PySem.W.Frag} {H : Hp} {ι : List Addr} {u' : HO} {ds : List D} {xs : List V} (r : Rels K H (p :: fb) ι ds xs) : Rels K (upd H p u') (p :: fb) ι ds xs :=
  Rels.tr (fun b w e n m => by
    have z : b ≠ p := fun z => m (by rw [z]; exact List.mem_cons_self)
    exact ⟨by rw [upd_ne z]; exact e, n, m⟩) (fun _ _ e => e) ds xs r
theorem body_L {e : Ex} : Body X fb p (phL X.K) okL (fun v => evE C e v >>= fun y => pure [y]) (emL X C e p) := by
  rintro env σ ι st st3 H ys done u Nx hE S hu ⟨xs, rfl, r⟩ he ok hN
  obtain ⟨y, st1, h1, he⟩ := bind_inv he
  obtain ⟨rfl, rfl⟩ := pure_inv he
  have h1 : evE C e env st = some (.ok y _) := h1
  refine ⟨p :: fb, ι, env, st, hE, S, ?_⟩
  rw [h1]
  intro ι1 H1 g S1 v rv
  have np : p ∉ ι := fun z => S.dj p z List.mem_cons_self
  have hu1 := g.keep p _ hu np
  refine ⟨xs, hu1, ?_, hN ι1 _ _ ((Grow.toF g).trans (GrowF.put hu1 trivial)) (S1.putp hu1) upd_same ⟨_, rfl, ?_⟩⟩
  · unfold okL at ok
    rw [List.length_append, r.length] at ok
    exact Nat.lt_of_succ_le (by simpa using ok)
  · exact (((Rels.mono g _ _ r).append (Rels.one rv))).putp
theorem body_D (hX : X.prog = pw.P ∧ X.w = pw.w ∧ X.mg = pw.mg) (hu : X.A.units + 100 < cLine) {kx vx : Ex} : Body X fb p (phD X.K p) okD (fun v => evE C kx v >>= fun x => evE C vx v >>= fun y => pure [.tup [x, y]]) (tEm X p (sE X C WN kx) (sE X C WN vx)) := by
  rintro env σ ι st st3 H ys done u Nx hE S hpu ⟨⟨ks, vs⟩, hq, dd⟩ he ok hN
  obtain ⟨x, st1, h1, he1⟩ := bind_inv he
  obtain ⟨y, st2, h2, he2⟩ := bind_inv he1
  obtain ⟨rfl, rfl⟩ := pure_inv he2
  clear he he1 he2
  have h1 : evE C kx env st = some (.ok x st1) := h1
  have h2 : evE C vx env st1 = some (.ok y _) := h2
  have np : p ∉ ι := fun z => S.dj p z List.mem_cons_self
  obtain ⟨q2, ok⟩ := ok
  have ok2 : putAll (done ++ [.tup [x, y]]) ([], []) = some q2 := ok
  rw [putAll_app, hq] at ok2
  have ok2 : (x.toDK.bind fun j => if flOk ks j && Nat.blt ks.length sizeLine then some (dput ks vs x j y) else none) = some q2 := ok2
  cases hk : x.toDK with
  | none => rw [hk] at ok2; cases ok2
  | some j =>
    rw [hk] at ok2
    have ok2 : (if flOk ks j && Nat.blt ks.length sizeLine then some (dput ks vs x j y) else none) = some q2 := ok2
    split at ok2
    case isFalse => cases ok2
    rename_i hc
    simp only [Bool.and_eq_true] at hc
    cases ok2
    refine ⟨p :: fb, ι, env, st, hE, S, ?_⟩
    rw [h1]
    intro ι1 H1 g S1 xv rx
    refine ⟨p :: fb, ι1, env, st1, hE.mono g, S1, ?_⟩
    rw [h2]
    intro ι2 H2 g2 S2 yv ry Y hP hW hG hA hK pins σ' s a b Q E I r1 r2 hQ
    have g3 := g.trans g2
    have hu2 := g3.keep p _ hpu np
    have d2 : DicU Y.K H2 (p :: fb) ι2 u p ks vs := by rw [hK]; exact dd.map fun ds xs _ r => Rels.mono g3 ds xs r
    have rx2 : Rel Y.K H2 (p :: fb) ι2 x xv := by rw [hK]; exact rx.mono g2
    have ry2 : Rel Y.K H2 (p :: fb) ι2 y yv := by rw [hK]; exact ry
    refine d_dset (X := Y) (kd := x) (dv := y) (k := j) ⟨hP.trans hX.1, hW.trans hX.2.1, hG.trans hX.2.2⟩ (by rw [hA]; exact hu) I hu2 d2 hc.1 hk rx2 r1 ry2 r2 (Nat.le_of_ble_eq_true hc.2) fun u' s' d3 I3 => hQ _ s' I3 ?_
    rw [hK] at d3
    have e2 : putAll (done ++ [.tup [x, y]]) ([], []) = some (dput ks vs x j y) := ok
    exact hN ι2 _ u' ((Grow.toF g3).trans (GrowF.put hu2 dd.mut)) (S2.putp hu2) upd_same ⟨_, e2, d3.map fun ds xs _ r => r.putp⟩
end
section
variable {G : Pr} {X : Cx} {C : Ctx} {W : WX} {k : Nat}
theorem s_lc2F (ok : Cok G X C W k) {al : Bool} {e c c1 : Ex} {tg tg1 : Tg} {ik ik1 : IK} {xs xs1 : Exs} {hi hi1 : Bool} {own : List (Str × Nat)} {vs1 : List Nat} (htg : ∀ i ∈ tgIx tg, i ∈ own.map (·.2)) (htg1 : ∀ i ∈ tgIx tg1, i ∈ vs1) {σ : L2.St} {H : Hp} {Q : VK} (h : sE X C W (.lc2 al e tg ik xs hi c tg1 ik1 xs1 hi1 c1 own vs1) σ H Q) :
    tLc2 (sI X C W ik xs) (gOf X.K tg) (tTst X C hi c) (sI0 X C WN ik1 xs1) (gOf X.K tg1) (tTst X C hi1 c1) (sE X C WN e) (own.map (·.2)) vs1 σ H (unQ X Q) :=
    top_ok (PH := fun _ => phL X.K) (okA := okL) (Rs := fun p => gInn X C ik1 xs1 tg1 hi1 c1 vs1 (emL X C e p)) (u0 := .lst []) (fin := mkL al) (fun env => rfl) htg (fun fb p => body_in body_L phL_map okL_pre htg1) (fun _ => phL_map) okL_pre (fun _ _ _ _ => ⟨[], rfl, rfl⟩)
      (fun ys st r hr => by
        unfold mkL at hr
        cases hf : fit ys.length with
        | true => exact fit_le hf
        | false => simp only [hf] at hr; cases hr)
      (fun S hp q hm => by obtain ⟨xs, rfl, r⟩ := q; exact (mk_ok S r hm).2 _ hp) h
theorem s_lc2 (ok : Cok G X C W k) {al : Bool} {e c c1 : Ex} {tg tg1 : Tg} {ik ik1 : IK} {xs xs1 : Exs} {hi hi1 : Bool} {own : List (Str × Nat)} {vs1 : List Nat} {elt tg' iter tg1' iter1 : Expr} {ifs ifs1 : List Expr} {scope : Scope} {pos : Pos} (htg : ∀ i ∈ tgIx tg, i ∈ own.map (·.2)) (htg1 : ∀ i ∈ tgIx tg1, i ∈ vs1) (hv : ∀ i ∈ vs1, i ∈ own.map (·.2)) (hit : PI X tg' iter (sI X C W ik xs)) (hb : BlkOk X.N X.env.scope scope own)
    (hg : ∀ (s : Shared) (H : Hp) (C : Addr) (cl : List (Str × Addr)) (fp : List Addr), PG (X.blk s H scope (compEnvC scope cl C X.env) fp) tg' (gOf X.K tg)) (ht : ∀ (s : Shared) (H : Hp) (C' : Addr) (cl : List (Str × Addr)) (fp : List Addr), PTs (X.blk s H scope (compEnvC scope cl C' X.env) fp) ifs (tTst X C hi c))
    (hit1 : ∀ (s : Shared) (H : Hp) (C' : Addr) (cl : List (Str × Addr)) (fp : List Addr), PI (X.blk s H scope (compEnvC scope cl C' X.env) fp) tg1' iter1 (sI0 X C WN ik1 xs1)) (hg1 : ∀ (s : Shared) (H : Hp) (C : Addr) (cl : List (Str × Addr)) (fp : List Addr), PG (X.blk s H scope (compEnvC scope cl C X.env) fp) tg1' (gOf X.K tg1)) (ht1 : ∀ (s : Shared) (H : Hp) (C' : Addr) (cl : List (Str × Addr)) (fp : List Addr), PTs (X.blk s H scope (compEnvC scope cl C' X.env) fp) ifs1 (tTst X C hi1 c1))
    (he : ∀ (s : Shared) (H : Hp) (C' : Addr) (cl : List (Str × Addr)) (fp : List Addr), PE (X.blk s H scope (compEnvC scope cl C' X.env) fp) elt (sE X C WN e)) (hs : nsetB iter = true) (hs1 : nsetB iter1 = true) :
    PE X (.ListComp elt [⟨tg', iter, ifs, 0⟩, ⟨tg1', iter1, ifs1, 0⟩] scope pos) (sE X C W (.lc2 al e tg ik xs hi c tg1 ik1 xs1 hi1 c1 own vs1)) :=
  PE.weaken (PE.unl (pe_lc2 ok.calm ok.nd hit hb hv hg ht hit1 hg1 ht1 he (nset_fold hs) fun env x => nset_fold hs1 x)) fun σ H Q h => s_lc2F ok htg htg1 h
theorem s_dcF (ok : Cok G X C W k) {al : Bool} {kx vx c : Ex} {tg : Tg} {ik : IK} {xs : Exs} {hi : Bool} {own : List (Str × Nat)} (htg : ∀ i ∈ tgIx tg, i ∈ own.map (·.2)) {σ : L2.St} {H : Hp} {Q : VK} (h : sE X C W (.dc al kx vx tg ik xs hi c own) σ H Q) :
    tD1 X (sI X C W ik xs) (gOf X.K tg) (tTst X C hi c) (sE X C WN kx) (sE X C WN vx) (own.map (·.2)) σ H (unQ X Q) :=
    top_ok (k := ik) (tg := tg) (hi := hi) (c := c) (PH := fun p => phD X.K p) (okA := okD) (Rs := fun p => tEm X p (sE X C WN kx) (sE X C WN vx)) (u0 := .dK []) (fin := fun ys => M.of (putAll ys ([], [])) >>= fun q => mkD al q) (fun env => rfl) htg (fun fb p => body_D ok.hX (by have := ok.hu; omega)) (fun _ => phD_map) okD_pre (fun _ _ _ _ => ⟨_, rfl, dic_nil⟩)
      (fun ys st r hr => by
        cases hf : putAll ys ([], []) with
        | some q => exact ⟨q, hf⟩
        | none => rw [hf] at hr; cases hr)
      (fun {fb ι st p H u ys} S hp q hm => by
        obtain ⟨q, e, d⟩ := q
        rw [e] at hm
        exact mkd_ok S hp d hm) h
theorem s_dc (ok : Cok G X C W k) {al : Bool} {kx vx c : Ex} {tg : Tg} {ik : IK} {xs : Exs} {hi : Bool} {own : List (Str × Nat)} {kx' vx' tg' iter : Expr} {ifs : List Expr} {scope : Scope} {pos : Pos} (htg : ∀ i ∈ tgIx tg, i ∈ own.map (·.2)) (hit : PI X tg' iter (sI X C W ik xs)) (hb : BlkOk X.N X.env.scope scope own)
    (hg : ∀ (s : Shared) (H : Hp) (C : Addr) (cl : List (Str × Addr)) (fp : List Addr), PG (X.blk s H scope (compEnvC scope cl C X.env) fp) tg' (gOf X.K tg)) (ht : ∀ (s : Shared) (H : Hp) (C' : Addr) (cl : List (Str × Addr)) (fp : List Addr), PTs (X.blk s H scope (compEnvC scope cl C' X.env) fp) ifs (tTst X C hi c))
    (hk : ∀ (s : Shared) (H : Hp) (C' : Addr) (cl : List (Str × Addr)) (fp : List Addr), PE (X.blk s H scope (compEnvC scope cl C' X.env) fp) kx' (sE X C WN kx)) (he : ∀ (s : Shared) (H : Hp) (C' : Addr) (cl : List (Str × Addr)) (fp : List Addr), PE (X.blk s H scope (compEnvC scope cl C' X.env) fp) vx' (sE X C WN vx)) (hs : nsetB iter = true) :
    PE X (.DictComp kx' vx' [⟨tg', iter, ifs, 0⟩] scope pos) (sE X C W (.dc al kx vx tg ik xs hi c own)) :=
  PE.weaken (PE.unl (t := tD1 X (sI X C W ik xs) (gOf X.K tg) (tTst X C hi c) (sE X C WN kx) (sE X C WN vx) (List.map (fun z : Str × Nat => z.2) own)) ⟨fun pins s σ H Q I h => dc1_block ok.calm ok.nd I hit hb hg ht hk he (nset_fold hs) h⟩) fun σ H Q h => s_dcF ok htg h
theorem s_dc2F (ok : Cok G X C W k) {al : Bool} {kx vx c c1 : Ex} {tg tg1 : Tg} {ik ik1 : IK} {xs xs1 : Exs} {hi hi1 : Bool} {own : List (Str × Nat)} {vs1 : List Nat} (htg : ∀ i ∈ tgIx tg, i ∈ own.map (·.2)) (htg1 : ∀ i ∈ tgIx tg1, i ∈ vs1) {σ : L2.St} {H : Hp} {Q : VK} (h : sE X C W (.dc2 al kx vx tg ik xs hi c tg1 ik1 xs1 hi1 c1 own vs1) σ H Q) :
    tD2 X (sI X C W ik xs) (gOf X.K tg) (tTst X C hi c) (sI0 X C WN ik1 xs1) (gOf X.K tg1) (tTst X C hi1 c1) (sE X C WN kx) (sE X C WN vx) (own.map (·.2)) vs1 σ H (unQ X Q) :=
    top_ok (k := ik) (tg := tg) (hi := hi) (c := c) (PH := fun p => phD X.K p) (okA := okD) (Rs := fun p => gInn X C ik1 xs1 tg1 hi1 c1 vs1 (tEm X p (sE X C WN kx) (sE X C WN vx))) (u0 := .dK []) (fin := fun ys => M.of (putAll ys ([], [])) >>= fun q => mkD al q) (fun env => rfl) htg (fun fb p => body_in (body_D ok.hX (by have := ok.hu; omega)) phD_map okD_pre htg1) (fun _ => phD_map) okD_pre (fun _ _ _ _ => ⟨_, rfl, dic_nil⟩)
      (fun ys st r hr => by
        cases hf : putAll ys ([], []) with
        | some q => exact ⟨q, hf⟩
        | none => rw [hf] at hr; cases hr)
      (fun {fb ι st p H u ys} S hp q hm => by
        obtain ⟨q, e, d⟩ := q
        rw [e] at hm
        exact mkd_ok S hp d hm) h
theorem s_dc2 (ok : Cok G X C W k) {al : Bool} {kx vx c c1 : Ex} {tg tg1 : Tg} {ik ik1 : IK} {xs xs1 : Exs} {hi hi1 : Bool} {own : List (Str × Nat)} {vs1 : List Nat} {kx' vx' tg' iter tg1' iter1 : Expr} {ifs ifs1 : List Expr} {scope : Scope} {pos : Pos} (htg : ∀ i ∈ tgIx tg, i ∈ own.map (·.2)) (htg1 : ∀ i ∈ tgIx tg1, i ∈ vs1) (hv : ∀ i ∈ vs1, i ∈ own.map (·.2)) (hit : PI X tg' iter (sI X C W ik xs)) (hb : BlkOk X.N X.env.scope scope own)
    (hg : ∀ (s : Shared) (H : Hp) (C : Addr) (cl : List (Str × Addr)) (fp : List Addr), PG (X.blk s H scope (compEnvC scope cl C X.env) fp) tg' (gOf X.K tg)) (ht : ∀ (s : Shared) (H : Hp) (C' : Addr) (cl : List (Str × Addr)) (fp : List Addr), PTs (X.blk s H scope (compEnvC scope cl C' X.env) fp) ifs (tTst X C hi c))
    (hit1 : ∀ (s : Shared) (H : Hp) (C' : Addr) (cl : List (Str × Addr)) (fp : List Addr), PI (X.blk s H scope (compEnvC scope cl C' X.env) fp) tg1' iter1 (sI0 X C WN ik1 xs1)) (hg1 : ∀ (s : Shared) (H : Hp) (C : Addr) (cl : List (Str × Addr)) (fp : List Addr), PG (X.blk s H scope (compEnvC scope cl C X.env) fp) tg1' (gOf X.K tg1)) (ht1 : ∀ (s : Shared) (H : Hp) (C' : Addr) (cl : List (Str × Addr)) (fp : List Addr), PTs (X.blk s H scope (compEnvC scope cl C' X.env) fp) ifs1 (tTst X C hi1 c1))
    (hk : ∀ (s : Shared) (H : Hp) (C' : Addr) (cl : List (Str × Addr)) (fp : List Addr), PE (X.blk s H scope (compEnvC scope cl C' X.env) fp) kx' (sE X C WN kx)) (he : ∀ (s : Shared) (H : Hp) (C' : Addr) (cl : List (Str × Addr)) (fp : List Addr), PE (X.blk s H scope (compEnvC scope cl C' X.env) fp) vx' (sE X C WN vx)) (hs : nsetB iter = true) (hs1 : nsetB iter1 = true) :
    PE X (.DictComp kx' vx' [⟨tg', iter, ifs, 0⟩, ⟨tg1', iter1, ifs1, 0⟩] scope pos) (sE X C W (.dc2 al kx vx tg ik xs hi c tg1 ik1 xs1 hi1 c1 own vs1)) :=
  PE.weaken (PE.unl (t := tD2 X (sI X C W ik xs) (gOf X.K tg) (tTst X C hi c) (sI0 X C WN ik1 xs1) (gOf X.K tg1) (tTst X C hi1 c1) (sE X C WN kx) (sE X C WN vx) (List.map (fun z : Str × Nat => z.2) own) vs1) ⟨fun pins s σ H Q I h => dc2_block ok.calm ok.nd I hit hb hv hg ht hk he (nset_fold hs) hit1 hg1 ht1 (fun env x => nset_fold hs1 x) h⟩) fun σ H Q h => s_dc2F ok htg htg1 h
end
end Wk

set_option maxRecDepth 100000
set_option maxHeartbeats 2000000
/-! WkX: an exception that is caught, and asked for its class. -/
namespace Wk
open PySem PySem.Spec PyProof.Rows L2
variable [pw : PrW]

section
variable {X : Cx} {pins : List (Addr × Obj)} {σ : L2.St} {H : Hp} {s : Shared} {a : Addr} {o : HO}
/-- what stood there comes to be known -/
theorem adopt (I : L2.Inv X pins σ H s) (hn : H a = none) (h0 : a ∉ X.ex → X.s_0.heap.get? a = none) (nL : a ≠ X.env.locals) (nC : ∀ x c, X.env.cells.lookup x = some c → c ≠ a) (nP : ∀ p ∈ X.pn ++ pins, p.1 ≠ a) (new : ObjOk X.prog X.w (upd H a o) s.heap a o) :
    L2.Inv X pins σ (upd H a o) s := by
  have ne : ∀ {b : Addr} {u : HO}, H b = some u → b ≠ a := fun e z => by rw [z, hn] at e; cases e
  refine ⟨I.ok, I.os, I.bare, ⟨I.base.keep, I.base.slot, fun b u e n x => ?_, I.base.there, fun b xs e => ?_, fun b u v e => ?_, fun b ps e => ?_⟩, I.loc, I.cell, ?_, fun x c e => ?_, fun p hp => ?_, fun b u e => ?_, I.len⟩
  · have z : b ≠ a := fun z => by
      rw [z] at e x
      rw [h0 x] at e; cases e
    rw [upd_ne z]; exact I.base.free b u e n x
  · have q := I.base.tups b xs e
    rw [upd_ne (ne q)]; exact q
  · have q := I.base.frzs b u v e
    rw [upd_ne (ne q)]; exact q
  · obtain ⟨m, q⟩ := I.base.tbls b ps e
    exact ⟨m, by rw [upd_ne (ne q)]; exact q⟩
  · rw [upd_ne (Ne.symm nL)]; exact I.free
  · rw [upd_ne (nC x c e)]; exact I.freeC x c e
  · obtain ⟨q1, q2, q3⟩ := I.pin p hp
    exact ⟨q1, by rw [upd_ne (nP p hp)]; exact q2, q3⟩
  · by_cases z : b = a
    · subst z; rw [upd_same] at e; cases e; exact new
    · rw [upd_ne z] at e
      exact (I.hok b u e).stay (fun _ _ _ q => q) (fun c q => by rw [upd_ne (ne q)]; exact q) fun c xs q => by rw [upd_ne (ne q)]; exact q
theorem exHO_ok {P : Program} {w : World} {H : Hp} {h : Heap} {cls : Value} {oe : Obj} (e : h.get? a = some oe) (z : L2.Zc cls none oe) (d : ∃ vs, oe.data = .fields vs) : ObjOk P w H h a (exHO cls a) := by
  obtain ⟨vs, d⟩ := d
  exact ⟨⟨oe, vs, e, z, d⟩, ⟨oe, e⟩, fun h1 h2 ⟨o1, v1, e1, z1, d1⟩ k => ⟨o1, v1, k o1 e1, z1, d1⟩⟩
end
/-- an exception of the body, kept by the suite; slot i is the clause's own name -/
def wKeep (K : PySem.W.Frag) (c : Value) (i : Nat) (ts : Addr → Value → Option Addr → TS) (Wout : WX) (D : Ends) : WX := fun cls dx σ H =>
  ∃ b, PySem.W.exmOne K cls c = some b ∧
    (b = true → dx = none ∧ ∀ a, H a = none → ts a cls dx ⟨fun τ U => U a = none → D.nx (τ.set i none) (upd U a (exHO cls a)), fun _ _ => False, fun _ _ => False, fun _ _ => False⟩ (σ.set i (some (.ref a))) H) ∧
    (b = false → Wout cls dx σ H)
section
variable {X : Cx} {x n : Str} {c : Value} {i : Nat} {body suite : List Stmt} {st0 : Stmt} {np hpos pos : Pos} {tb : WX → TS} {ts : Addr → Value → Option Addr → TS} {Wout : WX}
theorem ps_keep (stk : X.stack = X.env :: X.outer) (frm : X.env.frame = some X.env.locals) (nod : X.N.Nodup) (slot : X.N[i]? = some n) (lcl : X.env.kindOf n = some .local) (nms : Names X x c) (tak : L2.Takes X Wout)
    (hbody : ∀ (W' : WX) (pn' : List (Addr × Obj)) (xe' : Value → Shared → Prop), L2.Takes (X.tr pn' xe') W' → PassesOwn (model X.prog X.w) X.A X.env xe' → PSs (X.tr pn' xe') body (tb W'))
    (hsuite : ∀ (a : Addr) (ob : Obj) (cls : Value) (dx : Option Addr) (pn' : List (Addr × Obj)), L2.Zc cls dx ob → (∃ vs, ob.data = .fields vs) → PSs (X.suite a ((a, ob) :: pn')) (st0 :: suite) (ts a cls dx)) :
    PS X (.Try body [.ExceptHandler (some (.Name x np)) (some n) (st0 :: suite) hpos] [] [] pos) (fun D σ H => tb (wKeep X.K c i ts Wout D) D σ H) := by
  constructor
  intro pins s0 σ H D I want
  have okX := I.ok
  have frames : X.A.frames = some (X.env :: X.outer) := by
    rw [okX.frames, stk]
  have here : Loc X.env.scope n := Or.inl lcl
  apply wpAny_Try_except
  let xe1 : Value → Shared → Prop := fun e z1 => wpAny (model X.prog X.w) X.A (noteFrame e X.env)
    (fun _ z2 => wpAny (model X.prog X.w) X.A (setFlight e none)
      (fun _ z3 => wpAny (model X.prog X.w) X.A (handleBy e X.env [.ExceptHandler (some (.Name x np)) (some n) (st0 :: suite) hpos]) (SP X pins D) X.xe z3) X.xe z2) X.xe z1
  have tk1 : L2.Takes (X.tr (X.pn ++ pins) xe1) (wKeep X.K c i ts Wout D) := by
    rintro u z ⟨a, B, sI, pins1, σ1, H1, cls, dx, rfl, J1, below, upto, sky, untr, sameOs, gens, b, isb, yes, no⟩
    have J0 : L2.Inv X pins σ1 H1 sI := L2.Inv.ofTry (pins := pins) J1 okX
    have sky2 : Sky B (X.env :: X.outer) a (L2.Zc cls dx) X.env.locals z.heap := by
      rw [← stk]; exact sky
    show wpAny (model X.prog X.w) X.A (noteFrame (.ref a) X.env) _ _ _
    apply Sky.land L2.Zc.steady frames frm sky2
    intro hA flA upA
    have bNo : B.get? a = none := flA.2.1
    have JA : L2.Inv X pins σ1 H1 { z with heap := hA } :=
      J0.landed below flA.1 (upto.trans upA) sameOs gens
    obtain ⟨oA, vA, gA, zA, dA⟩ := flA.there
    have noFrame : a ∉ frs (X.env :: X.outer) := by
      intro hm
      obtain ⟨_, o', e', hnf⟩ := flA.2.2.1.mem hm
      rw [gA] at e'; cases e'
      exact hnf _ dA
    have noLoc : a ≠ X.env.locals := by
      intro q
      apply noFrame
      exact List.mem_filterMap.mpr ⟨X.env, List.mem_cons_self, by rw [frm, q]⟩
    have noFs : a ∉ X.fs := by
      intro hm
      obtain ⟨e, he, q⟩ := List.mem_filterMap.mp hm
      apply noFrame
      exact List.mem_filterMap.mpr ⟨e, List.mem_cons_of_mem _ he, q⟩
    -- a is new
    have fresh0 : a ∉ X.ex → X.s_0.heap.get? a = none := by
      intro hx
      cases q : X.s_0.heap.get? a with
      | none => rfl
      | some o =>
        obtain ⟨o', e'⟩ := J0.base.there a o q hx
        have := below a o' e' (by rw [stk]; exact noFrame)
        rw [bNo] at this; cases this
    have freshP : ∀ p ∈ X.pn ++ pins, p.1 ≠ a := by
      intro p hp q
      have e := (J0.pin p hp).1
      have := below p.1 p.2 e (by rw [stk, q]; exact noFrame)
      rw [q, bNo] at this; cases this
    have SA := JA.suite gA dA untr noLoc noFs
    refine wpAny_handleBy_cons (codeAny_handlers_test ?_) (by intro q; cases q)
    have lookTy : PySem.W.Looks (model X.prog X.w) hA (typeOf (.ref a)) cls := fun A' Q' E' s' k q =>
      wpAny_typeOf_ref (k _ _ gA) (by rw [zA.1]; exact q)
    have look := PySem.W.exm_one (M := model X.prog X.w) (JA.kIn) lookTy isb
    have clsLoad : ∀ {Q' : Value → Shared → Prop} {E' : Value → Shared → Prop}, Q' c { z with heap := hA } →
        wpAny (model X.prog X.w) (X.A.mark (some (.ref a))) (eval (.Name x np) X.env) Q' E' { z with heap := hA } := by
      intro Q' E' q
      obtain ⟨hg, hdbg, hm⟩ := nms
      rcases hm with hm | ⟨hm, hv, hnn⟩
      · exact ld_glob (X := X.suite a ((a, oA) :: (X.pn ++ pins))) SA hg hm q hdbg
      · exact ld_blt (X := X.suite a ((a, oA) :: (X.pn ++ pins))) SA hg hm hv q hnn hdbg
    apply clsLoad
    apply look.here
    cases b with
    | false =>
      show wpAny _ X.A (handleBy (.ref a) X.env []) _ _ _
      apply wpAny_handleBy_nil
      obtain ⟨_, _, _, o1, v1, T, oT, t1, e1, _, d1, q1, _⟩ := id flA
      unfold PySem.passOn
      apply wpAny_bind
      apply wpAny_field e1 d1 q1
      rw [if_neg (show ¬ ((Value.ref T == Value.none) = true) by simp)]
      have goOn : wpAny (model X.prog X.w) X.A (setFlight (.ref a) X.env.frame)
          (fun _ z4 => wpAny (model X.prog X.w) X.A (throw (.ref a) : Sem Flow) (SP X pins D) X.xe z4) X.xe { z with heap := hA } := by
        rw [frm]
        apply HandSPX.setFlight_upZ flA
        intro hB held upB
        apply wpAny_throw
        apply tak
        exact ⟨a, B, sI, pins, σ1, H1, cls, dx, rfl, J0, below, (upto.trans upA).trans upB, Or.inr (Or.inr (by rw [stk]; exact held)), untr, sameOs, gens, no rfl⟩
      first
        | exact wpAny_bind goOn
        | exact wpAny_bind (wpAny_pure (wpAny_bind goOn))
    | true =>
      obtain ⟨nodx, keepIt⟩ := yes rfl
      subst nodx
      apply codeAny_handlers_suite_as
      apply HandSPX.lands_againZ flA
      intro hB flB upB
      have JB : L2.Inv X pins σ1 H1 { z with heap := hB } :=
        J0.landed below flB.1 ((upto.trans upA).trans upB) sameOs gens
      obtain ⟨oB, vB, gB, zB, dB⟩ := flB.there
      have SB := JB.suite gB dB untr noLoc noFs
      apply store_ok (X := X.suite a ((a, oB) :: (X.pn ++ pins))) (v := .ref a) SB nod slot here rfl _ (.inr lcl)
      intro s5 S5
      refine wpAny_mono ((hsuite a oB cls none (X.pn ++ pins) zB ⟨_, dB⟩).run [] s5 _ H1 _ S5 (keepIt a untr)) (fun f s6 ends => ?_) fun _ _ q => q.elim
      cases f with
      | next =>
        obtain ⟨σ6, H6, S6, q6⟩ := ends
        refine gone_ok (X := X.suite a ((a, oB) :: (X.pn ++ pins))) S6 nod slot lcl fun s7 S7 => ?_
        obtain ⟨get7, un7, _⟩ := S7.pin (a, oB) (List.mem_append.mpr (Or.inl List.mem_cons_self))
        have J7 : L2.Inv X pins (σ6.set i none) H6 s7 := S7.unsuite okX
        refine ⟨σ6.set i none, upd H6 a (exHO cls a), adopt J7 un7 fresh0 noLoc (fun y cc e q => ?_) freshP (exHO_ok get7 zB ⟨_, dB⟩), q6 un7⟩
        obtain ⟨w', oc, e', d'⟩ := J7.cell y cc e
        rw [q, get7] at e'
        cases e'
        rw [dB] at d'; cases d'
      | brk => obtain ⟨_, _, _, q⟩ := ends; exact q.elim
      | cont => obtain ⟨_, _, _, q⟩ := ends; exact q.elim
      | ret u => obtain ⟨_, _, _, _, _, q⟩ := ends; exact q.elim
  refine wpAny_mono ((hbody (wKeep X.K c i ts Wout D) (X.pn ++ pins) xe1 tk1 PassesOwn.looking).run [] s0 σ H D (I.toTry _) want) (fun f s1 ends => ?_) fun e s1 q => q
  cases f with
  | ret u =>
    obtain ⟨v, τ, U, J, r, q⟩ := ends
    exact ⟨v, τ, U, J.ofTry okX, r, q⟩
  | next =>
    obtain ⟨τ, U, J, q⟩ := ends
    exact wpAny_execs_nil ⟨τ, U, J.ofTry okX, q⟩
  | cont =>
    obtain ⟨τ, U, J, q⟩ := ends
    exact ⟨τ, U, J.ofTry okX, q⟩
  | brk =>
    obtain ⟨τ, U, J, q⟩ := ends
    exact ⟨τ, U, J.ofTry okX, q⟩
end
section
variable {X : Cx}
/-- isinstance of a kept exception -/
def rIsX (K : PySem.W.Frag) : List V → Hp → VK → Prop := fun vs H Q => ∃ (a D : Addr) (c : V) (cv : Value) (b : Bool), vs = [.ref a, c] ∧ H a = some (exHO (.ref D) a) ∧ ExcC K D ∧ (∀ u, L2.RelV c u → u = cv) ∧ PySem.W.kitOne K (.ref D) cv = some b ∧ Q (.bl b) H
theorem bt_isx : CallR X (.builtin "isinstance") (rIsX X.K) := by
  intro pins s σ H vs us Q I r h
  obtain ⟨a, D, c, cv, b, rfl, ha, ec, hc, hk, q⟩ := h
  obtain ⟨⟨oe, fs, hg, hz, hd⟩, _, _⟩ := I.hok a _ ha
  cases r with
  | cons r1 r =>
    cases r with
    | cons r2 r =>
      cases r
      cases r1
      have e := hc _ r2
      subst e
      have at_ : PySem.W.InstAt s.heap a oe D none := by
        obtain ⟨k1, k2, k3, k4⟩ := oe
        obtain ⟨z1, z2⟩ := hz
        dsimp only at z1 z2 hd
        subst z1 z2 hd
        exact ⟨hg, rfl, rfl, trivial⟩
      have kx := PySem.W.handS_kitx_exc ec.hg ec.hk ec.hs ec.hd ec.ha ec.hn ec.ht ec.hm (x := a) (ox := oe)
      exact PySem.W.kia_one kx I.kIn at_ hk (fun z => nomatch z) fun tk => ⟨.bl b, H, I.kept (t' := tk) fun _ _ z => z, rfl, q⟩
end
section
variable {G : Pr} {X : Cx} {C : Ctx} {W : WX} {k : Nat}
theorem ClsV.one {mg : Str → Option Value} {c : Str} {u v : Value} (h : ClsV mg c u) (h2 : ClsV mg c v) : u = v := by
  rcases h with ⟨h, _⟩ | ⟨h, h', _⟩ <;> rcases h2 with ⟨g, _⟩ | ⟨g, g', _⟩
  · rw [h] at g; exact Option.some.inj g
  · rw [h] at g; cases g
  · rw [h] at g; cases g
  · rw [h'] at g'; exact Option.some.inj g'
theorem ClsV.load {c : Str} {cv : Value} {p : Pos} (h : ClsV X.mg c cv) (hg : Gl X c) (hd : (c == ("__debug__" : Str)) = false) : ∃ v : V, PE X (.Name c p) (tC v) ∧ ∀ u, L2.RelV v u → u = cv := by
  rcases h with ⟨h, C, rfl⟩ | ⟨h, h2, h3, t, rfl⟩
  · exact ⟨.ref C, pe_glob hg h rfl hd, fun u r => r⟩
  · exact ⟨.ty t, pe_bltn hg h h2 rfl h3 hd, fun u r => r⟩
/-- the asked exceptions -/
def isxB (G : Pr) (c : Str) (yes no : List Str) : Bool := (yes.all fun n => decide ((n, c, true) ∈ G.isx)) && no.all fun n => decide ((n, c, false) ∈ G.isx)
theorem s_isx (ok : Cok G X C W k) {a : Ex} {c : Str} {yes no : List Str} {a' : Expr} {p p2 pos : Pos} (hb : isxB G c yes no = true) (hne : ∃ n b, (n, c, b) ∈ G.isx) (hi : ("isinstance" : Str) ∈ G.blts) (hg : Gl X "isinstance") (hg2 : Gl X c) (hd : (c == ("__debug__" : Str)) = false) (ha : PE X a' (sE X C W a)) (h1 : nst a' = true) :
    PE X (.Call (.Name "isinstance" p) [a', .Name c p2] [] pos) (sE X C W (.isx a c yes no)) := by
  unfold isxB at hb
  simp only [Bool.and_eq_true, List.all_eq_true, decide_eq_true_eq] at hb
  obtain ⟨n0, b0, hm0⟩ := hne
  obtain ⟨D0, cv, _, _, hcv, _⟩ := ok.txt.isx _ hm0
  have hcv : ClsV X.mg c cv := hcv
  obtain ⟨v, pc, hv⟩ := hcv.load (p := p2) hg2 hd
  refine PE.weaken (pe_callB bt_isx hg (ok.txt.blt _ hi) (by decide +kernel) (pa_cons ha (pa_cons pc pa_nil (by rfl)) (star_one h1)) (by decide) (by decide) (star_one h1) rfl) fun σ H Q h => ?_
  exact (s_bind1 (f := fun x => M.of (isxD yes no x)) (fun _ => rfl) h).mono fun x H1 ⟨fb, ι, st, dx, S, rx, q⟩ => by
    obtain ⟨d, e, q⟩ := q.of
    have go : ∀ {n : Str} {b : Bool}, dx = .exc n [] → d = .bl b → (n, c, b) ∈ G.isx → rIsX X.K [x, v] H1 Q := fun {n b} hx hd hm => by
      subst hx hd
      obtain ⟨_, a, C0, rfl, m1, h2, _, _⟩ := rx
      obtain ⟨D1, cv1, n1, ec, c1, k1, _⟩ := ok.txt.isx _ hm
      have m1 : X.mg n = some (.ref C0) := by rw [ok.hX.2.2]; exact m1
      have n1 : X.mg n = some (.ref D1) := n1
      rw [m1] at n1; cases n1
      have := ClsV.one hcv c1
      subst this
      exact ⟨a, C0, v, cv, b, rfl, h2, ec, hv, k1, q ι H1 Grow.refl S _ rfl⟩
    unfold isxD at e
    split at e
    · rename_i n
      split at e
      · rename_i hn; cases e; exact go rfl rfl (hb.1 n hn)
      · split at e
        · rename_i hn; cases e; exact go rfl rfl (hb.2 n hn)
        · cases e
    · cases e
/-! ### try -/
theorem RelE.keep2 {K : PySem.W.Frag} {H : Hp} {fb ι : List Addr} {env : Env} {σ : L2.St} {i j : Nat} {d : D} {v y : V} (h : RelE K H fb ι env σ) (hj : j < env.length) (r : Rel K H fb ι d v) : RelE K H fb ι ((env.set j (some d)).set i none) (((σ.set i (some y)).set j (some v)).set i none) := by
  refine ⟨by simp [h.1], fun n d' e => ?_⟩
  by_cases hi : i = n
  · subst hi
    by_cases hl : i < (env.set j (some d)).length
    · rw [List.getElem?_set_self hl] at e; cases e
    · rw [List.getElem?_eq_none (by simpa using hl)] at e; cases e
  · rw [List.getElem?_set_ne hi] at e ⊢
    by_cases hjn : j = n
    · subst hjn
      rw [List.getElem?_set_self hj] at e; cases e
      exact ⟨v, by rw [List.getElem?_set_self (by rw [List.length_set, ← h.1]; exact hj)], r⟩
    · rw [List.getElem?_set_ne hjn] at e ⊢
      rw [List.getElem?_set_ne hi]
      exact h.2 n d' e
theorem ss_try (ok : Cok G X C W k) {b : Sxs} {c : Str} {yes : List Str} {i j : Nat} {x y : Str} {body : List Stmt} {np npos apos py hpos pos : Pos} (hb : yes.all (fun n => decide ((n, c, true) ∈ G.isx)) = true) (hne : yes ≠ []) (hg : Gl X c) (hd : (c == ("__debug__" : Str)) = false)
    (stk : X.stack = X.env :: X.outer) (frm : X.env.frame = some X.env.locals) (hi : X.N[i]? = some x) (hj : X.N[j]? = some y) (hx : X.env.scope.names.lookup x = some .local) (hy : X.env.scope.names.lookup y = some .local) (hkx : X.env.kindOf x = some .local) (hvx : Vis X.env.scope x) (hdx : (x == ("__debug__" : Str)) = false) (hcx : (x == ("__classdict__" : Str)) = false) (hly : Loc X.env.scope y)
    (hs : ∀ (pn : List (Addr × Obj)) (a : Addr), swapsWith (.Name x npos) (some (.Name y py)) apos.line (X.suite a pn).env = pure false)
    (hbody : ∀ (W' : WX) (pn' : List (Addr × Obj)) (xe' : Value → Shared → Prop), Cok G (X.tr pn' xe') C W' k → PassesOwn (model X.prog X.w) X.A X.env xe' → PSs (X.tr pn' xe') body (sSs (X.tr pn' xe') C W' b)) :
    PS X (.Try body [.ExceptHandler (some (.Name c np)) (some x) [.Assign [.Name y py] (.Name x npos) apos] hpos] [] [] pos) (sS X C W (.try_ b c yes i j)) := by
  simp only [List.all_eq_true, decide_eq_true_eq] at hb
  obtain ⟨n0, hn0⟩ := List.exists_mem_of_ne_nil _ hne
  obtain ⟨D0, cv, _, _, hcv, _⟩ := ok.txt.isx _ (hb n0 hn0)
  have hcv : ClsV X.mg c cv := hcv
  have nms : Names X c cv := ⟨hg, hd, by
    rcases hcv with ⟨h, _⟩ | ⟨h, h2, h3, _⟩
    · exact .inl h
    · exact .inr ⟨h, h2, h3⟩⟩
  refine PS.weaken (ps_keep (ts := fun _ _ _ => tAsg (tVar i) (gName j)) (Wout := W) (tb := fun W' => sSs X C W' b) stk frm ok.nd hi hkx nms ok.tk (fun W' pn' xe' tk hp => hbody W' pn' xe' ⟨ok.calm, ok.hX, ok.nd, ok.gd, ok.room, tk, ok.txt⟩ hp) (fun a ob cls dx pn' hz hf => ?_)) fun D σ H h => ?_
  · exact pss_one (ps_set (X := X.suite a ((a, ob) :: pn')) ok.nd hj hly (pe_var (X := X.suite a ((a, ob) :: pn')) hi hvx hdx hcx) (hs _ a) (.inr hy))
  · obtain ⟨fb, ι, env, st, hE, hS, hp⟩ := h
    refine ⟨fb, ι, env, st, hE, hS, ?_⟩
    have hp : Po X.K fb (catchM yes i j (evSs C b env) st) (flE X W fb D) (exS X W) ι H := hp
    unfold catchM at hp
    cases q : evSs C b env st with
    | none => rw [q] at hp; exact hp.elim
    | some o =>
      rw [q] at hp
      cases o with
      | ex e s => exact hp.elim
      | ok f st' =>
        cases f with
        | nx env' => exact hp
        | rt d => exact hp
        | bk env' => exact hp
        | ct env' => exact hp
        | er env' e =>
          cases e with
          | exc n vs =>
            cases vs with
            | cons d ds => exact hp.elim
            | nil =>
              have hp : Po X.K fb (if n ∈ yes && Nat.blt i env'.length && Nat.blt j env'.length then some (.ok (.nx ((env'.set j (some (.exc n []))).set i none)) st') else none) (flE X W fb D) (exS X W) ι H := hp
              split at hp
              case isFalse => exact hp.elim
              rename_i hc
              simp only [Bool.and_eq_true, decide_eq_true_eq] at hc
              intro ι' H' g S' σ' hE' cls dx rx
              obtain ⟨n', C1, e1, m1, rfl, rfl⟩ := rx
              cases e1
              obtain ⟨D1, cv1, n1, _, c1, _, k1⟩ := ok.txt.isx _ (hb n hc.1.1)
              have n1 : X.mg n = some (.ref D1) := n1
              rw [m1] at n1; cases n1
              have := ClsV.one hcv c1
              subst this
              refine ⟨true, k1, fun _ => ⟨rfl, fun a ha => ?_⟩, fun z => nomatch z⟩
              have hil : i < σ'.length := by rw [← hE'.1]; exact Nat.le_of_ble_eq_true hc.1.2
              refine ⟨.ref a, List.getElem?_set_self hil, fun _ => ?_⟩
              have f := S'.fresh ha
              have gl : Grow ι' H' ι' (upd H' a (exHO (.ref C1) a)) := Grow.laid ha
              exact hp ι' _ (g.trans gl) (S'.laid ha) _ ((hE'.mono gl).keep2 (Nat.le_of_ble_eq_true hc.2) ⟨rfl, a, C1, rfl, by rw [← ok.hX.2.2]; exact m1, upd_same, f.1, f.2⟩)
          | _ => exact hp.elim
end
end Wk

set_option maxRecDepth 100000
set_option maxHeartbeats 2000000
/-! WkY: while, more methods, xs[::-1]. -/
namespace Wk
open PySem PySem.Spec PyProof.Rows L2
variable [pw : PrW]

section
variable {G : Pr} {X : Cx} {C : Ctx} {W : WX} {k : Nat}
/-- no super() -/
def abaseB : Expr → Bool
  | .Call (.Name _ _) [] [] _ => false
  | _ => true
omit pw in
theorem abase_ok {o : Expr} {m : Str} {env : PySem.Env} {w : Sem Value} (h : abaseB o = true) : attributeBase o m env w = w := by
  unfold attributeBase
  split
  · cases h
  · rfl
theorem few_ok {cpos : Pos} {es : List Expr} {env : PySem.Env} (h : es.all nst = true) (hl : es.length < 29) : ((backTo cpos (starEach es env)).all (fun x => !x.1) && (backToKw cpos (keywordEach [] env)).all (fun x => x.1.isSome) && decide (es.length + ([] : List Keyword).length + (if ([] : List Keyword).isEmpty then 0 else 1) < 30)) = true := by
  have h1 : (backTo cpos (starEach es env)).all (fun x => !x.1) = true := by
    have := star_all (pos := cpos) (env := env) h
    rw [List.all_eq_not_any_not]
    simpa using this
  rw [h1]
  simp [backToKw, keywordEach]
  omega
/-- a method with arguments -/
theorem s_mt {m : Str} {id T : String} (pa : PlainAttrs T) (slot : Slot T m id) (hty : typeOf (.builtin id) = pure (.type "method_descriptor")) (md : MtR X id (rMet X.K (metD m)))
    (ty : ∀ {x : D} {st : Store} {H : Hp} {fb ι : List Addr} {v : V}, metTy m x st = some () → RelS X.K H fb ι st → Rel X.K H fb ι x v → TyG X T v H) {a : Ex} {xs : Exs} {o : Expr} {es : List Expr} {apos cpos : Pos}
    (ha : PE X o (sE X C W a)) (hA : PA X es (sA X C W xs)) (hab : abaseB o = true) (h1 : es.all nst = true) (hl : es.length < 29) (hne : es ≠ []) (hline : (apos.endLine == cpos.line) = true) : PE X (.Call (.Attribute o m apos) es [] cpos) (sE X C W (.met m a xs)) := by
  cases es with
  | nil => exact absurd rfl hne
  | cons e es =>
    have h2 := h1
    rw [List.all_cons, Bool.and_eq_true] at h2
    exact PE.weaken (pe_mG pa slot hty md ha hA (abase_ok hab) (few_ok h1 hl) hline h2.1 h2.2) fun σ H Q h => s_metG ty h
def mtB (m : Str) (n : Nat) : Bool := decide ((m, n) ∈ ([("append", 1), ("insert", 2), ("count", 1), ("index", 1), ("pop", 1), ("get", 1), ("get", 2)] : List (Str × Nat)))
theorem s_mts (ok : Cok G X C W k) {m : Str} {a : Ex} {xs : Exs} {o : Expr} {es : List Expr} {apos cpos : Pos} (hm : mtB m es.length = true)
    (ha : PE X o (sE X C W a)) (hA : PA X es (sA X C W xs)) (hab : abaseB o = true) (h1 : es.all nst = true) (hline : (apos.endLine == cpos.line) = true) : PE X (.Call (.Attribute o m apos) es [] cpos) (sE X C W (.met m a xs)) := by
  unfold mtB at hm
  rw [decide_eq_true_eq] at hm
  simp only [List.mem_cons, List.not_mem_nil, or_false, Prod.mk.injEq] at hm
  have ne : ∀ {n : Nat}, es.length = n → 0 < n → es ≠ [] := fun e hn z => by subst z; simp at e; omega
  rcases hm with ⟨rfl, hl⟩ | ⟨rfl, hl⟩ | ⟨rfl, hl⟩ | ⟨rfl, hl⟩ | ⟨rfl, hl⟩ | ⟨rfl, hl⟩ | ⟨rfl, hl⟩
  · exact s_mt F.plainAttrs_list F.slot_list_append F.type_list_append md_append (fun h S r => tyG_list (m := "append") (by decide +kernel) h S r) ha hA hab h1 (by omega) (ne hl (by decide)) hline
  · exact s_mt F.plainAttrs_list F.slot_list_insert F.type_list_insert md_insert (fun h S r => tyG_list (m := "insert") (by decide +kernel) h S r) ha hA hab h1 (by omega) (ne hl (by decide)) hline
  · exact s_mt F.plainAttrs_list F.slot_list_count F.type_list_count (md_count ok.hu) (fun h S r => tyG_list (m := "count") (by decide +kernel) h S r) ha hA hab h1 (by omega) (ne hl (by decide)) hline
  · exact s_mt F.plainAttrs_list F.slot_list_index F.type_list_index (md_index ok.hu) (fun h S r => tyG_list (m := "index") (by decide +kernel) h S r) ha hA hab h1 (by omega) (ne hl (by decide)) hline
  · exact s_mt F.plainAttrs_list F.slot_list_pop F.type_list_pop md_pop (fun h S r => tyG_list (m := "pop") (by decide +kernel) h S r) ha hA hab h1 (by omega) (ne hl (by decide)) hline
  · exact s_mt F.plainAttrs_dict F.slot_dict_get F.type_dict_get (md_get ok) (fun h S r => tyG_dict ok (m := "get") (by decide +kernel) h S r) ha hA hab h1 (by omega) (ne hl (by decide)) hline
  · exact s_mt F.plainAttrs_dict F.slot_dict_get F.type_dict_get (md_get ok) (fun h S r => tyG_dict ok (m := "get") (by decide +kernel) h S r) ha hA hab h1 (by omega) (ne hl (by decide)) hline
theorem s_pop0 {a : Ex} {o : Expr} {apos cpos : Pos} (ha : PE X o (sE X C W a)) (hab : abaseB o = true) (hline : (apos.endLine == cpos.line) = true) : PE X (.Call (.Attribute o "pop" apos) [] [] cpos) (sE X C W (.met "pop" a .nil)) :=
  PE.weaken (pe_mG0 F.plainAttrs_list F.slot_list_pop F.type_list_pop md_pop ha (abase_ok hab) hline) fun σ H Q h => (s_metG (fun h S r => tyG_list (m := "pop") (by decide +kernel) h S r) h).mono fun x H1 ⟨t, fb, ι, env, st, hE, hS, q⟩ =>
    ⟨t, q ι H1 Grow.refl hS [] rfl⟩
theorem s_sorted (ok : Cok G X C W k) {xs : Exs} {e : Expr} {es : List Expr} {p pos : Pos} (hm : ("sorted" : Str) ∈ G.blts) (hg : Gl X "sorted") (ha : PA X (e :: es) (sA X C W xs)) (h1 : nst e = true) (h2 : es.all nst = true) :
    PE X (.Call (.Name "sorted" p) (e :: es) [] pos) (sE X C W (.blt "sorted" xs)) :=
  PE.weaken (pe_callB (bt_sorted ok.hX ok.calm) hg (ok.txt.blt _ hm) (by decide +kernel) ha (by decide) (by decide) (star_one h1) (star_all h2)) fun σ H Q h => s_bltF h
/-! ### reversed -/
theorem rels_rev {K : PySem.W.Frag} {H : Hp} {fb ι : List Addr} : ∀ (ds : List D) {xs : List V}, Rels K H fb ι ds xs → Rels K H fb ι ds.reverse xs.reverse
  | [], xs, h => by have h : xs = [] := h; rw [h]; rfl
  | d :: ds, xs, h => by
    obtain ⟨y, ys, rfl, r, rs⟩ := h
    rw [List.reverse_cons, List.reverse_cons]
    exact (rels_rev ds rs).append (Rels.one r)
theorem s_rev {a : Ex} {a' : Expr} {j : Nat} {p1 p2 p3 pos : Pos} (ha : PE X a' (sE X C W a)) : PE X (.Subscript a' (.Slice none none (some (.UnaryOp .USub (.Constant (.int 1) j p1) p2)) p3) pos) (sE X C W (.rev a)) :=
  PE.weaken (pe_revL ha) fun σ H Q h => (s_bind1 (f := fun x => M.rd fun st => revD st x) (fun _ => rfl) h).mono fun x H1 ⟨fb, ι, st, dx, S, rx, q⟩ => by
    obtain ⟨d, e, q⟩ := q.rd
    unfold revD at e
    cases z : lsOf st dx with
    | none => rw [z] at e; cases e
    | some ys =>
      rw [z] at e; cases e
      obtain ⟨a, xs, rfl, h1, h2⟩ := ls_of S rx z
      exact ⟨a, xs, rfl, h1, fun p hp => q ι _ (Grow.laid hp) (S.laid hp) _ (rel_lst S hp (rels_rev ys h2))⟩
/-! ### while -/
theorem whileM_ok {f : Env → M Fl} {env : Env} {st : Store} {r : Out Fl} (h : whileM f env st = some r) : ∃ n, whileN f n env st = some r := by
  unfold whileM at h
  split at h
  · rename_i r' e; cases h; exact ⟨_, e⟩
  · split at h
    · rename_i z
      cases h
      exact ⟨_, Classical.choose_spec (Classical.choose_spec z)⟩
    · cases h
theorem ss_whl (hp : PassesOwn (model X.prog X.w) X.A X.env X.xe) {c : Ex} {body : Sxs} {c' : Expr} {body' : List Stmt} {pos : Pos} (hc : PT X c' (sT X C W c)) (hb : PSs X body' (sSs X C W body)) : PS X (.While c' body' [] pos) (sS X C W (.whl c body)) :=
  PS.weaken (ps_while hp hc hb) fun D σ H ⟨fb, ι, env, st, hE, hS, hp⟩ => by
    let f : Env → M Fl := fun env => M.tr env (evE C c env >>= asB) fun r => if r then fun st => trimM st.length env (evSs C body env) st else pure (.bk env)
    have hp : Po X.K fb (whileM f env st) (flE X W fb D) (exS X W) ι H := hp
    obtain ⟨n, hn⟩ : ∃ n, Po X.K fb (whileN f n env st) (flE X W fb D) (exS X W) ι H := by
      cases q : whileM f env st with
      | none => rw [q] at hp; exact hp.elim
      | some r =>
        obtain ⟨n, e⟩ := whileM_ok q
        exact ⟨n, by rw [e, ← q]; exact hp⟩
    refine ⟨fun m σ H => ∃ ι env st, RelE X.K H fb ι env σ ∧ RelS X.K H fb ι st ∧ Po X.K fb (whileN f m env st) (flE X W fb D) (exS X W) ι H, ⟨n, ι, env, st, hE, hS, hn⟩, ?_⟩
    clear hp hn hE hS
    rintro m σ H ⟨ι, env, st, hE, hS, hp⟩
    cases m with
    | zero => exact hp.elim
    | succ m =>
      let kont : Fl → M Fl := fun r => match r with
        | .nx env' => whileN f m env'
        | .bk env' => pure (.nx env')
        | r => pure r
      have h1 := Po.bind (m := f env) (f := kont) hp
      have h2 := Po.tr h1
      refine ⟨fb, ι, env, st, hE, hS, h2.mono (fun r st1 ι1 H1 g S q => ?_) fun e st1 ι1 H1 g S q cls dx rx => ?_⟩
      · cases r with
        | false =>
          have q := q ι1 H1 Grow.refl S
          exact q ι1 H1 Grow.refl S σ (hE.mono g)
        | true =>
          rw [if_pos rfl]
          refine ⟨fun σ' H' => ∃ ι env st, RelE X.K H' fb ι env σ' ∧ RelS X.K H' fb ι st ∧ Po X.K fb (whileN f m env st) (flE X W fb D) (exS X W) ι H', fun σ' H' z => ⟨m, Nat.lt_succ_self m, z⟩, fb, ι1, env, st1, hE.mono g, S, (trim_ok S q).mono (fun fl st2 ι2 H2 g2 S2 q => ?_) fun _ _ _ _ _ _ q => q⟩
          cases fl with
          | nx env1 =>
            obtain ⟨ιt, stt, envt, gt, St, ht, q⟩ := q
            exact fun σ' he' => ⟨ιt, envt, stt, ht σ' he', St, q⟩
          | ct env1 =>
            obtain ⟨ιt, stt, envt, gt, St, ht, q⟩ := q
            exact fun σ' he' => ⟨ιt, envt, stt, ht σ' he', St, q⟩
          | rt d => exact q ι2 H2 Grow.refl S2
          | bk env1 => exact q ι2 H2 Grow.refl S2
          | er env1 e => exact q ι2 H2 Grow.refl S2
      · exact q ι1 H1 Grow.refl S σ (hE.mono g) cls dx rx
end
end Wk

set_option maxRecDepth 100000
set_option maxHeartbeats 1000000
/-! Wk18: whether an expression of the text is what the own syntax says. -/
namespace Wk
open PySem PySem.Spec PyProof.Rows L2
variable [pw : PrW]

def strip : Expr → Expr
  | .BoolOp _ [y] _ => y
  | e => e
def glB (sc : Scope) (x : Str) : Bool := decide (sc.names.lookup x = some .globalImplicit) && !(x == ("__debug__" : Str))
def visB (sc : Scope) (x : Str) : Bool := (decide (sc.names.lookup x = some .local) || decide (sc.names.lookup x = some .cell) || decide (sc.names.lookup x = some .free)) && !(x == ("__debug__" : Str)) && !(x == ("__classdict__" : Str))
def locB (sc : Scope) (x : Str) : Bool := decide (sc.names.lookup x = some .local) || decide (sc.names.lookup x = some .cell)
/-- the block's scope as it comes to stand in sc0 -/
def relS (sc0 scope : Scope) : Scope := { scope with names := scope.names.map fun (n, k) => if (k == .free && sc0.kind == .function && sc0.names.lookup n == some .cell) then (n, .cell) else (n, k) }
/-- what a block may bind -/
def blkB (sc0 scope : Scope) (x : Str) : Bool := decide ((relS sc0 scope).names.lookup x = some .local) || (decide ((relS sc0 scope).names.lookup x = some .cell) && decide (scope.names.lookup x = some .cell))
def cstB : D → Const → Bool
  | .non, .none => true
  | .bl b, .bool c => b == c
  | .int i, .int j => decide (i = j)
  | .str x, .str y => decide (x = y)
  | _, _ => false
def nilX : Exs → Bool
  | .nil => true
  | _ => false
def isTupE : Expr → Bool
  | .Tuple .. => true
  | _ => false
def nameB : Expr → Bool
  | .Name .. => true
  | _ => false
/-- the names of both clauses -/
def two (own : List (Str × Nat)) (vs1 : List Nat) (tg tg1 : Tg) : Bool := (tgIx tg).all (fun i => decide (i ∈ own.map (·.2))) && (tgIx tg1).all (fun i => decide (i ∈ vs1)) && vs1.all fun i => decide (i ∈ own.map (·.2))
/-- the arguments of what a loop walks -/
def itArgs (k : IK) (e : Expr) : List Expr := match k, e with
  | .val, e => [e]
  | _, .Call _ es _ _ => es
  | _, _ => []
def itB (G : Pr) (sc : Scope) (k : IK) (e tg : Expr) : Bool := match k, e with
  | .val, e => nst e
  | .range1, .Call (.Name f _) [a] [] _ => decide (f = "range") && glB sc f && decide (f ∈ G.blts) && nst a
  | .range2, .Call (.Name f _) [a, b] [] _ => decide (f = "range") && glB sc f && decide (f ∈ G.blts) && nst a && nst b
  | .enum, .Call (.Name f _) [a] [] _ => decide (f = "enumerate") && glB sc f && decide (f ∈ G.blts) && nst a && isTupE tg
  | .zip, .Call (.Name f _) [a, b] [] _ => decide (f = "zip") && glB sc f && decide (f ∈ G.blts) && nst a && nst b && isTupE tg
  | _, _ => false
mutual
def mTg (N : List Str) (tB : Str → Bool) : Tg → Expr → Bool
  | .nm i, e => match e with
    | .Name x _ => decide (N[i]? = some x) && tB x
    | _ => false
  | .tp ts, e => match e with
    | .Tuple es _ _ => mTgs N tB ts es
    | _ => false
def mTgs (N : List Str) (tB : Str → Bool) : Tgs → List Expr → Bool
  | .nil, es => es.isEmpty
  | .cons t r, es => match es with
    | e :: es => nst e && mTg N tB t e && mTgs N tB r es
    | [] => false
end
mutual
def m (G : Pr) (N : List Str) : Scope → Bool → Ex → Expr → Bool
  | sc, t, .cst c, e => match strip e with
    | .Constant v _ _ => cstB c v
    | _ => false
  | sc, t, .var i, e => match strip e with
    | .Name x _ => decide (N[i]? = some x) && visB sc x
    | _ => false
  | sc, t, .gst x, e => match strip e with
    | .Name y _ => decide (y = x) && glB sc x
    | _ => false
  | sc, t, .bin o a b, e => match strip e with
    | .BinOp a' o' b' _ => decide (o' = o) && m G N sc false a a' && m G N sc false b b'
    | _ => false
  | sc, t, .cat a b, e => match strip e with
    | .BinOp a' o' b' _ => decide (o' = .Add) && m G N sc false a a' && m G N sc false b b'
    | _ => false
  | sc, t, .neg a, e => match strip e with
    | .UnaryOp .USub a' _ => m G N sc false a a'
    | _ => false
  | sc, t, .cmp o a b, e => match strip e with
    | .Compare a' [o'] [b'] _ => decide (o' = o) && m G N sc false a a' && m G N sc false b b' && !behindInMarks o b'
    | _ => false
  | sc, t, .cmp2 o p a b c, e => match strip e with
    | .Compare a' [o', p'] [b', c'] _ => decide (o' = o) && decide (p' = p) && m G N sc false a a' && m G N sc false b b' && m G N sc false c c' && !lastMarks [o, p] [b', c']
    | _ => false
  | sc, t, .and a b, e => match strip e with
    | .BoolOp .And (x :: y :: rest) p => m G N sc t a x && m G N sc t b (.BoolOp .And (y :: rest) p)
    | _ => false
  | sc, t, .or a b, e => match strip e with
    | .BoolOp .Or (x :: y :: rest) p => m G N sc t a x && m G N sc t b (.BoolOp .Or (y :: rest) p)
    | _ => false
  | sc, t, .not a, e => match strip e with
    | .UnaryOp .Not a' _ => m G N sc t a a'
    | _ => false
  | sc, t, .ife c a b, e => match strip e with
    | .IfExp c' a' b' _ => !t && m G N sc true c c' && m G N sc false a a' && m G N sc false b b'
    | _ => false
  | sc, t, .tup xs, e => match strip e with
    | .Tuple es _ _ => mA G N sc xs es
    | _ => false
  | sc, t, .lst _ xs, e => match strip e with
    | .List es _ => mA G N sc xs es
    | _ => false
  | sc, t, .ix a b, e => match strip e with
    | .Subscript a' b' _ => plainB b' && m G N sc false a a' && m G N sc false b b'
    | _ => false
  | sc, t, .sl a lo hi, e => match strip e with
    | .Subscript a' (.Slice lo' hi' none _) _ => m G N sc false a a' && (match lo' with
      | none => isNon lo
      | some l => !isNon lo && m G N sc false lo l) && (match hi' with
      | none => isNon hi
      | some h => !isNon hi && m G N sc false hi h)
    | _ => false
  | sc, t, .call _ f xs, e => match strip e with
    | .Call (.Name g _) es [] _ => decide (g = f) && glB sc f && (G.fns f).isSome && es.all nst && mA G N sc xs es
    | _ => false
  | sc, t, .blt f xs, e => match strip e with
    | .Call (.Name g _) (e1 :: es) [] _ => decide (g = f) && glB sc f && (decide (f ∈ btNames) || decide (f = "sorted")) && decide (f ∈ G.blts) && nst e1 && es.all nst && mA G N sc xs (e1 :: es)
    | _ => false
  | sc, t, .lsa xs, e => match strip e with
    | .Call (.Name g _) [e1] [] _ => decide (g = "list") && glB sc g && decide (g ∈ G.blts) && nst e1 && mA G N sc xs [e1]
    | _ => false
  | sc, t, .isi a ty, e => match strip e with
    | .Call (.Name g _) [a', .Name h _] [] _ => decide (g = "isinstance") && decide (h = Str.ofString ty) && decide (ty ∈ isiTys) && decide (g ∈ G.blts) && decide (h ∈ G.blts) && glB sc g && glB sc h && nst a' && m G N sc false a a'
    | _ => false
  | sc, t, .met mm a xs, e => match strip e with
    | .Call (.Attribute o mm' apos) es [] cpos => decide (mm' = mm) && (apos.endLine == cpos.line) && m G N sc false a o && mA G N sc xs es && (if mtB mm es.length then abaseB o && es.all nst
      else es.isEmpty && nilX xs && ((decide (mm = "bit_length") && nameB o) || (decide (mm = "pop") && abaseB o)))
    | _ => false
  | sc, t, .dct _ xs, e => match strip e, xs with
    | .Dict [] [] _, .nil => true
    | .Dict [some a'] [b'] _, .cons false a (.cons false b .nil) => m G N sc false a a' && m G N sc false b b'
    | _, _ => false
  | sc, t, .rev a, e => match strip e with
    | .Subscript a' (.Slice none none (some (.UnaryOp .USub (.Constant (.int 1) _ _) _)) _) _ => m G N sc false a a'
    | _ => false
  | sc, t, .isx a c yes no, e => match strip e with
    | .Call (.Name g _) [a', .Name h _] [] _ => decide (g = "isinstance") && decide (h = c) && isxB G c yes no && (G.isx.any fun q => decide (q.2.1 = c)) && decide (g ∈ G.blts) && glB sc g && glB sc h && nst a' && m G N sc false a a'
    | _ => false
  | sc, t, .isl _, e => false
  | sc, t, .dc _ kx vx tg k xs hi c own, e => match strip e with
    | .DictComp kx' vx' [⟨tg', iter, ifs, 0⟩] scope _ => blkC N sc scope own && (tgIx tg).all (fun i => decide (i ∈ own.map (·.2))) && mTg N (blkB sc scope) tg tg' && nsetB iter && itB G sc k iter tg' && mA G N sc xs (itArgs k iter) && m G N (relS sc scope) false kx kx' && m G N (relS sc scope) false vx vx' && (match ifs with
      | [] => !hi
      | [c'] => hi && m G N (relS sc scope) true c c'
      | _ => false)
    | _ => false
  | sc, t, .lc2 _ x tg k xs hi c tg1 k1 xs1 hi1 c1 own vs1, e => match strip e with
    | .ListComp elt [⟨tg', iter, ifs, 0⟩, ⟨tg1', iter1, ifs1, 0⟩] scope _ => blkC N sc scope own && two own vs1 tg tg1 && mTg N (blkB sc scope) tg tg' && mTg N (blkB sc scope) tg1 tg1' && nsetB iter && nsetB iter1 && itB G sc k iter tg' && itB G (relS sc scope) k1 iter1 tg1' && mA G N sc xs (itArgs k iter) && mA G N (relS sc scope) xs1 (itArgs k1 iter1) && m G N (relS sc scope) false x elt && (match ifs with
      | [] => !hi
      | [c'] => hi && m G N (relS sc scope) true c c'
      | _ => false) && (match ifs1 with
      | [] => !hi1
      | [c'] => hi1 && m G N (relS sc scope) true c1 c'
      | _ => false)
    | _ => false
  | sc, t, .dc2 _ kx vx tg k xs hi c tg1 k1 xs1 hi1 c1 own vs1, e => match strip e with
    | .DictComp kx' vx' [⟨tg', iter, ifs, 0⟩, ⟨tg1', iter1, ifs1, 0⟩] scope _ => blkC N sc scope own && two own vs1 tg tg1 && mTg N (blkB sc scope) tg tg' && mTg N (blkB sc scope) tg1 tg1' && nsetB iter && nsetB iter1 && itB G sc k iter tg' && itB G (relS sc scope) k1 iter1 tg1' && mA G N sc xs (itArgs k iter) && mA G N (relS sc scope) xs1 (itArgs k1 iter1) && m G N (relS sc scope) false kx kx' && m G N (relS sc scope) false vx vx' && (match ifs with
      | [] => !hi
      | [c'] => hi && m G N (relS sc scope) true c c'
      | _ => false) && (match ifs1 with
      | [] => !hi1
      | [c'] => hi1 && m G N (relS sc scope) true c1 c'
      | _ => false)
    | _ => false
  | sc, t, .lc _ x tg k xs hi c own, e => match strip e with
    | .ListComp elt [⟨tg', iter, ifs, 0⟩] scope _ => blkC N sc scope own && (tgIx tg).all (fun i => decide (i ∈ own.map (·.2))) && mTg N (blkB sc scope) tg tg' && nsetB iter && itB G sc k iter tg' && mA G N sc xs (itArgs k iter) && m G N (relS sc scope) false x elt && (match ifs with
      | [] => !hi
      | [c'] => hi && m G N (relS sc scope) true c c'
      | _ => false)
    | _ => false
def mA (G : Pr) (N : List Str) : Scope → Exs → List Expr → Bool
  | sc, .nil, es => es.isEmpty
  | sc, .cons false e r, es => match es with
    | e' :: es => nst e' && m G N sc false e e' && mA G N sc r es
    | [] => false
  | sc, .cons true e r, es => match es with
    | .Starred e' _ :: es => m G N sc false e e' && mA G N sc r es
    | _ => false
end
/-! ### what it says -/
structure Mx (G : Pr) (N : List Str) (sc : Scope) (X : Cx) (C : Ctx) (W : WX) (k : Nat) : Prop where
  ok : Cok G X C W k
  hsc : X.env.scope = sc
  hN : X.N = N
  kind : sc.kind = .function
section
variable {G : Pr} {N : List Str} {sc : Scope} {X : Cx} {C : Ctx} {W : WX} {k : Nat}
theorem glB_ok (M : Mx G N sc X C W k) {x : Str} (h : glB sc x = true) : Gl X x ∧ (x == ("__debug__" : Str)) = false := by
  unfold glB at h
  rw [Bool.and_eq_true, decide_eq_true_eq, Bool.not_eq_true'] at h
  exact ⟨by show X.env.scope.names.lookup x = _; rw [M.hsc]; exact h.1, h.2⟩
theorem visB_ok (M : Mx G N sc X C W k) {x : Str} (h : visB sc x = true) : Vis X.env.scope x ∧ (x == ("__debug__" : Str)) = false ∧ (x == ("__classdict__" : Str)) = false := by
  unfold visB at h
  simp only [Bool.and_eq_true, Bool.or_eq_true, decide_eq_true_eq, Bool.not_eq_true'] at h
  rw [M.hsc]
  refine ⟨?_, h.1.2, h.2⟩
  rcases h.1.1 with (z | z) | z
  · exact .inl z
  · exact .inr (.inl z)
  · exact .inr (.inr z)
def TgOk (X : Cx) (tB : Str → Bool) : Prop := ∀ x, tB x = true → Loc X.env.scope x ∧ (X.fn x = true ∨ X.env.scope.names.lookup x = some .local)
theorem locB_ok (M : Mx G N sc X C W k) (hf : ∀ x, X.fn x = true) : TgOk X (locB sc) := by
  intro x h
  unfold locB at h
  rw [Bool.or_eq_true, decide_eq_true_eq, decide_eq_true_eq] at h
  rw [M.hsc]
  exact ⟨h, .inl (hf x)⟩
theorem cst_ok {c : D} {v : Const} {j : Nat} {pos : Pos} (h : cstB c v = true) : PE X (.Constant v j pos) (sE X C W (.cst c)) := by
  cases c with
  | non => cases v with
    | none => exact s_cst (v := .non) (fun _ _ _ _ => rfl) pe_non
    | _ => cases h
  | bl b => cases v with
    | bool d =>
      have e : b = d := by simpa [cstB] using h
      subst e
      exact s_cst (v := .bl b) (fun _ _ _ _ => rfl) pe_bl
    | _ => cases h
  | int i => cases v with
    | int d =>
      have e : i = d := of_decide_eq_true h
      subst e
      exact s_cst (v := .int i) (fun _ _ _ _ => rfl) pe_int
    | _ => cases h
  | str x => cases v with
    | str d =>
      have e : x = d := of_decide_eq_true h
      subst e
      exact s_cst (v := .str x) (fun _ _ _ _ => rfl) pe_str
    | _ => cases h
  | _ => cases v <;> cases h
def Res (X : Cx) (C : Ctx) (W : WX) : Bool → Ex → Expr → Prop
  | false, b, e => PE X e (sE X C W b)
  | true, b, e => PT X e (sT X C W b) ∧ ∀ op xs p, e = .BoolOp op xs p → PW X e (sT X C W b)
theorem strip_res {t : Bool} {b : Ex} {e : Expr} (h : Res X C W t b (strip e)) : Res X C W t b e := by
  unfold strip at h
  split at h
  · rename_i op y p
    cases t with
    | false => exact s_one h
    | true =>
      have w : PW X (.BoolOp op [y] p) (sT X C W b) := by
        cases op with
        | And => exact pw_and1 h.1
        | Or => exact pw_or1 h.1
      exact ⟨w.pt, fun _ _ _ _ => w⟩
  · exact h
theorem res_val {t : Bool} {b : Ex} {e : Expr} (h : PE X e (sE X C W b)) (hv : valB e = true) : Res X C W t b e := by
  cases t with
  | false => exact h
  | true => exact ⟨t_val h (val_true hv), fun _ _ _ z => by subst z; cases hv⟩
theorem res_w {b : Ex} {e : Expr} (h : PW X e (sT X C W b)) : Res X C W true b e := ⟨h.pt, fun _ _ _ _ => h⟩
theorem Mx.blk (M : Mx G N sc X C W k) {scope : Scope} (hk : scope.kind = .function) (s : Shared) (H : Hp) (Ca : Addr) (cl : List (Str × Addr)) (fp : List Addr) : Mx G N (relS sc scope) (X.blk s H scope (compEnvC scope cl Ca X.env) fp) C WN k := by
  refine ⟨⟨M.ok.calm, M.ok.hX, M.ok.nd, M.ok.gd, M.ok.room, fun u s' x => ?_, M.ok.txt⟩, ?_, M.hN, hk⟩
  · obtain ⟨a, B, sI, pins, σ, H, cls, d, e, I, nb, up, sky, na, os, ag, w⟩ := x
    exact w
  · show relS X.env.scope scope = _
    rw [M.hsc]
theorem blkB_ok (M : Mx G N sc X C W k) {scope : Scope} (s : Shared) (H : Hp) (Ca : Addr) (cl : List (Str × Addr)) (fp : List Addr) : TgOk (X.blk s H scope (compEnvC scope cl Ca X.env) fp) (blkB sc scope) := by
  intro x h
  have e : (X.blk s H scope (compEnvC scope cl Ca X.env) fp).env.scope = relS sc scope := by
    show relS X.env.scope scope = _
    rw [M.hsc]
  rw [e]
  unfold blkB at h
  rw [Bool.or_eq_true, Bool.and_eq_true, decide_eq_true_eq, decide_eq_true_eq, decide_eq_true_eq] at h
  rcases h with z | ⟨z, y⟩
  · exact ⟨.inl z, .inr z⟩
  · exact ⟨.inr z, .inl (by show (scope.names.lookup x == some .cell) = true; rw [y]; rfl)⟩
mutual
theorem mTg_ok : ∀ (t : Tg) {X : Cx} {tB : Str → Bool} {e : Expr}, X.N = N → X.N.Nodup → X.calm = true → TgOk X tB → mTg N tB t e = true → PG X e (gOf X.K t)
  | .nm i, X, tB, e, hN, nd, hc, M, h => by
    unfold mTg at h
    split at h
    · rw [Bool.and_eq_true, decide_eq_true_eq] at h
      obtain ⟨h1, h2⟩ := M _ h.2
      exact pg_name nd (by rw [hN]; exact h.1) h1 h2
    · cases h
  | .tp ts, X, tB, e, hN, nd, hc, M, h => by
    unfold mTg at h
    split at h
    · obtain ⟨h1, h2, h3⟩ := mTgs_ok ts hN nd hc M h
      exact pg_tup hc h1 h2 h3
    · cases h
theorem mTgs_ok : ∀ (t : Tgs) {X : Cx} {tB : Str → Bool} {es : List Expr}, X.N = N → X.N.Nodup → X.calm = true → TgOk X tB → mTgs N tB t es = true → PGs X es (gsOf X.K t) ∧ (assignEach es X.env).length = tgLen t ∧ (assignEach es X.env).findIdx? (·.1) = none
  | .nil, X, tB, es, hN, nd, hc, M, h => by
    unfold mTgs at h
    cases es with
    | nil => exact ⟨pgs_nil, rfl, rfl⟩
    | cons => cases h
  | .cons t r, X, tB, es, hN, nd, hc, M, h => by
    unfold mTgs at h
    split at h
    · rename_i e es
      simp only [Bool.and_eq_true] at h
      obtain ⟨⟨h0, h1⟩, h2⟩ := h
      have a := mTg_ok t hN nd hc M h1
      obtain ⟨b1, b2, b3⟩ := mTgs_ok r hN nd hc M h2
      have e1 : assignEach (e :: es) X.env = (false, assign e X.env) :: assignEach es X.env := by cases e <;> first | rfl | cases h0
      refine ⟨pgs_cons a b1 (by rw [e1]; rfl), by rw [e1]; show _ + 1 = _; rw [b2]; rfl, ?_⟩
      rw [e1, List.findIdx?_cons]
      simp [b3]
    · cases h
end
end
end Wk

set_option maxRecDepth 100000
set_option maxHeartbeats 1000000
/-! Wk19: the matcher is right (expressions). -/
namespace Wk
open PySem PySem.Spec PyProof.Rows L2
variable [pw : PrW]

section
variable {G : Pr} {N : List Str} {C : Ctx} {k : Nat}
theorem it_ok {sc : Scope} {X : Cx} {W : WX} (M : Mx G N sc X C W k) {ik : IK} {xs : Exs} {iter tg : Expr} (h : itB G sc ik iter tg = true) (ha : PA X (itArgs ik iter) (sA X C W xs))
    (h1 : ∀ e1, itArgs ik iter = [e1] → nst e1 = true → ∃ a, xs = .cons false a .nil ∧ PE X e1 (sE X C W a)) : PI X tg iter (sI X C W ik xs) := by
  unfold itB at h
  split at h
  · obtain ⟨a, rfl, he⟩ := h1 iter rfl h
    exact i_val he
  · simp only [Bool.and_eq_true, decide_eq_true_eq] at h
    obtain ⟨⟨⟨rfl, h2⟩, h3⟩, h4⟩ := h
    exact i_range1 (glB_ok M h2).1 (M.ok.txt.blt _ h3) ha (by rw [star_one h4]; rfl)
  · simp only [Bool.and_eq_true, decide_eq_true_eq] at h
    obtain ⟨⟨⟨⟨rfl, h2⟩, h3⟩, h4⟩, h5⟩ := h
    exact i_range2 (glB_ok M h2).1 (M.ok.txt.blt _ h3) ha (by rw [star_one h4, star_one h5]; rfl) (by rw [star_one h5]; rfl)
  · simp only [Bool.and_eq_true, decide_eq_true_eq] at h
    obtain ⟨⟨⟨⟨rfl, h2⟩, h3⟩, h4⟩, h5⟩ := h
    cases tg with
    | Tuple es kk tp => exact i_enum (glB_ok M h2).1 (M.ok.txt.blt _ h3) ha (by rw [star_one h4]; rfl)
    | _ => cases h5
  · simp only [Bool.and_eq_true, decide_eq_true_eq] at h
    obtain ⟨⟨⟨⟨⟨rfl, h2⟩, h3⟩, h4⟩, h5⟩, h6⟩ := h
    cases tg with
    | Tuple es kk tp => exact i_zip (glB_ok M h2).1 (M.ok.txt.blt _ h3) ha (star_one h4) (star_all (by simp [h5]))
    | _ => cases h6
  · cases h
/-- what the matcher says of a comprehension -/
structure LcOk (G : Pr) (N : List Str) (C : Ctx) (k : Nat) (sc : Scope) (X : Cx) (W : WX) (x : Ex) (tg : Tg) (ik : IK) (xs : Exs) (hi : Bool) (c : Ex) (own : List (Str × Nat)) (elt tg' iter : Expr) (ifs : List Expr) (scope : Scope) : Prop where
  htg : ∀ i ∈ tgIx tg, i ∈ own.map (·.2)
  hit : PI X tg' iter (sI X C W ik xs)
  hbl : BlkOk X.N X.env.scope scope own
  hpg : ∀ (s : Shared) (H : Hp) (Ca : Addr) (cl : List (Str × Addr)) (fp : List Addr), PG (X.blk s H scope (compEnvC scope cl Ca X.env) fp) tg' (gOf X.K tg)
  hpt : ∀ (s : Shared) (H : Hp) (Ca : Addr) (cl : List (Str × Addr)) (fp : List Addr), PTs (X.blk s H scope (compEnvC scope cl Ca X.env) fp) ifs (tTst X C hi c)
  hpe : ∀ (s : Shared) (H : Hp) (Ca : Addr) (cl : List (Str × Addr)) (fp : List Addr), PE (X.blk s H scope (compEnvC scope cl Ca X.env) fp) elt (sE X C WN x)
  hns : nsetB iter = true
mutual
theorem m_ok : ∀ (b : Ex) {sc : Scope} {X : Cx} {W : WX} {t : Bool} {e : Expr}, Mx G N sc X C W k → m G N sc t b e = true → Res X C W t b e
  | .cst c, sc, X, W, t, e, M, h => by
    refine strip_res ?_
    unfold m at h
    split at h
    · rename_i he
      rw [he]
      exact res_val (cst_ok h) rfl
    · cases h
  | .var i, sc, X, W, t, e, M, h => by
    refine strip_res ?_
    unfold m at h
    split at h
    · rename_i he
      rw [he]
      rw [Bool.and_eq_true, decide_eq_true_eq] at h
      obtain ⟨h1, h2, h3⟩ := visB_ok M h.2
      exact res_val (s_var (by rw [M.hN]; exact h.1) h1 h2 h3) rfl
    · cases h
  | .gst x, sc, X, W, t, e, M, h => by
    refine strip_res ?_
    unfold m at h
    split at h
    · rename_i he
      rw [he]
      rw [Bool.and_eq_true, decide_eq_true_eq] at h
      obtain ⟨rfl, h2⟩ := h
      obtain ⟨h3, h4⟩ := glB_ok M h2
      exact res_val (s_gst M.ok h3 h4) rfl
    · cases h
  | .bin o a b, sc, X, W, t, e, M, h => by
    refine strip_res ?_
    unfold m at h
    split at h
    · rename_i he
      rw [he]
      simp only [Bool.and_eq_true, decide_eq_true_eq] at h
      obtain ⟨⟨rfl, h2⟩, h3⟩ := h
      exact res_val (s_bin (m_ok a (t := false) M h2) (m_ok b (t := false) M h3)) rfl
    · cases h
  | .cat a b, sc, X, W, t, e, M, h => by
    refine strip_res ?_
    unfold m at h
    split at h
    · rename_i he
      rw [he]
      simp only [Bool.and_eq_true, decide_eq_true_eq] at h
      obtain ⟨⟨rfl, h2⟩, h3⟩ := h
      exact res_val (s_cat (m_ok a (t := false) M h2) (m_ok b (t := false) M h3)) rfl
    · cases h
  | .neg a, sc, X, W, t, e, M, h => by
    refine strip_res ?_
    unfold m at h
    split at h
    · rename_i he
      rw [he]
      exact res_val (s_neg (m_ok a (t := false) M h)) rfl
    · cases h
  | .cmp o a b, sc, X, W, t, e, M, h => by
    refine strip_res ?_
    unfold m at h
    split at h
    · rename_i he
      rw [he]
      simp only [Bool.and_eq_true, decide_eq_true_eq, Bool.not_eq_true'] at h
      obtain ⟨⟨⟨rfl, h2⟩, h3⟩, h4⟩ := h
      have p2 : PE X _ (sE X C W a) := m_ok a (t := false) M h2
      have p3 : PE X _ (sE X C W b) := m_ok b (t := false) M h3
      cases t with
      | false => exact s_cmp M.ok p2 p3 h4
      | true => exact ⟨t_cmp M.ok p2 p3 h4, fun _ _ _ z => nomatch z⟩
    · cases h
  | .cmp2 o p a b c, sc, X, W, t, e, M, h => by
    refine strip_res ?_
    unfold m at h
    split at h
    · rename_i he
      rw [he]
      simp only [Bool.and_eq_true, decide_eq_true_eq, Bool.not_eq_true'] at h
      obtain ⟨⟨⟨⟨⟨rfl, rfl⟩, h2⟩, h3⟩, h4⟩, h5⟩ := h
      have p2 : PE X _ (sE X C W a) := m_ok a (t := false) M h2
      have p3 : PE X _ (sE X C W b) := m_ok b (t := false) M h3
      have p4 : PE X _ (sE X C W c) := m_ok c (t := false) M h4
      cases t with
      | false => exact s_cmp2 M.ok p2 p3 p4 h5
      | true => exact ⟨t_cmp2 M.ok p2 p3 p4 h5, fun _ _ _ z => nomatch z⟩
    · cases h
  | .and a b, sc, X, W, t, e, M, h => by
    refine strip_res ?_
    unfold m at h
    split at h
    · rename_i he
      rw [he]
      rw [Bool.and_eq_true] at h
      have p1 := m_ok a M h.1
      have p2 := m_ok b M h.2
      cases t with
      | false => exact s_and p1 p2
      | true => exact res_w (t_and p1.1 (p2.2 _ _ _ rfl))
    · cases h
  | .or a b, sc, X, W, t, e, M, h => by
    refine strip_res ?_
    unfold m at h
    split at h
    · rename_i he
      rw [he]
      rw [Bool.and_eq_true] at h
      have p1 := m_ok a M h.1
      have p2 := m_ok b M h.2
      cases t with
      | false => exact s_or p1 p2
      | true => exact res_w (t_or p1.1 (p2.2 _ _ _ rfl))
    · cases h
  | .not a, sc, X, W, t, e, M, h => by
    refine strip_res ?_
    unfold m at h
    split at h
    · rename_i he
      rw [he]
      have p1 := m_ok a M h
      cases t with
      | false => exact s_not p1
      | true => exact ⟨t_not p1.1, fun _ _ _ z => nomatch z⟩
    · cases h
  | .ife c a b, sc, X, W, t, e, M, h => by
    refine strip_res ?_
    unfold m at h
    split at h
    · rename_i he
      rw [he]
      simp only [Bool.and_eq_true, Bool.not_eq_true'] at h
      obtain ⟨⟨⟨rfl, h1⟩, h2⟩, h3⟩ := h
      exact s_ife (m_ok c (t := true) M h1).1 (m_ok a (t := false) M h2) (m_ok b (t := false) M h3)
    · cases h
  | .tup xs, sc, X, W, t, e, M, h => by
    refine strip_res ?_
    unfold m at h
    split at h
    · rename_i he
      rw [he]
      exact res_val (s_tup (mA_ok xs M h).1) rfl
    · cases h
  | .lst al xs, sc, X, W, t, e, M, h => by
    refine strip_res ?_
    unfold m at h
    split at h
    · rename_i he
      rw [he]
      exact res_val (s_lst (mA_ok xs M h).1) rfl
    · cases h
  | .ix a b, sc, X, W, t, e, M, h => by
    refine strip_res ?_
    unfold m at h
    split at h
    · rename_i he
      rw [he]
      simp only [Bool.and_eq_true] at h
      obtain ⟨⟨h1, h2⟩, h3⟩ := h
      exact res_val (s_ix M.ok (m_ok a (t := false) M h2) (m_ok b (t := false) M h3) (plain_ix h1)) rfl
    · cases h
  | .sl a lo hi, sc, X, W, t, e, M, h => by
    refine strip_res ?_
    unfold m at h
    split at h
    · rename_i a' lo' hi' _ _ he
      rw [he]
      simp only [Bool.and_eq_true] at h
      obtain ⟨⟨h1, h2⟩, h3⟩ := h
      have non : ∀ {x : Ex}, isNon x = true → x = .cst .non := fun {x} z => by
        unfold isNon at z
        split at z
        · rfl
        · cases z
      have pl : PO X lo' (sO X C W lo) := by
        cases lo' with
        | none => rw [non h2]; exact o_none
        | some l =>
          simp only [Bool.and_eq_true, Bool.not_eq_true'] at h2
          exact o_some (m_ok lo (t := false) M h2.2) h2.1
      have ph : PO X hi' (sO X C W hi) := by
        cases hi' with
        | none => rw [non h3]; exact o_none
        | some l =>
          simp only [Bool.and_eq_true, Bool.not_eq_true'] at h3
          exact o_some (m_ok hi (t := false) M h3.2) h3.1
      exact res_val (s_sl (m_ok a (t := false) M h1) pl ph) rfl
    · cases h
  | .call kp f xs, sc, X, W, t, e, M, h => by
    refine strip_res ?_
    unfold m at h
    split at h
    · rename_i g p es cpos he
      rw [he]
      simp only [Bool.and_eq_true, decide_eq_true_eq] at h
      obtain ⟨⟨⟨⟨rfl, h2⟩, h3⟩, h4⟩, h5⟩ := h
      obtain ⟨g1, g2⟩ := glB_ok M h2
      obtain ⟨F, hF⟩ := Option.isSome_iff_exists.mp h3
      have pa := (mA_ok xs M h5).1
      cases es with
      | nil =>
        cases xs with
        | nil => exact res_val (s_call0 M.ok hF g1 g2) rfl
        | cons s x r => cases s <;> cases h5
      | cons e1 es =>
        rw [List.all_cons, Bool.and_eq_true] at h4
        exact res_val (s_call M.ok hF g1 pa g2 h4.1 h4.2) rfl
    · cases h
  | .blt f xs, sc, X, W, t, e, M, h => by
    refine strip_res ?_
    unfold m at h
    split at h
    · rename_i he
      rw [he]
      simp only [Bool.and_eq_true, Bool.or_eq_true, decide_eq_true_eq] at h
      obtain ⟨⟨⟨⟨⟨⟨rfl, h2⟩, h3⟩, h4⟩, h5⟩, h6⟩, h7⟩ := h
      rcases h3 with h3 | rfl
      · exact res_val (s_blt M.ok h3 h4 (glB_ok M h2).1 (mA_ok xs M h7).1 h5 h6) rfl
      · exact res_val (s_sorted M.ok h4 (glB_ok M h2).1 (mA_ok xs M h7).1 h5 h6) rfl
    · cases h
  | .lsa xs, sc, X, W, t, e, M, h => by
    refine strip_res ?_
    unfold m at h
    split at h
    · rename_i he
      rw [he]
      simp only [Bool.and_eq_true, decide_eq_true_eq] at h
      obtain ⟨⟨⟨⟨rfl, h2⟩, h3⟩, h4⟩, h5⟩ := h
      exact res_val (s_lsa M.ok h3 (glB_ok M h2).1 (mA_ok xs M h5).1 h4) rfl
    · cases h
  | .isi a ty, sc, X, W, t, e, M, h => by
    refine strip_res ?_
    unfold m at h
    split at h
    · rename_i he
      rw [he]
      simp only [Bool.and_eq_true, decide_eq_true_eq] at h
      obtain ⟨⟨⟨⟨⟨⟨⟨⟨rfl, rfl⟩, h3⟩, h4⟩, h5⟩, h6⟩, h7⟩, h8⟩, h9⟩ := h
      exact res_val (s_isi M.ok h3 h4 (glB_ok M h6).1 h5 (glB_ok M h7).1 (m_ok a (t := false) M h9) h8) rfl
    · cases h
  | .met mm a xs, sc, X, W, t, e, M, h => by
    refine strip_res ?_
    unfold m at h
    split at h
    · rename_i o mm' apos es cpos he
      rw [he]
      simp only [Bool.and_eq_true, decide_eq_true_eq] at h
      obtain ⟨⟨⟨⟨rfl, h2⟩, h3⟩, h4⟩, h5⟩ := h
      have pa := (mA_ok xs M h4).1
      have p3 : PE X _ (sE X C W a) := m_ok a (t := false) M h3
      split at h5
      · rename_i hm
        rw [Bool.and_eq_true] at h5
        exact res_val (s_mts M.ok hm p3 pa h5.1 h5.2 h2) rfl
      · simp only [Bool.and_eq_true, Bool.or_eq_true, decide_eq_true_eq, List.isEmpty_iff] at h5
        obtain ⟨⟨rfl, h6⟩, h7⟩ := h5
        cases xs with
        | cons => cases h6
        | nil =>
          rcases h7 with ⟨rfl, h7⟩ | ⟨rfl, h7⟩
          · cases o with
            | Name x p => exact res_val (s_bitl p3 h2) rfl
            | _ => cases h7
          · exact res_val (s_pop0 p3 h7 h2) rfl
    · cases h
  | .dct al xs, sc, X, W, t, e, M, h => by
    refine strip_res ?_
    unfold m at h
    split at h
    · rename_i he
      rw [he]
      exact res_val s_dct0 rfl
    · rename_i a b he
      rw [he]
      rw [Bool.and_eq_true] at h
      exact res_val (s_dct1 M.ok (m_ok a (t := false) M h.1) (m_ok b (t := false) M h.2)) rfl
    · cases h
  | .rev a, sc, X, W, t, e, M, h => by
    refine strip_res ?_
    unfold m at h
    split at h
    · rename_i he
      rw [he]
      exact res_val (s_rev (m_ok a (t := false) M h)) rfl
    · cases h
  | .isx a c yes no, sc, X, W, t, e, M, h => by
    refine strip_res ?_
    unfold m at h
    split at h
    · rename_i he
      rw [he]
      simp only [Bool.and_eq_true, decide_eq_true_eq, List.any_eq_true] at h
      obtain ⟨⟨⟨⟨⟨⟨⟨⟨rfl, rfl⟩, h3⟩, ⟨⟨n, c', b⟩, q1, q2⟩⟩, h5⟩, h6⟩, h7⟩, h8⟩, h9⟩ := h
      have q2 : c' = _ := q2
      subst q2
      obtain ⟨g1, g2⟩ := glB_ok M h7
      exact res_val (s_isx M.ok h3 ⟨n, b, q1⟩ h5 (glB_ok M h6).1 g1 g2 (m_ok a (t := false) M h9) h8) rfl
    · cases h
  | .isl a, sc, X, W, t, e, M, h => by
    unfold m at h
    cases h
  | .dc al kx vx tg ik xs hi c own, sc, X, W, t, e, M, h => by
    refine strip_res ?_
    unfold m at h
    split at h
    · rename_i kx' vx' tg' iter ifs scope pos he
      rw [he]
      simp only [Bool.and_eq_true] at h
      obtain ⟨⟨⟨⟨⟨⟨⟨⟨h1, h2⟩, h3⟩, h4⟩, h5⟩, h6⟩, h7⟩, h7v⟩, h8⟩ := h
      have ht : ∀ i ∈ tgIx tg, i ∈ own.map (·.2) := fun i hi => of_decide_eq_true (List.all_eq_true.mp h2 i hi)
      have pa := mA_ok xs M h6
      have pit := it_ok M h5 pa.1 pa.2
      have hb : BlkOk X.N X.env.scope scope own := by rw [M.hN, M.hsc]; exact blkOk_by h1
      refine res_val (s_dc M.ok ht pit hb (fun s H Ca cl fp => ?_) (fun s H Ca cl fp => ?_) (fun s H Ca cl fp => ?_) (fun s H Ca cl fp => ?_) h4) rfl
      · exact mTg_ok tg M.hN M.ok.nd M.ok.calm (blkB_ok M s H Ca cl fp) h3
      · have MB := M.blk hb.kind s H Ca cl fp
        split at h8
        · have : hi = false := by simpa using h8
          subst this
          exact pts_nil
        · rw [Bool.and_eq_true] at h8
          obtain ⟨rfl, h9⟩ := h8
          exact pts_one (m_ok c (t := true) MB h9).1
        · cases h8
      · exact m_ok kx (t := false) (M.blk hb.kind s H Ca cl fp) h7
      · exact m_ok vx (t := false) (M.blk hb.kind s H Ca cl fp) h7v
    · cases h
  | .lc2 al x tg ik xs hi c tg1 ik1 xs1 hi1 c1 own vs1, sc, X, W, t, e, M, h => by
    refine strip_res ?_
    unfold m at h
    split at h
    · rename_i elt tg' iter ifs tg1' iter1 ifs1 scope pos he
      rw [he]
      simp only [Bool.and_eq_true] at h
      obtain ⟨⟨⟨⟨⟨⟨⟨⟨⟨⟨⟨⟨h1, h2⟩, h3⟩, h3b⟩, h4⟩, h4b⟩, h5⟩, h5b⟩, h6⟩, h6b⟩, h7⟩, h8⟩, h8b⟩ := h
      unfold two at h2
      simp only [Bool.and_eq_true, List.all_eq_true, decide_eq_true_eq] at h2
      have pa := mA_ok xs M h6
      have pit := it_ok M h5 pa.1 pa.2
      have hb : BlkOk X.N X.env.scope scope own := by rw [M.hN, M.hsc]; exact blkOk_by h1
      refine res_val (s_lc2 M.ok h2.1.1 h2.1.2 h2.2 pit hb (fun s H Ca cl fp => ?_) (fun s H Ca cl fp => ?_) (fun s H Ca cl fp => ?_) (fun s H Ca cl fp => ?_) (fun s H Ca cl fp => ?_) (fun s H Ca cl fp => ?_) h4 h4b) rfl
      · exact mTg_ok tg M.hN M.ok.nd M.ok.calm (blkB_ok M s H Ca cl fp) h3
      · have MB := M.blk hb.kind s H Ca cl fp
        split at h8
        · have : hi = false := by simpa using h8
          subst this
          exact pts_nil
        · rw [Bool.and_eq_true] at h8
          obtain ⟨rfl, h9⟩ := h8
          exact pts_one (m_ok c (t := true) MB h9).1
        · cases h8
      · have MB := M.blk hb.kind s H Ca cl fp
        have pb := mA_ok xs1 MB h6b
        exact i_free (it_ok MB h5b pb.1 pb.2)
      · exact mTg_ok tg1 M.hN M.ok.nd M.ok.calm (blkB_ok M s H Ca cl fp) h3b
      · have MB := M.blk hb.kind s H Ca cl fp
        split at h8b
        · have : hi1 = false := by simpa using h8b
          subst this
          exact pts_nil
        · rw [Bool.and_eq_true] at h8b
          obtain ⟨rfl, h9⟩ := h8b
          exact pts_one (m_ok c1 (t := true) MB h9).1
        · cases h8b
      · exact m_ok x (t := false) (M.blk hb.kind s H Ca cl fp) h7
    · cases h
  | .dc2 al kx vx tg ik xs hi c tg1 ik1 xs1 hi1 c1 own vs1, sc, X, W, t, e, M, h => by
    refine strip_res ?_
    unfold m at h
    split at h
    · rename_i kx' vx' tg' iter ifs tg1' iter1 ifs1 scope pos he
      rw [he]
      simp only [Bool.and_eq_true] at h
      obtain ⟨⟨⟨⟨⟨⟨⟨⟨⟨⟨⟨⟨⟨h1, h2⟩, h3⟩, h3b⟩, h4⟩, h4b⟩, h5⟩, h5b⟩, h6⟩, h6b⟩, h7⟩, h7v⟩, h8⟩, h8b⟩ := h
      unfold two at h2
      simp only [Bool.and_eq_true, List.all_eq_true, decide_eq_true_eq] at h2
      have pa := mA_ok xs M h6
      have pit := it_ok M h5 pa.1 pa.2
      have hb : BlkOk X.N X.env.scope scope own := by rw [M.hN, M.hsc]; exact blkOk_by h1
      refine res_val (s_dc2 M.ok h2.1.1 h2.1.2 h2.2 pit hb (fun s H Ca cl fp => ?_) (fun s H Ca cl fp => ?_) (fun s H Ca cl fp => ?_) (fun s H Ca cl fp => ?_) (fun s H Ca cl fp => ?_) (fun s H Ca cl fp => ?_) (fun s H Ca cl fp => ?_) h4 h4b) rfl
      · exact mTg_ok tg M.hN M.ok.nd M.ok.calm (blkB_ok M s H Ca cl fp) h3
      · have MB := M.blk hb.kind s H Ca cl fp
        split at h8
        · have : hi = false := by simpa using h8
          subst this
          exact pts_nil
        · rw [Bool.and_eq_true] at h8
          obtain ⟨rfl, h9⟩ := h8
          exact pts_one (m_ok c (t := true) MB h9).1
        · cases h8
      · have MB := M.blk hb.kind s H Ca cl fp
        have pb := mA_ok xs1 MB h6b
        exact i_free (it_ok MB h5b pb.1 pb.2)
      · exact mTg_ok tg1 M.hN M.ok.nd M.ok.calm (blkB_ok M s H Ca cl fp) h3b
      · have MB := M.blk hb.kind s H Ca cl fp
        split at h8b
        · have : hi1 = false := by simpa using h8b
          subst this
          exact pts_nil
        · rw [Bool.and_eq_true] at h8b
          obtain ⟨rfl, h9⟩ := h8b
          exact pts_one (m_ok c1 (t := true) MB h9).1
        · cases h8b
      · exact m_ok kx (t := false) (M.blk hb.kind s H Ca cl fp) h7
      · exact m_ok vx (t := false) (M.blk hb.kind s H Ca cl fp) h7v
    · cases h
  | .lc al x tg ik xs hi c own, sc, X, W, t, e, M, h => by
    refine strip_res ?_
    unfold m at h
    split at h
    · rename_i elt tg' iter ifs scope pos he
      rw [he]
      simp only [Bool.and_eq_true] at h
      obtain ⟨⟨⟨⟨⟨⟨⟨h1, h2⟩, h3⟩, h4⟩, h5⟩, h6⟩, h7⟩, h8⟩ := h
      have ht : ∀ i ∈ tgIx tg, i ∈ own.map (·.2) := fun i hi => of_decide_eq_true (List.all_eq_true.mp h2 i hi)
      have pa := mA_ok xs M h6
      have pit := it_ok M h5 pa.1 pa.2
      have hb : BlkOk X.N X.env.scope scope own := by rw [M.hN, M.hsc]; exact blkOk_by h1
      refine res_val (s_lc M.ok ht pit hb (fun s H Ca cl fp => ?_) (fun s H Ca cl fp => ?_) (fun s H Ca cl fp => ?_) h4) rfl
      · exact mTg_ok tg M.hN M.ok.nd M.ok.calm (blkB_ok M s H Ca cl fp) h3
      · have MB := M.blk hb.kind s H Ca cl fp
        split at h8
        · have : hi = false := by simpa using h8
          subst this
          exact pts_nil
        · rw [Bool.and_eq_true] at h8
          obtain ⟨rfl, h9⟩ := h8
          exact pts_one (m_ok c (t := true) MB h9).1
        · cases h8
      · exact m_ok x (t := false) (M.blk hb.kind s H Ca cl fp) h7
    · cases h
theorem mA_ok : ∀ (xs : Exs) {sc : Scope} {X : Cx} {W : WX} {es : List Expr}, Mx G N sc X C W k → mA G N sc xs es = true → PA X es (sA X C W xs) ∧ ∀ e1, es = [e1] → nst e1 = true → ∃ a, xs = .cons false a .nil ∧ PE X e1 (sE X C W a)
  | .nil, sc, X, W, es, M, h => by
    unfold mA at h
    cases es with
    | nil => exact ⟨a_nil, fun _ z => nomatch z⟩
    | cons => cases h
  | .cons false e r, sc, X, W, es, M, h => by
    unfold mA at h
    split at h
    · rename_i e' es
      simp only [Bool.and_eq_true] at h
      obtain ⟨⟨h1, h2⟩, h3⟩ := h
      have p1 : PE X e' (sE X C W e) := m_ok e (t := false) M h2
      have p2 := mA_ok r M h3
      refine ⟨a_cons p1 p2.1 (star_one h1), fun e1 z hn => ?_⟩
      cases z
      cases r with
      | nil => exact ⟨e, rfl, p1⟩
      | cons s x r => cases s <;> cases h3
    · cases h
  | .cons true e r, sc, X, W, es, M, h => by
    unfold mA at h
    split at h
    · rename_i e' p es
      rw [Bool.and_eq_true] at h
      refine ⟨a_star (m_ok e (t := false) M h.1) (mA_ok r M h.2).1, fun e1 z hn => ?_⟩
      cases z
      cases hn
    · cases h
end
theorem lc_of {sc : Scope} {X : Cx} {W : WX} {al : Bool} {x c : Ex} {tg : Tg} {ik : IK} {xs : Exs} {hi : Bool} {own : List (Str × Nat)} {elt tg' iter : Expr} {ifs : List Expr} {scope : Scope} {pos : Pos} (M : Mx G N sc X C W k)
    (h : m G N sc false (.lc al x tg ik xs hi c own) (.ListComp elt [⟨tg', iter, ifs, 0⟩] scope pos) = true) : LcOk G N C k sc X W x tg ik xs hi c own elt tg' iter ifs scope := by
  unfold m at h
  have e : strip (.ListComp elt [⟨tg', iter, ifs, 0⟩] scope pos) = .ListComp elt [⟨tg', iter, ifs, 0⟩] scope pos := rfl
  rw [e] at h
  simp only [Bool.and_eq_true] at h
  obtain ⟨⟨⟨⟨⟨⟨⟨h1, h2⟩, h3⟩, h4⟩, h5⟩, h6⟩, h7⟩, h8⟩ := h
  have pa := mA_ok xs M h6
  have hb : BlkOk X.N X.env.scope scope own := by rw [M.hN, M.hsc]; exact blkOk_by h1
  refine ⟨fun i hi => of_decide_eq_true (List.all_eq_true.mp h2 i hi), it_ok M h5 pa.1 pa.2, hb, fun s H Ca cl fp => mTg_ok tg M.hN M.ok.nd M.ok.calm (blkB_ok M s H Ca cl fp) h3, fun s H Ca cl fp => ?_, fun s H Ca cl fp => m_ok x (t := false) (M.blk hb.kind s H Ca cl fp) h7, h4⟩
  have MB := M.blk hb.kind s H Ca cl fp
  split at h8
  · have : hi = false := by simpa using h8
    subst this
    exact pts_nil
  · rw [Bool.and_eq_true] at h8
    obtain ⟨rfl, h9⟩ := h8
    exact pts_one (m_ok c (t := true) MB h9).1
  · cases h8
end
end Wk

set_option maxRecDepth 100000
set_option maxHeartbeats 1000000
/-! Wk20: whether statements of the text are what the own syntax says. -/
namespace Wk
open PySem PySem.Spec PyProof.Rows L2
variable [pw : PrW]

def swB (sc : Scope) (e : Expr) (x : Str) (px : Pos) : Bool := match e with
  | .ListComp _ _ s p | .SetComp _ _ s p | .DictComp _ _ _ s p => decide (sc.names.lookup x = some .local) && px.line == p.line && !(s.names.any fun (n, k) => n == x && (k == .local || k == .cell))
  | _ => false
theorem sw_eq {env : PySem.Env} (hk : env.scope.kind = .function) {e : Expr} {x : Str} {px : Pos} {l : Nat} : swapsWith e (some (.Name x px)) l env = pure (swB env.scope e x px) := by
  have hb : (env.blockKind == ScopeKind.function) = true := by unfold Env.blockKind; rw [hk]; rfl
  have hl : (env.kindOf x == some NameKind.local) = decide (env.scope.names.lookup x = some .local) := by
    unfold Env.kindOf
    cases env.scope.names.lookup x with
    | none => rfl
    | some k => cases k <;> rfl
  cases e with
  | ListComp a b s p =>
    show (pure ((env.blockKind == ScopeKind.function) && (env.kindOf x == some NameKind.local) && (px.line == p.line) && !(s.names.any fun (n, k) => n == x && (k == .local || k == .cell))) : Sem Bool) = _
    rw [hb, hl]; rfl
  | SetComp a b s p =>
    show (pure ((env.blockKind == ScopeKind.function) && (env.kindOf x == some NameKind.local) && (px.line == p.line) && !(s.names.any fun (n, k) => n == x && (k == .local || k == .cell))) : Sem Bool) = _
    rw [hb, hl]; rfl
  | DictComp a b c s p =>
    show (pure ((env.blockKind == ScopeKind.function) && (env.kindOf x == some NameKind.local) && (px.line == p.line) && !(s.names.any fun (n, k) => n == x && (k == .local || k == .cell))) : Sem Bool) = _
    rw [hb, hl]; rfl
  | _ => rfl
theorem sw_sub {e a b : Expr} {p : Pos} {l : Nat} {env : PySem.Env} : swapsWith e (some (.Subscript a b p)) l env = pure false := by cases e <;> rfl
theorem sw_tup {e : Expr} {es : List Expr} {k : Nat} {p : Pos} {l : Nat} {env : PySem.Env} : swapsWith e (some (.Tuple es k p)) l env = pure false := by cases e <;> rfl
def notTup : Expr → Bool
  | .Tuple .. => false
  | _ => true
theorem ss_none {tg e : Expr} {env : PySem.Env} (h : notTup e = true) : swappedStores [tg] e env = pure none := by
  cases e <;> first | (cases tg <;> rfl) | cases h
def stB : Expr → Bool
  | .Starred .. => true
  | _ => false
/-- two names of one line get two values -/
def parB (sc : Scope) (x y : Str) (px py : Pos) (a b : Expr) : Bool := decide (sc.names.lookup x = some .local) && decide (sc.names.lookup y = some .local) && (py.line == px.line) && decide (x ≠ y) && !stB a && !stB b && !([a, b].all (foldedForSure 8)) && !([a, b].all (constantsAlone 8))
theorem sw_par {env : PySem.Env} (hk : env.scope.kind = .function) {x y : Str} {px py pt pt2 : Pos} {kt k2} {a b : Expr} (h : parB env.scope x y px py a b = true) : swappedStores [.Tuple [.Name x px, .Name y py] kt pt] (.Tuple [a, b] k2 pt2) env = pure (some [x, y]) := by
  unfold parB at h
  simp only [Bool.and_eq_true, decide_eq_true_eq, Bool.not_eq_true'] at h
  obtain ⟨⟨⟨⟨⟨⟨⟨h1, h2⟩, h3⟩, h4⟩, h5⟩, h6⟩, h7⟩, h8⟩ := h
  have hb : (env.blockKind != ScopeKind.function) = false := by unfold Env.blockKind; rw [hk]; rfl
  have kx : (env.kindOf x == some NameKind.local) = true := by unfold Env.kindOf; rw [h1]; rfl
  have ky : (env.kindOf y == some NameKind.local) = true := by unfold Env.kindOf; rw [h2]; rfl
  have hyx : (y == x) = false := by simpa using fun z => h4 z.symm
  have ed : [x, y].eraseDups = [x, y] := by
    have h0 : [y].eraseDups = [y] := by simp [List.eraseDups, List.eraseDupsBy, List.eraseDupsBy.loop]
    simp [List.eraseDups, List.eraseDupsBy, List.eraseDupsBy.loop, hyx]
  have e3 : (px.line == px.line) = true := by simp
  have s1 : ([a, b].any fun | .Starred .. => true | _ => false) = false := by
    have : ∀ e, stB e = false → (match e with | .Starred .. => true | _ => false) = false := fun e h => by cases e <;> first | rfl | cases h
    rw [List.any_cons, List.any_cons, List.any_nil, this a h5, this b h6]; rfl
  have f : ([Expr.Name x px, Expr.Name y py].filterMap fun | .Name id pos => if (env.kindOf id == some NameKind.local && pos.line == px.line) = true then some id else none | _ => none) = [x, y] := by
    simp only [List.filterMap_cons, List.filterMap_nil, kx, ky, e3, h3, Bool.and_self, if_true]
  unfold swappedStores
  dsimp only
  rw [hb]
  refine (if_neg (by simp)).trans ((if_neg fun z => ?_).trans ((if_neg fun z => ?_).trans ((if_neg fun z => ?_).trans ((if_neg fun z => ?_).trans ?_))))
  · exact absurd (s1.symm.trans z) (by decide)
  · have z : ((([Expr.Name x px, Expr.Name y py].filterMap fun | .Name id pos => if (env.kindOf id == some NameKind.local && pos.line == px.line) = true then some id else none | _ => none)).length != 2 || (([Expr.Name x px, Expr.Name y py].filterMap fun | .Name id pos => if (env.kindOf id == some NameKind.local && pos.line == px.line) = true then some id else none | _ => none)).eraseDups.length != (([Expr.Name x px, Expr.Name y py].filterMap fun | .Name id pos => if (env.kindOf id == some NameKind.local && pos.line == px.line) = true then some id else none | _ => none)).length) = true := z
    rw [f, ed] at z
    exact absurd z (by simp)
  · rw [h7] at z; cases z
  · rw [h8] at z; cases z
  · show pure (some ([Expr.Name x px, Expr.Name y py].filterMap fun | .Name id pos => if (env.kindOf id == some NameKind.local && pos.line == px.line) = true then some id else none | _ => none)) = _
    rw [f]
mutual
def mS (G : Pr) (N : List Str) (sc : Scope) : Sx → Stmt → Bool
  | .set i e, s => match s with
    | .Assign [.Name x px] e' _ => decide (N[i]? = some x) && locB sc x && m G N sc false e e' && (!(swB sc e' x px) || (match e, e' with
      | .lc .., .ListComp _ [⟨_, _, _, 0⟩] _ _ => true
      | .lc2 .., .ListComp _ [⟨_, _, _, 0⟩, ⟨_, _, _, 0⟩] _ _ => true
      | .dc .., .DictComp _ _ [⟨_, _, _, 0⟩] _ _ => true
      | .dc2 .., .DictComp _ _ [⟨_, _, _, 0⟩, ⟨_, _, _, 0⟩] _ _ => true
      | _, _ => false))
    | _ => false
  | .unp tg e, s => match s with
    | .Assign [.Tuple es kk pt] e' _ => (notTup e' && mTg N (locB sc) tg (.Tuple es kk pt) && m G N sc false e e') || (match tg, e, es, e' with
      | .tp (.cons (.nm i) (.cons (.nm j) .nil)), .tup xs, [.Name x px, .Name y py], .Tuple [a, b] _ _ => decide (N[i]? = some x) && decide (N[j]? = some y) && decide (i ≠ j) && parB sc x y px py a b && mA G N sc xs [a, b]
      | _, _, _, _ => false)
    | _ => false
  | .aug o i e, s => match s with
    | .AugAssign (.Name x _) o' e' _ => decide (N[i]? = some x) && decide (o' = o) && locB sc x && m G N sc false e e'
    | _ => false
  | .six a b e, s => match s with
    | .Assign [.Subscript a' b' _] e' _ => plainB b' && notTup e' && m G N sc false a a' && m G N sc false b b' && m G N sc false e e'
    | _ => false
  | .ex e, s => match s with
    | .Expr e' _ => ncpB e' && m G N sc false e e'
    | _ => false
  | .ret e, s => match s with
    | .Return (some e') _ => m G N sc false e e'
    | _ => false
  | .retN, s => match s with
    | .Return none _ => true
    | _ => false
  | .iff c a b, s => match s with
    | .If c' a' b' _ => m G N sc true c c' && mSs G N sc a a' && mSs G N sc b b'
    | _ => false
  | .loop tg k xs body, s => match s with
    | .For tg' iter body' [] _ => mTg N (locB sc) tg tg' && nsetB iter && itB G sc k iter tg' && mA G N sc xs (itArgs k iter) && mSs G N sc body body'
    | _ => false
  | .raise c mm, s => match s with
    | .Raise (some (.Call (.Name c' _) [.Constant (.str m') _ _] [] _)) none _ => decide (c' = c) && decide (m' = mm) && decide (c ∈ G.excs) && glB sc c
    | _ => false
  | .whl c body, s => match s with
    | .While c' body' [] _ => m G N sc true c c' && mSs G N sc body body'
    | _ => false
  | .try_ b c yes i j, s => match s with
    | .Try body [.ExceptHandler (some (.Name c' _)) (some x) [.Assign [.Name y _] (.Name x' _) _] _] [] [] _ => decide (c' = c) && decide (x' = x) && decide (N[i]? = some x) && decide (N[j]? = some y) && decide (sc.names.lookup x = some .local) && decide (sc.names.lookup y = some .local) && glB sc c && visB sc x && yes.all (fun n => decide ((n, c, true) ∈ G.isx)) && !yes.isEmpty && mSs G N sc b body
    | _ => false
  | .brk, s => match s with
    | .Break _ => true
    | _ => false
  | .cnt, s => match s with
    | .Continue _ => true
    | _ => false
  | .pass, s => match s with
    | .Pass _ => true
    | .Expr (.Constant (.str _) _ _) _ => true
    | _ => false
def mSs (G : Pr) (N : List Str) (sc : Scope) : Sxs → List Stmt → Bool
  | .nil, ss => ss.isEmpty
  | .cons s r, ss => match ss with
    | s' :: r' => mS G N sc s s' && mSs G N sc r r'
    | [] => false
end
section
variable {G : Pr} {N : List Str} {C : Ctx} {k : Nat}
theorem ss_setLc {sc : Scope} {X : Cx} {W : WX} (M : Mx G N sc X C W k) {i : Nat} {y : Str} {py pos spos : Pos} {al : Bool} {x c : Ex} {tg : Tg} {ik : IK} {xs : Exs} {hi : Bool} {own : List (Str × Nat)} {elt tg' iter : Expr} {ifs : List Expr} {scope : Scope}
    (L : LcOk G N C k sc X W x tg ik xs hi c own elt tg' iter ifs scope) (hy : X.N[i]? = some y) (hyl : X.env.scope.names.lookup y = some .local) (hsw : swapsWith (.ListComp elt [⟨tg', iter, ifs, 0⟩] scope pos) (some (.Name y py)) spos.line X.env = pure true) :
    PS X (.Assign [.Name y py] (.ListComp elt [⟨tg', iter, ifs, 0⟩] scope pos) spos) (sS X C W (.set i (.lc al x tg ik xs hi c own))) :=
  PS.weaken (PS.unl (ps_setLc M.ok.calm M.ok.nd hy hyl hsw L.hit L.hbl L.hpg L.hpt L.hpe (nset_fold L.hns))) fun D σ H h => s_lcF L.htg (setF h)
theorem ss_setDc {sc : Scope} {X : Cx} {W : WX} {al : Bool} {kx vx c : Ex} {tg : Tg} {ik : IK} {xs : Exs} {hi : Bool} {own : List (Str × Nat)} {kx' vx' tg' iter : Expr} {ifs : List Expr} {scope : Scope} {i : Nat} {y : Str} {py pos spos : Pos} (M : Mx G N sc X C W k)
    (h : m G N sc false (.dc al kx vx tg ik xs hi c own) (.DictComp kx' vx' [⟨tg', iter, ifs, 0⟩] scope pos) = true) (hy : X.N[i]? = some y) (hyl : X.env.scope.names.lookup y = some .local) (hsw : swapsWith (.DictComp kx' vx' [⟨tg', iter, ifs, 0⟩] scope pos) (some (.Name y py)) spos.line X.env = pure true) :
    PS X (.Assign [.Name y py] (.DictComp kx' vx' [⟨tg', iter, ifs, 0⟩] scope pos) spos) (sS X C W (.set i (.dc al kx vx tg ik xs hi c own))) := by
  unfold m at h
  have e : strip (.DictComp kx' vx' [⟨tg', iter, ifs, 0⟩] scope pos) = (.DictComp kx' vx' [⟨tg', iter, ifs, 0⟩] scope pos) := rfl
  rw [e] at h
  simp only [Bool.and_eq_true] at h
  obtain ⟨⟨⟨⟨⟨⟨⟨⟨h1, h2⟩, h3⟩, h4⟩, h5⟩, h6⟩, h7⟩, h7v⟩, h8⟩ := h
  have ht : ∀ i ∈ tgIx tg, i ∈ own.map (·.2) := fun i hi => of_decide_eq_true (List.all_eq_true.mp h2 i hi)
  have pa := mA_ok xs M h6
  have pit := it_ok M h5 pa.1 pa.2
  have hb : BlkOk X.N X.env.scope scope own := by rw [M.hN, M.hsc]; exact blkOk_by h1
  refine PS.weaken (PS.unl (ps_setDc1 M.ok.calm M.ok.nd hy hyl hsw pit hb (fun s H Ca cl fp => ?_) (fun s H Ca cl fp => ?_) (fun s H Ca cl fp => ?_) (fun s H Ca cl fp => ?_) (nset_fold h4))) fun D σ H h => s_dcF M.ok ht (setF h)
  · exact mTg_ok tg M.hN M.ok.nd M.ok.calm (blkB_ok M s H Ca cl fp) h3
  · have MB := M.blk hb.kind s H Ca cl fp
    split at h8
    · have : hi = false := by simpa using h8
      subst this
      exact pts_nil
    · rw [Bool.and_eq_true] at h8
      obtain ⟨rfl, h9⟩ := h8
      exact pts_one (m_ok c (t := true) MB h9).1
    · cases h8
  · exact m_ok kx (t := false) (M.blk hb.kind s H Ca cl fp) h7
  · exact m_ok vx (t := false) (M.blk hb.kind s H Ca cl fp) h7v
theorem ss_setLc2 {sc : Scope} {X : Cx} {W : WX} {al : Bool} {x c c1 : Ex} {tg tg1 : Tg} {ik ik1 : IK} {xs xs1 : Exs} {hi hi1 : Bool} {own : List (Str × Nat)} {vs1 : List Nat} {elt tg' iter tg1' iter1 : Expr} {ifs ifs1 : List Expr} {scope : Scope} {i : Nat} {y : Str} {py pos spos : Pos} (M : Mx G N sc X C W k)
    (h : m G N sc false (.lc2 al x tg ik xs hi c tg1 ik1 xs1 hi1 c1 own vs1) (.ListComp elt [⟨tg', iter, ifs, 0⟩, ⟨tg1', iter1, ifs1, 0⟩] scope pos) = true) (hy : X.N[i]? = some y) (hyl : X.env.scope.names.lookup y = some .local) (hsw : swapsWith (.ListComp elt [⟨tg', iter, ifs, 0⟩, ⟨tg1', iter1, ifs1, 0⟩] scope pos) (some (.Name y py)) spos.line X.env = pure true) :
    PS X (.Assign [.Name y py] (.ListComp elt [⟨tg', iter, ifs, 0⟩, ⟨tg1', iter1, ifs1, 0⟩] scope pos) spos) (sS X C W (.set i (.lc2 al x tg ik xs hi c tg1 ik1 xs1 hi1 c1 own vs1))) := by
  unfold m at h
  have e : strip (.ListComp elt [⟨tg', iter, ifs, 0⟩, ⟨tg1', iter1, ifs1, 0⟩] scope pos) = (.ListComp elt [⟨tg', iter, ifs, 0⟩, ⟨tg1', iter1, ifs1, 0⟩] scope pos) := rfl
  rw [e] at h
  simp only [Bool.and_eq_true] at h
  obtain ⟨⟨⟨⟨⟨⟨⟨⟨⟨⟨⟨⟨h1, h2⟩, h3⟩, h3b⟩, h4⟩, h4b⟩, h5⟩, h5b⟩, h6⟩, h6b⟩, h7⟩, h8⟩, h8b⟩ := h
  unfold two at h2
  simp only [Bool.and_eq_true, List.all_eq_true, decide_eq_true_eq] at h2
  have pa := mA_ok xs M h6
  have pit := it_ok M h5 pa.1 pa.2
  have hb : BlkOk X.N X.env.scope scope own := by rw [M.hN, M.hsc]; exact blkOk_by h1
  refine PS.weaken (PS.unl (ps_setLc2 M.ok.calm M.ok.nd hy hyl hsw pit hb h2.2 (fun s H Ca cl fp => ?_) (fun s H Ca cl fp => ?_) (fun s H Ca cl fp => ?_) (fun s H Ca cl fp => ?_) (fun s H Ca cl fp => ?_) (fun s H Ca cl fp => ?_) (nset_fold h4) fun env x => nset_fold h4b x)) fun D σ H h => s_lc2F M.ok h2.1.1 h2.1.2 (setF h)
  · exact mTg_ok tg M.hN M.ok.nd M.ok.calm (blkB_ok M s H Ca cl fp) h3
  · have MB := M.blk hb.kind s H Ca cl fp
    split at h8
    · have : hi = false := by simpa using h8
      subst this
      exact pts_nil
    · rw [Bool.and_eq_true] at h8
      obtain ⟨rfl, h9⟩ := h8
      exact pts_one (m_ok c (t := true) MB h9).1
    · cases h8
  · have MB := M.blk hb.kind s H Ca cl fp
    have pb := mA_ok xs1 MB h6b
    exact i_free (it_ok MB h5b pb.1 pb.2)
  · exact mTg_ok tg1 M.hN M.ok.nd M.ok.calm (blkB_ok M s H Ca cl fp) h3b
  · have MB := M.blk hb.kind s H Ca cl fp
    split at h8b
    · have : hi1 = false := by simpa using h8b
      subst this
      exact pts_nil
    · rw [Bool.and_eq_true] at h8b
      obtain ⟨rfl, h9⟩ := h8b
      exact pts_one (m_ok c1 (t := true) MB h9).1
    · cases h8b
  · exact m_ok x (t := false) (M.blk hb.kind s H Ca cl fp) h7
theorem ss_setDc2 {sc : Scope} {X : Cx} {W : WX} {al : Bool} {kx vx c c1 : Ex} {tg tg1 : Tg} {ik ik1 : IK} {xs xs1 : Exs} {hi hi1 : Bool} {own : List (Str × Nat)} {vs1 : List Nat} {kx' vx' tg' iter tg1' iter1 : Expr} {ifs ifs1 : List Expr} {scope : Scope} {i : Nat} {y : Str} {py pos spos : Pos} (M : Mx G N sc X C W k)
    (h : m G N sc false (.dc2 al kx vx tg ik xs hi c tg1 ik1 xs1 hi1 c1 own vs1) (.DictComp kx' vx' [⟨tg', iter, ifs, 0⟩, ⟨tg1', iter1, ifs1, 0⟩] scope pos) = true) (hy : X.N[i]? = some y) (hyl : X.env.scope.names.lookup y = some .local) (hsw : swapsWith (.DictComp kx' vx' [⟨tg', iter, ifs, 0⟩, ⟨tg1', iter1, ifs1, 0⟩] scope pos) (some (.Name y py)) spos.line X.env = pure true) :
    PS X (.Assign [.Name y py] (.DictComp kx' vx' [⟨tg', iter, ifs, 0⟩, ⟨tg1', iter1, ifs1, 0⟩] scope pos) spos) (sS X C W (.set i (.dc2 al kx vx tg ik xs hi c tg1 ik1 xs1 hi1 c1 own vs1))) := by
  unfold m at h
  have e : strip (.DictComp kx' vx' [⟨tg', iter, ifs, 0⟩, ⟨tg1', iter1, ifs1, 0⟩] scope pos) = (.DictComp kx' vx' [⟨tg', iter, ifs, 0⟩, ⟨tg1', iter1, ifs1, 0⟩] scope pos) := rfl
  rw [e] at h
  simp only [Bool.and_eq_true] at h
  obtain ⟨⟨⟨⟨⟨⟨⟨⟨⟨⟨⟨⟨⟨h1, h2⟩, h3⟩, h3b⟩, h4⟩, h4b⟩, h5⟩, h5b⟩, h6⟩, h6b⟩, h7⟩, h7v⟩, h8⟩, h8b⟩ := h
  unfold two at h2
  simp only [Bool.and_eq_true, List.all_eq_true, decide_eq_true_eq] at h2
  have pa := mA_ok xs M h6
  have pit := it_ok M h5 pa.1 pa.2
  have hb : BlkOk X.N X.env.scope scope own := by rw [M.hN, M.hsc]; exact blkOk_by h1
  refine PS.weaken (PS.unl (ps_setDc2 M.ok.calm M.ok.nd hy hyl hsw pit hb h2.2 (fun s H Ca cl fp => ?a) (fun s H Ca cl fp => ?b) (fun s H Ca cl fp => ?k) (fun s H Ca cl fp => ?v) (nset_fold h4) (fun s H Ca cl fp => ?d) (fun s H Ca cl fp => ?e) (fun s H Ca cl fp => ?f) fun env x => nset_fold h4b x)) fun D σ H h => s_dc2F M.ok h2.1.1 h2.1.2 (setF h)
  case a =>
    exact mTg_ok tg M.hN M.ok.nd M.ok.calm (blkB_ok M s H Ca cl fp) h3
  case b =>
    have MB := M.blk hb.kind s H Ca cl fp
    split at h8
    · have : hi = false := by simpa using h8
      subst this
      exact pts_nil
    · rw [Bool.and_eq_true] at h8
      obtain ⟨rfl, h9⟩ := h8
      exact pts_one (m_ok c (t := true) MB h9).1
    · cases h8
  case d =>
    have MB := M.blk hb.kind s H Ca cl fp
    have pb := mA_ok xs1 MB h6b
    exact i_free (it_ok MB h5b pb.1 pb.2)
  case e =>
    exact mTg_ok tg1 M.hN M.ok.nd M.ok.calm (blkB_ok M s H Ca cl fp) h3b
  case f =>
    have MB := M.blk hb.kind s H Ca cl fp
    split at h8b
    · have : hi1 = false := by simpa using h8b
      subst this
      exact pts_nil
    · rw [Bool.and_eq_true] at h8b
      obtain ⟨rfl, h9⟩ := h8b
      exact pts_one (m_ok c1 (t := true) MB h9).1
    · cases h8b
  case k =>
    exact m_ok kx (t := false) (M.blk hb.kind s H Ca cl fp) h7
  case v =>
    exact m_ok vx (t := false) (M.blk hb.kind s H Ca cl fp) h7v
mutual
theorem mS_ok {sc : Scope} {X : Cx} {W : WX} (M : Mx G N sc X C W k) (hp : PassesOwn (model X.prog X.w) X.A X.env X.xe) (hf : ∀ x, X.fn x = true) (hst : X.stack = X.env :: X.outer ∧ X.env.frame = some X.env.locals) : ∀ (x : Sx) {s : Stmt}, mS G N sc x s = true → PS X s (sS X C W x)
  | .set i e, s, h => by
    unfold mS at h
    split at h
    · rename_i x px e' pos
      simp only [Bool.and_eq_true, decide_eq_true_eq, Bool.or_eq_true, Bool.not_eq_true'] at h
      obtain ⟨⟨⟨h1, h2⟩, h3⟩, h4⟩ := h
      obtain ⟨l1, l2⟩ := locB_ok M hf x h2
      have hN : X.N[i]? = some x := by rw [M.hN]; exact h1
      have hk : X.env.scope.kind = .function := by rw [M.hsc]; exact M.kind
      cases hw : swB sc e' x px with
      | false => exact ss_set M.ok hN l1 l2 (m_ok e (t := false) M h3) (by rw [sw_eq hk, M.hsc, hw])
      | true =>
        rw [hw] at h4
        rcases h4 with h4 | h4
        · cases h4
        · have hyl : sc.names.lookup x = some .local := by
            unfold swB at hw
            split at hw
            all_goals first
              | (simp only [Bool.and_eq_true, decide_eq_true_eq] at hw; exact hw.1.1)
              | cases hw
          split at h4
          · exact ss_setLc M (lc_of M h3) hN (by rw [M.hsc]; exact hyl) (by rw [sw_eq hk, M.hsc, hw])
          · exact ss_setLc2 M h3 hN (by rw [M.hsc]; exact hyl) (by rw [sw_eq hk, M.hsc, hw])
          · exact ss_setDc M h3 hN (by rw [M.hsc]; exact hyl) (by rw [sw_eq hk, M.hsc, hw])
          · exact ss_setDc2 M h3 hN (by rw [M.hsc]; exact hyl) (by rw [sw_eq hk, M.hsc, hw])
          · cases h4
    · cases h
  | .unp tg e, s, h => by
    unfold mS at h
    split at h
    · rename_i es kk pt e' pos
      rw [Bool.or_eq_true] at h
      rcases h with h | h
      case inr =>
        split at h
        · rename_i i j xs x px y py a b k2 pt2
          simp only [Bool.and_eq_true, decide_eq_true_eq] at h
          obtain ⟨⟨⟨⟨q1, q2⟩, q3⟩, q4⟩, q5⟩ := h
          have q6 := q4
          unfold parB at q6
          simp only [Bool.and_eq_true, decide_eq_true_eq] at q6
          exact ss_par M.ok (by rw [M.hN]; exact q1) (by rw [M.hN]; exact q2) q3 (by rw [M.hsc]; exact q6.1.1.1.1.1.1.1) (by rw [M.hsc]; exact q6.1.1.1.1.1.1.2) (mA_ok xs M q5).1 (sw_par (by rw [M.hsc]; exact M.kind) (by rw [M.hsc]; exact q4))
        · cases h
      simp only [Bool.and_eq_true] at h
      obtain ⟨⟨h1, h2⟩, h3⟩ := h
      exact ss_unp M.ok (mTg_ok tg M.hN M.ok.nd M.ok.calm (locB_ok M hf) h2) (m_ok e (t := false) M h3) (show swapsWith e' (some (.Tuple es kk pt)) pos.line X.env = pure false from sw_tup) (ss_none h1) rfl
    · cases h
  | .aug o i e, s, h => by
    unfold mS at h
    split at h
    · simp only [Bool.and_eq_true, decide_eq_true_eq] at h
      obtain ⟨⟨⟨h1, rfl⟩, h2⟩, h3⟩ := h
      obtain ⟨l1, l2⟩ := locB_ok M hf _ h2
      exact ss_aug M.ok (by rw [M.hN]; exact h1) l1 l2 (m_ok e (t := false) M h3)
    · cases h
  | .six a b e, s, h => by
    unfold mS at h
    split at h
    · rename_i a' b' tpos e' pos
      simp only [Bool.and_eq_true] at h
      obtain ⟨⟨⟨⟨h1, h2⟩, h3⟩, h4⟩, h5⟩ := h
      exact ss_six M.ok (m_ok a (t := false) M h3) (m_ok b (t := false) M h4) (m_ok e (t := false) M h5) (show swapsWith e' (some (.Subscript a' b' tpos)) pos.line X.env = pure false from sw_sub) h1
    · cases h
  | .ex e, s, h => by
    unfold mS at h
    split at h
    · rw [Bool.and_eq_true] at h
      exact ss_ex (m_ok e (t := false) M h.2) (ncp_sw h.1)
    · cases h
  | .ret e, s, h => by
    unfold mS at h
    split at h
    · exact ss_ret (m_ok e (t := false) M h)
    · cases h
  | .retN, s, h => by
    unfold mS at h
    split at h
    · exact ss_retN
    · cases h
  | .iff c a b, s, h => by
    unfold mS at h
    split at h
    · simp only [Bool.and_eq_true] at h
      exact ss_if (m_ok c (t := true) M h.1.1).1 (mSs_ok M hp hf hst a h.1.2) (mSs_ok M hp hf hst b h.2)
    · cases h
  | .loop tg ik xs body, s, h => by
    unfold mS at h
    split at h
    · simp only [Bool.and_eq_true] at h
      obtain ⟨⟨⟨⟨h1, h2⟩, h3⟩, h4⟩, h5⟩ := h
      have pa := mA_ok xs M h4
      exact ss_loop M.ok hp (it_ok M h3 pa.1 pa.2) (mTg_ok tg M.hN M.ok.nd M.ok.calm (locB_ok M hf) h1) (mSs_ok M hp hf hst body h5) h2
    · cases h
  | .raise c mm, s, h => by
    unfold mS at h
    split at h
    · simp only [Bool.and_eq_true, decide_eq_true_eq] at h
      obtain ⟨⟨⟨rfl, rfl⟩, h2⟩, h3⟩ := h
      obtain ⟨g1, g2⟩ := glB_ok M h3
      exact ss_raise M.ok h2 g1 g2
    · cases h
  | .whl c body, s, h => by
    unfold mS at h
    split at h
    · rw [Bool.and_eq_true] at h
      exact ss_whl hp (m_ok c (t := true) M h.1).1 (mSs_ok M hp hf hst body h.2)
    · cases h
  | .try_ b c yes i j, s, h => by
    unfold mS at h
    split at h
    · simp only [Bool.and_eq_true, decide_eq_true_eq, Bool.not_eq_true'] at h
      obtain ⟨⟨⟨⟨⟨⟨⟨⟨⟨⟨rfl, rfl⟩, h3⟩, h4⟩, h5⟩, h6⟩, h7⟩, h8⟩, h9⟩, h10⟩, h11⟩ := h
      obtain ⟨g1, g2⟩ := glB_ok M h7
      obtain ⟨v1, v2, v3⟩ := visB_ok M h8
      have lx := h5
      have ly := h6
      rw [← M.hsc] at lx ly
      refine ss_try M.ok h9 (fun z => by rw [z] at h10; cases h10) g1 g2 hst.1 hst.2 (by rw [M.hN]; exact h3) (by rw [M.hN]; exact h4) lx ly lx v1 v2 v3 (.inl ly) (fun pn a => rfl) fun W' pn' xe' ok' hp' => ?_
      exact mSs_ok (X := X.tr pn' xe') ⟨ok', M.hsc, M.hN, M.kind⟩ hp' hf hst b h11
    · cases h
  | .brk, s, h => by
    unfold mS at h
    split at h
    · exact ss_brk
    · cases h
  | .cnt, s, h => by
    unfold mS at h
    split at h
    · exact ss_cnt
    · cases h
  | .pass, s, h => by
    unfold mS at h
    split at h
    · exact ss_pass
    · exact ss_doc
    · cases h
theorem mSs_ok {sc : Scope} {X : Cx} {W : WX} (M : Mx G N sc X C W k) (hp : PassesOwn (model X.prog X.w) X.A X.env X.xe) (hf : ∀ x, X.fn x = true) (hst : X.stack = X.env :: X.outer ∧ X.env.frame = some X.env.locals) : ∀ (x : Sxs) {ss : List Stmt}, mSs G N sc x ss = true → PSs X ss (sSs X C W x)
  | .nil, ss, h => by
    unfold mSs at h
    cases ss with
    | nil => exact ss_nil
    | cons => cases h
  | .cons s r, ss, h => by
    unfold mSs at h
    split at h
    · rw [Bool.and_eq_true] at h
      exact ss_cons (mS_ok M hp hf hst s h.1) (mSs_ok M hp hf hst r h.2)
    · cases h
end
end
end Wk

set_option maxRecDepth 100000
set_option maxHeartbeats 1000000
/-! Wk21: defs; the law's end. -/
namespace Wk
open PySem PySem.Spec PyProof.Rows L2
variable [pw : PrW]

omit pw in
theorem len0 {us : List Value} (h : us.length = 0) : us = [] := List.eq_nil_of_length_eq_zero h
omit pw in
theorem len1 {us : List Value} (h : us.length = 1) : ∃ a, us = [a] := by
  match us, h with
  | [a], _ => exact ⟨a, rfl⟩
omit pw in
theorem len2 {us : List Value} (h : us.length = 2) : ∃ a b, us = [a, b] := by
  match us, h with
  | [a, b], _ => exact ⟨a, b, rfl⟩
omit pw in
theorem len3 {us : List Value} (h : us.length = 3) : ∃ a b c, us = [a, b, c] := by
  match us, h with
  | [a, b, c], _ => exact ⟨a, b, c, rfl⟩
omit pw in
theorem len4 {us : List Value} (h : us.length = 4) : ∃ a b c d, us = [a, b, c, d] := by
  match us, h with
  | [a, b, c, d], _ => exact ⟨a, b, c, d, rfl⟩
omit pw in
theorem len5 {us : List Value} (h : us.length = 5) : ∃ a b c d e, us = [a, b, c, d, e] := by
  match us, h with
  | [a, b, c, d, e], _ => exact ⟨a, b, c, d, e, rfl⟩
/-- the rule for a def -/
theorem fnG_of {P : Program} {w : World} {K : PySem.W.Frag} {mg : Str → Option Value} {base : Heap} {k : Nat} {f : Addr} {name qual : Str} {params : Arguments} {body : List Stmt} {scope : Scope} {dV kV doc pm cdv ct oc : Value} {an od : Option Addr}
    {osl : Array (Option Value)} {N ps : List Str} {sp : Sp} (lk : K.lookup f = some ⟨oc, od, .func (PySem.W.fnOf name qual params body scope dV kV doc pm an cdv ct), osl⟩) (hcd : PySem.W.codeIn K cdv qual = true) (S : FnScope N ps scope)
    (len : ∀ vs H Q E, sp vs H Q E → vs.length = ps.length)
    (hbody : ∀ (A : Around) (outer : List PySem.Env) (s : Shared) (H : Hp) (vs : List V) (Q : VK) (E : XK), Room k (A.deeper (envOfC qual scope s.heap.objs.size f cdv)) → (A.deeper (envOfC qual scope s.heap.objs.size f cdv)).guards = some [] → sp vs H Q E →
      ∃ t, PSs (cxOf (L2.CX P w) P w K mg base N qual scope f cdv A outer s H E) body t ∧ t { nx := fun _ H' => Q .non H', rt := Q } (start N vs) H) :
    FnG P w K mg base (k + 1) f (PySem.W.fnOf name qual params body scope dV kV doc pm an cdv ct) ps sp := by
  refine ⟨len, fun A outer s H args us vs Q E hr hgd e0 hb r hsp => ?_⟩
  have hl := len _ _ _ _ hsp
  have KX : K.In s.heap := e0.mod.kin.keeps fun b o e => (e0.bs b o e).1
  have lim : s.heap.NoLimit := e0.mod.nolimit.keeps fun b o e => (e0.bs b o e).1
  have hkind : ∀ y ∈ ps.zip us, scope.names.lookup y.1 = some .local ∨ (scope.names.lookup y.1 = some .cell ∧ ((cellsFrom (s.heap.objs.size + 1) scope.names []).lookup y.1).isSome = true) := fun ⟨n, v⟩ hy => by
    rcases S.par n (List.of_mem_zip hy).1 with q | q
    · exact .inl q
    · exact .inr ⟨q, PySem.W.cellsFrom_some _ _ _ (.inl q)⟩
  refine codeAny_call_function hr.depth (KX _ _ lk) rfl S.co S.gen rfl (PySem.W.codeRec_of KX hcd) (hb _ _ _ _ ?_)
  refine wpAny_newFunctionEnv_cells S.kind hkind fun env he s1 x => ?_
  subst he
  refine ⟨lim.keeps x.toInCall.keep, codeAny_func ?_⟩
  obtain ⟨t, ht, hq⟩ := hbody A outer s H vs Q E (hr.deeper _) hgd hsp
  have I : L2.Inv (cxOf (L2.CX P w) P w K mg base N qual scope f cdv A outer s H E) [] (start N vs) H s1 := inv_start S hr.hd e0 hl r x
  refine wpAny_mono (ht.run [] s1 (start N vs) H _ I hq) (fun fl s' hs => ?_) fun e s' hs => hs
  have fin : ∀ {σ' : L2.St} {H' : Hp} {v : V} {u : Value}, L2.Inv (cxOf (L2.CX P w) P w K mg base N qual scope f cdv A outer s H E) [] σ' H' s' → L2.RelV v u → Q v H' → CE outer P w H s Q u s' :=
    fun {σ' H' v u} J rv q => ⟨v, H', J.os, J.bare, J.base, J.hok, rv, q⟩
  cases fl with
  | ret u =>
    obtain ⟨v, σ', H', J, rv, q⟩ := hs
    exact fin J rv q
  | next =>
    obtain ⟨σ', H', J, q⟩ := hs
    exact fin (v := V.non) (u := Value.none) J rfl q
  | brk =>
    obtain ⟨_, _, _, q⟩ := hs
    exact False.elim q
  | cont =>
    obtain ⟨_, _, _, q⟩ := hs
    exact False.elim q
/-- a def's scope, looked at -/
def scB (N ps : List Str) (sc : Scope) : Bool := decide (sc.kind = .function) && !sc.isCoroutine && !sc.isGenerator && decide N.Nodup && decide (N.take ps.length = ps) && ps.all (fun x => locB sc x) && sc.names.all fun y => !decide (y.2 = .free)
omit pw in
theorem scB_ok {N ps : List Str} {sc : Scope} (h : scB N ps sc = true) : FnScope N ps sc := by
  unfold scB at h
  simp only [Bool.and_eq_true, Bool.not_eq_true', decide_eq_true_eq, List.all_eq_true, decide_eq_false_iff_not] at h
  obtain ⟨⟨⟨⟨⟨⟨h1, h2⟩, h3⟩, h4⟩, h5⟩, h6⟩, h7⟩ := h
  refine ⟨h1, h2, h3, h4, h5, fun x hx => ?_, h7⟩
  have := h6 x hx
  unfold locB at this
  simpa using this
/-- a def of the text with its own syntax -/
structure TD where
  d : He.DefD
  N : List Str
  ps : List Str
  F : Fn
  at_ : d.at_ = (d.name, none)
  dfl : d.dfl = []
  kwd : d.kwd = []
  bnd : ∀ (kV doc pm : Value) (an : Option Addr) (cdv ct : Value) (us : List Value), us.length = ps.length → bindArgs (PySem.W.fnOf d.name d.qual d.params d.body d.scope .none kV doc pm an cdv ct) ⟨us, []⟩ = pure (ps.zip us)
def TD.ok (G : Pr) (t : TD) : Bool := scB t.N t.ps t.d.scope && decide (t.N.length = t.F.n) && decide (t.ps.length = t.F.p) && mSs G t.N t.d.scope t.F.body t.d.body
def fnsOf (ts : List TD) : Str → Option Fn := fun f => (ts.find? fun t => decide (t.d.name = f)).map (·.F)
def globsOf (cs : List (Str × D)) : Str → Option D := fun x => cs.lookup x
def txOf (ts : List TD) (cs : List (Str × D)) (bl ex : List Str) (ix : List (Str × Str × Bool)) : Pr := ⟨fnsOf ts, globsOf cs, bl, ex, ix⟩
noncomputable def ctxN (G : Pr) (n : Nat) : Ctx := ⟨callN G.fns G.globs n, G.globs⟩
/-- a constant of the module -/
def cstV : D → Option V
  | .int i => some (.int i)
  | .str x => some (.str x)
  | .bl b => some (.bl b)
  | .non => some .non
  | _ => none
def faOf : Str × D → He.Fa
  | (x, .int i) => .int x i
  | (x, .str z) => .str x z
  | (x, _) => .free x
def cokB : Str × D → Bool
  | (_, .int _) => true
  | (_, .str _) => true
  | _ => false
/-- what is known of the module -/
structure Says (ts : List TD) (cs : List (Str × D)) (bl ex : List Str) (ix : List (Str × Str × Bool)) (K : PySem.W.Frag) (mg : Str → Option Value) : Prop where
  fn : ∀ t ∈ ts, ∃ fd, FunD K t.d.name t.d.qual t.d.params t.d.body t.d.scope [] [] (He.fAd K t.d.at_) fd ∧ mg t.d.name = some (.ref (He.fAd K t.d.at_))
  blt : ∀ b ∈ bl, mg b = none
  glo : ∀ p ∈ cs, ∃ v u, mg p.1 = some u ∧ L2.RelV v u ∧ ∀ (K : PySem.W.Frag) H fb ι, Rel K H fb ι p.2 v
  exc : ∀ c ∈ ex, ∃ Ca, mg c = some (.ref Ca) ∧ PySem.W.excIn K Ca He.veBase "ValueError.__new__" = true ∧ PySem.W.keepIn K (.ref Ca) = true ∧ PySem.W.subIn K (.ref Ca) (.type "BaseException") = some true ∧ PySem.W.typeIn K (.ref Ca) = some (.type "type")
  isx : ∀ q ∈ ix, IsxOk K mg q
def faAll (ts : List TD) (cs : List (Str × D)) (bl ex : List Str) : List He.Fa := ts.map (fun t => .glo t.d.name) ++ cs.map faOf ++ bl.map .free ++ ex.map .exc ++ ex.map .glo
/-! #### which own exceptions are of which class -/
def clsV (K : PySem.W.Frag) (c : Str) : Value := match PySem.W.nsIn K mainGlobals c with
  | some (some (.ref a)) => .ref a
  | _ => (bootBuiltins c).getD .none
def isTyV : Value → Bool
  | .type _ => true
  | _ => false
def ixB (K : PySem.W.Frag) (q : Str × Str × Bool) : Bool :=
  decide (PySem.W.nsIn K mainGlobals q.1 = some (some (.ref (He.ga K q.1)))) &&
  (decide (PySem.W.nsIn K mainGlobals q.2.1 = some (some (.ref (He.ga K q.2.1)))) || (decide (PySem.W.nsIn K mainGlobals q.2.1 = some none) && (bootBuiltins q.2.1).isSome && isTyV (clsV K q.2.1) && decide (q.2.1 ≠ "__name__"))) &&
  decide (PySem.W.kitOne K (.ref (He.ga K q.1)) (clsV K q.2.1) = some q.2.2) && decide (PySem.W.exmOne K (.ref (He.ga K q.1)) (clsV K q.2.1) = some q.2.2) &&
  decide (PySem.W.findIn K (.ref (He.ga K q.1)) "__getattribute__" = some (some (.builtin "BaseException.__getattribute__"))) && decide (PySem.W.findIn K (.ref (He.ga K q.1)) "__getattr__" = some none) &&
  decide (PySem.W.subIn K (.ref (He.ga K q.1)) (.type "BaseException") = some true) && PySem.W.hasDictIn K (He.ga K q.1) && decide (PySem.W.findIn K (.ref (He.ga K q.1)) "__class__" = some (some (.builtin "object.__class__"))) &&
  decide (PySem.W.specialIn K (.builtin "object.__class__") "__get__" = some (some (.builtin "getset_descriptor.__get__"))) && decide (PySem.W.takesIn K (.builtin "object.__class__") = some true) && decide (PySem.W.mroIn K (He.ga K q.1) (.type "object") = some true)
omit pw in
theorem ix_ok {K : PySem.W.Frag} {h : Heap} {mg : Str → Option Value} (X : K.In h) (Gm : h.Ns mainGlobals mg) {q : Str × Str × Bool} (c : ixB K q = true) : IsxOk K mg q := by
  unfold ixB at c
  simp only [Bool.and_eq_true, Bool.or_eq_true, decide_eq_true_eq] at c
  obtain ⟨⟨⟨⟨⟨⟨⟨⟨⟨⟨⟨c1, c2⟩, c3⟩, c4⟩, c5⟩, c6⟩, c7⟩, c8⟩, c9⟩, c10⟩, c11⟩, c12⟩ := c
  refine ⟨_, clsV K q.2.1, PySem.W.mg_of X Gm c1, ⟨c5, c6, c7, c8, c9, c10, c11, c12⟩, ?_, c3, c4⟩
  rcases c2 with c2 | ⟨⟨⟨c2, d2⟩, d3⟩, d4⟩
  · have e : clsV K q.2.1 = .ref (He.ga K q.2.1) := by unfold clsV; rw [c2]
    exact .inl ⟨by rw [e]; exact PySem.W.mg_of X Gm c2, He.ga K q.2.1, e⟩
  · have e : clsV K q.2.1 = (bootBuiltins q.2.1).getD .none := by unfold clsV; rw [c2]
    refine .inr ⟨PySem.W.mg_none_of X Gm c2, ?_, d4, ?_⟩
    · rw [e]
      cases z : bootBuiltins q.2.1 with
      | none => rw [z] at d2; cases d2
      | some v => rfl
    · cases z : clsV K q.2.1 with
      | type t => exact ⟨t, rfl⟩
      | _ => rw [z] at d3; cases d3
/-- the Hook of the kit, and these -/
def hookX (n : Nat) (fa : List He.Fa) (fn : List He.DefD) (ix : List (Str × Str × Bool)) : PySem.W.Hook where
  α := He.AlD × Bool
  obs := fun s => (He.obsD fa fn (He.frG s.heap.get? (He.asD s.heap.get? n)), ix.all (ixB (He.frG s.heap.get? (He.asD s.heap.get? n))))
  val := fun _ => (He.valD fn, true)
  says := fun _ h => ∃ K : PySem.W.Frag, K.In h ∧ He.SaysD fa fn K ∧ ix.all (ixB K) = true
  of := fun _ _ e => ⟨_, He.frG_in, congrArg Prod.fst e, congrArg Prod.snd e⟩
  keeps := fun _ _ _ ⟨K, hK, c⟩ k => ⟨K, PySem.W.Frag.In.keeps hK k, c⟩
def obsXG (n : Nat) (fa : List He.Fa) (fn : List He.DefD) (ix : List (Str × Str × Bool)) (g : Addr → Option Obj) : He.AlD × Bool := (He.obsD fa fn (He.frG g (He.asD g n)), ix.all (ixB (He.frG g (He.asD g n))))
omit pw in
theorem obsXG_eq {n : Nat} {fa : List He.Fa} {fn : List He.DefD} {ix : List (Str × Str × Bool)} {g : Addr → Option Obj} {s : Shared} (h : ∀ a, g a = s.heap.get? a) : obsXG n fa fn ix g = (hookX n fa fn ix).obs s := by
  have e : g = s.heap.get? := funext h
  rw [e] <;> rfl
theorem says_of {ts : List TD} {cs : List (Str × D)} {bl ex : List Str} {ix : List (Str × Str × Bool)} {K : PySem.W.Frag} {h : Heap} {mg : Str → Option Value} (X : K.In h) (Gm : h.Ns mainGlobals mg) (hc : cs.all cokB = true) (c : He.SaysD (faAll ts cs bl ex) (ts.map (·.d)) K) (cx : ix.all (ixB K) = true) : Says ts cs bl ex ix K mg := by
  have c1 := (He.ba (show (((faAll ts cs bl ex).all fun f => f.ok K) && (ts.map (·.d)).all fun d => d.ok K) = true from congrArg (fun z : He.AlD => z.1) c)).1
  have fact : ∀ f ∈ faAll ts cs bl ex, f.ok K = true := fun f hf => List.all_eq_true.mp c1 f hf
  refine ⟨fun t ht => ?_, fun b hb => ?_, fun p hp => ?_, fun e he => ?_, fun q hq => ix_ok X Gm (List.all_eq_true.mp cx q hq)⟩
  · obtain ⟨i, hi, e⟩ := List.getElem_of_mem ht
    obtain ⟨fd, F⟩ := c.def_ (d := t.d) i (by simp [hi, e])
    have hd : t.d.dvs K = [] := by unfold He.DefD.dvs; rw [t.dfl]; rfl
    have hk : t.d.kws K = [] := by unfold He.DefD.kws; rw [t.kwd]; rfl
    rw [hd, hk] at F
    refine ⟨fd, F, ?_⟩
    rw [t.at_]
    exact He.glo_ok X Gm (fact _ (by simp [faAll]; exact .inl ⟨t, ht, rfl⟩))
  · exact He.free_ok X Gm (fact _ (by simp [faAll, hb]))
  · have hf := fact (faOf p) (by simp [faAll]; exact .inr (.inl ⟨p.1, p.2, hp, rfl⟩))
    have hcp := List.all_eq_true.mp hc p hp
    obtain ⟨x, d⟩ := p
    cases d with
    | int i => obtain ⟨t, e⟩ := He.int_ok X Gm hf; exact ⟨.int i, _, e, ⟨t, rfl⟩, fun _ _ _ _ => rfl⟩
    | str z => obtain ⟨t, e⟩ := He.str_ok X Gm hf; exact ⟨.str z, _, e, ⟨t, rfl⟩, fun _ _ _ _ => rfl⟩
    | _ => cases hcp
  · have h1 := He.exc_ok (fact (.exc e) (by simp [faAll, he]))
    have h2 := He.glo_ok X Gm (x := e) (fact (.glo e) (by simp [faAll, he]))
    exact ⟨_, h2, h1⟩
section
variable {ts : List TD} {cs : List (Str × D)} {bl ex : List Str} {ix : List (Str × Str × Bool)} {P : Program} {w : World} {K : PySem.W.Frag} {mg : Str → Option Value} {base : Heap}
theorem start_rel {F : Fn} {N : List Str} {H : Hp} {fb ι : List Addr} {ds : List D} {vs : List V} (r : Rels K H fb ι ds vs) (hN : N.length = F.n) (hp : ds.length = F.p) (hle : F.p ≤ F.n) : RelE K H fb ι (ds.map some ++ List.replicate (F.n - F.p) none) (L2.start N vs) := by
  have hl := r.length
  refine ⟨by simp [L2.start, ← hl, hN, hp], fun i d e => ?_⟩
  by_cases hi : i < ds.length
  · rw [List.getElem?_append_left (by simpa using hi), List.getElem?_map] at e
    cases q : ds[i]? with
    | none => rw [q] at e; cases e
    | some d' =>
      rw [q] at e
      cases e
      obtain ⟨v, h1, h2⟩ := r.get q
      refine ⟨v, ?_, h2⟩
      unfold L2.start
      rw [List.getElem?_append_left (by rw [List.length_map, ← hl]; exact hi), List.getElem?_map, h1]
      rfl
  · rw [List.getElem?_append_right (by simpa using hi), List.getElem?_replicate] at e
    split at e <;> cases e
omit pw in
theorem find_ok {f : Str} {F : Fn} (h : fnsOf ts f = some F) : ∃ t ∈ ts, t.d.name = f ∧ t.F = F := by
  unfold fnsOf at h
  cases q : ts.find? fun t => decide (t.d.name = f) with
  | none => rw [q] at h; cases h
  | some t =>
    rw [q] at h
    cases h
    exact ⟨t, List.mem_of_find?_eq_some q, by have := List.find?_some q; simpa using this, rfl⟩
/-- every def keeps what the evaluator says -/
theorem txt_step (hs : Says ts cs bl ex ix K mg) (hok : ∀ t ∈ ts, t.ok (txOf ts cs bl ex ix) = true) (n : Nat) (hf : ∀ t ∈ ts, ∀ fd, FunD K t.d.name t.d.qual t.d.params t.d.body t.d.scope [] [] (He.fAd K t.d.at_) fd → fnsOf ts t.d.name = some t.F → FnG P w K mg base n (He.fAd K t.d.at_) fd t.ps (spOf K mg (ctxN (txOf ts cs bl ex ix) n) t.d.name)) : Txt (txOf ts cs bl ex ix) P w K mg base (ctxN (txOf ts cs bl ex ix) n) n := by
    refine ⟨fun f F hF => ?_, hs.blt, fun x d hx => ?_, hs.exc, hs.isx⟩
    · obtain ⟨t, ht, rfl, rfl⟩ := find_ok hF
      obtain ⟨fd, FD, hm⟩ := hs.fn t ht
      have hk := hok t ht
      unfold TD.ok at hk
      simp only [Bool.and_eq_true, decide_eq_true_eq] at hk
      exact ⟨_, fd, t.ps, hk.1.2, hm, FD.kp, FD.bindsN t.bnd, hf t ht fd FD hF⟩
    · have hx : cs.lookup x = some d := hx
      have hmem : (x, d) ∈ cs := PySem.mem_of_lookup hx
      obtain ⟨v, u, h1, h2, h3⟩ := hs.glo _ hmem
      exact ⟨v, u, h1, h2, fun H fb ι => h3 K H fb ι⟩
theorem fn_all (hP : P = pw.P ∧ w = pw.w ∧ mg = pw.mg) (hs : Says ts cs bl ex ix K mg) (hok : ∀ t ∈ ts, t.ok (txOf ts cs bl ex ix) = true) : ∀ n, ∀ t ∈ ts, ∀ fd, FunD K t.d.name t.d.qual t.d.params t.d.body t.d.scope [] [] (He.fAd K t.d.at_) fd → fnsOf ts t.d.name = some t.F → FnG P w K mg base n (He.fAd K t.d.at_) fd t.ps (spOf K mg (ctxN (txOf ts cs bl ex ix) n) t.d.name) := by
  intro n
  induction n with
  | zero =>
    refine fun t ht fd FD hF => ⟨fun vs H Q E h => ?_, fun A outer s H args us vs Q E hr hg e0 hb r h => ?_⟩
    · obtain ⟨fb, ι, st, ds, S, r, q⟩ := h
      exact q.elim
    · obtain ⟨fb, ι, st, ds, S, r, q⟩ := h
      exact q.elim
  | succ n ih =>
    have ih := txt_step (P := P) (w := w) (base := base) hs hok n ih
    refine fun t ht fd FD hF => ?_
    have hk := hok t ht
    unfold TD.ok at hk
    simp only [Bool.and_eq_true, decide_eq_true_eq] at hk
    obtain ⟨⟨⟨k1, k2⟩, k3⟩, k4⟩ := hk
    have S := scB_ok k1
    have call : ∀ (ds : List D) (st : Store), (ctxN (txOf ts cs bl ex ix) (n + 1)).call t.d.name ds st = runF (ctxN (txOf ts cs bl ex ix) n) t.F ds st := fun ds st => by
      show callN (txOf ts cs bl ex ix).fns (txOf ts cs bl ex ix).globs (n + 1) t.d.name ds st = _
      unfold callN
      have : (txOf ts cs bl ex ix).fns t.d.name = some t.F := hF
      rw [this]; rfl
    have cond : ∀ (ds : List D) (st : Store) {K' : PySem.W.Frag} {fb ι : List Addr} {H : Hp} {ok : D → Store → List Addr → Hp → Prop} {exx : D → Store → List Addr → Hp → Prop}, Po K' fb (runF (ctxN (txOf ts cs bl ex ix) n) t.F ds st) ok exx ι H → ds.length = t.F.p ∧ t.F.p ≤ t.F.n ∧
        Po K' fb ((evSs (ctxN (txOf ts cs bl ex ix) n) t.F.body (ds.map some ++ List.replicate (t.F.n - t.F.p) none) >>= fun f => match f with
          | .rt d => pure d
          | .nx _ => pure .non
          | .er _ e => fun st => some (.ex e st)
          | _ => .no) st) ok exx ι H := fun ds st {K' fb ι H ok exx} q => by
      unfold runF at q
      cases hc : (ds.length == t.F.p && Nat.ble t.F.p t.F.n) with
      | false => rw [hc] at q; exact q.elim
      | true =>
        rw [hc, if_pos rfl] at q
        rw [Bool.and_eq_true] at hc
        exact ⟨by simpa using hc.1, Nat.ble_eq.mp hc.2, q⟩
    obtain ⟨oc, od, dV, kV, doc, pm, an, cdv, ct, osl, rfl, lk, hcd, _, _⟩ := FD.ex
    refine fnG_of lk hcd S (fun vs H Q E h => ?_) fun A outer s H vs Q E hr hg h => ⟨_, mSs_ok (G := txOf ts cs bl ex ix) (C := ctxN (txOf ts cs bl ex ix) n) (k := n) (W := fun cls d _ H => E cls d H) (sc := t.d.scope) (N := t.N) ⟨⟨rfl, hP, S.nd, hg, hr, takes_of rfl rfl rfl rfl, ih⟩, rfl, rfl, S.kind⟩ (passes_of rfl) (fun _ => rfl) ⟨rfl, rfl⟩ t.F.body k4, ?_⟩
    · obtain ⟨fb, ι, st, ds, S', r, q⟩ := h
      rw [call] at q
      rw [← r.length, (cond ds st q).1, k3]
    · obtain ⟨fb, ι, st, ds, S', r, q⟩ := h
      rw [call] at q
      obtain ⟨h1, h2, q⟩ := cond ds st q
      refine ⟨fb, ι, _, st, start_rel r k2 h1 h2, S', q.bind.mono (fun f st1 ι1 H1 g S1 q => ?_) fun e st1 ι1 H1 g S1 q σ' cls dx rx => q cls dx rx⟩
      cases f with
      | nx env => exact fun σ' he => Po.ret (a := D.non) q S1 _ rfl
      | rt d => exact fun v rv => Po.ret (a := d) q S1 v rv
      | bk env => exact q.elim
      | ct env => exact q.elim
      | er env e => exact fun σ' he cls dx rx => q ι1 H1 Grow.refl S1 cls dx rx
end
end Wk

set_option maxRecDepth 100000
set_option maxHeartbeats 1000000
/-! Wk22: the law's end. -/
namespace Wk
open PySem PySem.Spec PyProof.Rows L2
variable [pw : PrW]

theorem law_callG {P : Program} {w : World} {K : PySem.W.Frag} {mg mb : Str → Option Value} {k : Nat} {fa a : Addr} {fd : FuncData} {x : Str} {sp : Sp} {s₁ : Shared} {vs : List Value} {ns : List Int}
    (KX : K.In s₁.heap) (hns : s₁.heap.Ns mainGlobals mg) (hb : s₁.heap.Ns builtinsNs mb) (hbb : ∀ x : Str, x ≠ "__name__" → mb x = bootBuiltins x) (hlim : s₁.heap.NoLimit) (hg : s₁.gens = #[])
    (ha : s₁.heap.get? a = some { cls := .type "list", data := .seq vs.toArray }) (hi : IntsAre vs ns) (hl : ns.length ≤ sizeLine) (hr : Room k callerA) (hgd : callerA.guards = some [])
    (F : ∀ base : Heap, FnG P w K mg base k fa fd [x] sp) (hbind : ∀ (s : Shared) (u : Value), BindsTo s fd ⟨[u], []⟩ [(x, u)])
    (hsp : ∀ H : Hp, Only H → SqL K H a (ns.map V.int) → sp [.ref a] H (fun v _ => v = .bl true) fun _ _ _ => False) :
    codeAny (model P w) callerA (.call (.ref fa) ⟨[.ref a], []⟩) (fun r s' => r = .ok (.ret (.bool true)) ∧ OldK s₁.heap s'.heap ∧ s'.os = s₁.os ∧ AllBare s'.gens) s₁ := by
  have rv := vals_ints hi
  have lenV := hi.length
  have core : ∀ H : Hp, Only H → SqL K H a (ns.map V.int) → HOk P w H s₁.heap → (∀ b, H b ≠ none → b = a) → (H a ≠ none → K.lookup a = none) →
      codeAny (model P w) callerA (.call (.ref fa) ⟨[.ref a], []⟩) (fun r s' => r = .ok (.ret (.bool true)) ∧ OldK s₁.heap s'.heap ∧ s'.os = s₁.os ∧ AllBare s'.gens) s₁ := by
    intro H hO hS hok hA hK
    have base_of : ∀ {b : Addr} {o : Obj}, s₁.heap.get? b = some o → H b = none → (hidT s₁.heap H).get? b = some o := fun e n => hidT_get e n
    have noA : ∀ {b : Addr} {o : Obj} {es : Array DictEntry} {ep : Nat}, s₁.heap.get? b = some o → o.data = .dict es ep → H b = none := fun {b o es ep} e d => by
      cases q : H b with
      | none => rfl
      | some u =>
        have e' : b = a := hA b (by rw [q]; simp)
        subst e'
        rw [ha] at e; cases e
        have d' : Data.seq vs.toArray _ = Data.dict es ep := d
        cases d'
    have nsK : ∀ {b : Addr} {m : Str → Option Value}, s₁.heap.Ns b m → (hidT s₁.heap H).Ns b m := fun {b m} ⟨o, es, ep, e, d, r⟩ => ⟨o, es, ep, base_of e (noA e d), d, r⟩
    have hKb : K.In (hidT s₁.heap H) := fun b o e => base_of (KX b o e) (by
      cases q : H b with
      | none => rfl
      | some u =>
        have e' : b = a := hA b (by rw [q]; simp)
        subst e'
        rw [hK (by rw [q]; simp)] at e; cases e)
    have hM : Mod K mg (hidT s₁.heap H) := ⟨hKb, nsK hns, ⟨mb, nsK hb, hbb⟩, let ⟨mc, h1, h2⟩ := hlim; ⟨mc, nsK h1, h2⟩⟩
    have e0 : Env0 P w K mg (hidT s₁.heap H) callerA [] s₁ H := ⟨rfl, hM, fun b o e => of_hidT e, Nat.le_of_eq (hidT_size _ _), trivial, fun b hb => absurd (show b ∈ ([] : List Addr) from hb) (by simp), hok, .of_eq hg⟩
    refine codeAny_mono ((F (hidT s₁.heap H)).run callerA [] s₁ H ⟨[.ref a], []⟩ [.ref a] [.ref a] _ _ hr hgd e0 (hbind s₁ (.ref a)) (.cons rfl .nil) (hsp H hO hS)) fun r s' h => ?_
    cases r with
    | error e =>
      obtain ⟨_, _, _, _, _, _, _, _, _, _, _, _, z⟩ := h
      exact z.elim
    | ok fl =>
      cases fl with
      | next => exact False.elim h
      | brk => exact False.elim h
      | cont => exact False.elim h
      | ret u =>
        obtain ⟨v, H', os, bare, un, hok', r', q⟩ := h
        have q' : v = .bl true := q
        subst q'
        obtain rfl : u = Value.bool true := r'
        refine ⟨rfl, OldK.of_keep fun b o e => ?_, os, bare⟩
        cases q : H b with
        | none => exact un.keep b o e q (by intro z; exact absurd (show b ∈ ([] : List Addr) from z) (by simp)) (by simp)
        | some u =>
          rcases hO b with z | ⟨ob, xs, z⟩
          · rw [q] at z; cases z
          · have z2 := un.frzs b ob _ z
            obtain ⟨e1, _⟩ := hok b _ z
            obtain ⟨e2, _⟩ := hok' b _ z2
            rw [e] at e1; cases e1
            exact e2
  cases hk : K.lookup a with
  | some o =>
    have e := KX a o hk
    rw [ha] at e
    cases e
    refine core (fun _ => none) (fun _ => .inl rfl) (.inr ⟨_, vs.toArray, _, hk, rfl, rfl, rfl, by rw [List.size_toArray, lenV]; exact hl, by simpa using rv⟩) (fun b u z => by have z' : (none : Option HO) = some u := z; cases z') (fun b z => absurd rfl z) fun z => absurd rfl z
  | none =>
    refine core (fun b => if b = a then some (.frz { cls := .type "list", data := .seq vs.toArray } (.lst (ns.map V.int))) else none) (fun b => ?_) (.inl (.inr ⟨{ cls := .type "list", data := .seq vs.toArray }, if_pos rfl⟩)) (fun b u z => ?_) (fun b z => ?_) fun _ => hk
    · by_cases hb : b = a
      · exact .inr ⟨_, _, if_pos hb⟩
      · exact .inl (if_neg hb)
    · by_cases hb : b = a
      · have z' := (if_pos hb).symm.trans z
        cases z'
        subst hb
        exact ⟨ha, by rw [List.length_map]; exact hl, vs, _, rv, ha⟩
      · have z' := (if_neg hb).symm.trans z
        cases z'
    · by_cases hb : b = a
      · exact hb
      · exact absurd (if_neg hb) z
omit pw in
theorem walk_ofG {l : PySem.W.OpenLaw} {n k : Nat} {q : Program} {loose : List Str} {XP : (Str → Option Value) → Heap → Prop} {YP : World → Heap → Prop} {d : DefRec} {ts : List TD} {cs : List (Str × D)} {bl ex : List Str} {ix : List (Str × Str × Bool)} {t : TD} {x : Str}
    (hn : l.most = some n) (hn2 : n ≤ sizeLine) (hdf : d.params.defaults = []) (hr : Room k callerA) (hY : ∀ (w : World) (h : Heap), YP w h → ∃ K : PySem.W.Frag, K.In h ∧ He.SaysD (faAll ts cs bl ex) (ts.map (·.d)) K ∧ ix.all (ixB K) = true) (hc : cs.all cokB = true)
    (hok : ts.all (TD.ok (txOf ts cs bl ex ix)) = true) (ht : t ∈ ts) (hname : t.d.name = d.name) (hps : t.ps = [x]) (hf : fnsOf ts t.d.name = some t.F)
    (hlaw : ∀ ns : List Int, ns.length ≤ n → ∃ st, callN (fnsOf ts) (globsOf cs) k t.d.name [.scr ns] [] = some (.ok (.bl true) st)) :
    PySem.W.WalkO q loose XP YP l.row.toRowW d [] (fun f vs => PySem.call f vs) := by
  refine Att.attach_call hn hdf fun w s₀ s₁ mg mb fa o pm cd doc a vs ns G Y ho hd hcd hmg hobj hints hlen hg => ?_
  letI pw : PrW := ⟨l.prog, w, mg⟩
  obtain ⟨K, KX, hS, hIx⟩ := hY w _ Y
  have hs := says_of KX G.T.g hc hS hIx
  have hok' : ∀ t ∈ ts, t.ok (txOf ts cs bl ex ix) = true := fun t ht => List.all_eq_true.mp hok t ht
  obtain ⟨fd, FD, hm⟩ := hs.fn t ht
  rw [hname, hmg] at hm
  cases hm
  have FG : ∀ base : Heap, FnG l.prog w K mg base k (He.fAd K t.d.at_) fd [x] (spOf K mg (ctxN (txOf ts cs bl ex ix) k) t.d.name) := fun base => by
    have := fn_all (P := l.prog) (w := w) (base := base) ⟨rfl, rfl, rfl⟩ hs hok' k t ht fd FD hf
    rw [hps] at this
    exact this
  refine law_callG KX G.T.g G.T.b G.T.builtins G.T.nolimit hg hobj hints (Nat.le_trans hlen hn2) hr rfl FG (fun s u => ?_) fun H hO hSq => ?_
  · have := FD.bindsA t.bnd s [u] (by rw [hps]; rfl)
    rw [hps] at this
    exact this
  · obtain ⟨st, hst⟩ := hlaw ns hlen
    refine ⟨[], [], [], [.scr ns], ⟨rfl, by simp, by simp, by simp, by simp⟩, ⟨.ref a, [], rfl, ⟨a, rfl, ?_⟩, rfl⟩, ?_⟩
    · rcases hSq with (z | ⟨o, z⟩) | z
      · rcases hO a with y | ⟨o, xs, y⟩
        · rw [y] at z; cases z
        · rw [y] at z; cases z
      · exact .inl ⟨o, z, by simp, by simp⟩
      · exact .inr fun H' => .inr z
    · have : (ctxN (txOf ts cs bl ex ix) k).call t.d.name [.scr ns] [] = some (.ok (.bl true) st) := hst
      rw [this]
      intro ι' H' g S' v r
      exact r
end Wk

set_option maxRecDepth 100000
set_option maxHeartbeats 2000000
/-! Wl1: the evaluator by equations. -/
namespace Wk
open PySem

section
variable {α β : Type}
@[simp] theorem bnd_ap (m : M α) (f : α → M β) (st : Store) : (m >>= f) st = M.bind m f st := rfl
theorem bind_ok {m : M α} {f : α → M β} {st st' : Store} {a : α} (h : m st = some (.ok a st')) : M.bind m f st = f a st' := by
  unfold M.bind; rw [h]
@[simp] theorem pure_ap (a : α) (st : Store) : (pure a : M α) st = some (.ok a st) := rfl
@[simp] theorem of_ap (a : α) (st : Store) : M.of (some a) st = some (.ok a st) := rfl
theorem rd_ok {f : Store → Option α} {st : Store} {a : α} (h : f st = some a) : M.rd f st = some (.ok a st) := by unfold M.rd; rw [h]
theorem wr_ok {f : Store → Option (α × Store)} {st st' : Store} {a : α} (h : f st = some (a, st')) : M.wr f st = some (.ok a st') := by unfold M.wr; rw [h]
theorem calm_ok {m : M α} {st st' : Store} {a : α} (h : m st = some (.ok a st')) : calm m st = some (.ok a st') := by unfold calm; rw [h]
theorem tr_ok {env : Env} {m : M α} {k : α → M Fl} {st st' : Store} {a : α} (h : m st = some (.ok a st')) : M.tr env m k st = k a st' := by unfold M.tr; rw [h]
end
/-! ### big steps -/
def Ev (C : Ctx) (env : Env) (e : Ex) (st : Store) (d : D) (st' : Store) : Prop := evE C e env st = some (.ok d st')
def EvA (C : Ctx) (env : Env) (xs : Exs) (st : Store) (ds : List D) (st' : Store) : Prop := evA C xs env st = some (.ok ds st')
def Es (C : Ctx) (env : Env) (s : Sx) (st : Store) (f : Fl) (st' : Store) : Prop := evS C s env st = some (.ok f st')
def Ess (C : Ctx) (env : Env) (s : Sxs) (st : Store) (f : Fl) (st' : Store) : Prop := evSs C s env st = some (.ok f st')
section
variable {C : Ctx} {env env' : Env} {st st1 st2 st3 : Store} {a b c e : Ex} {xs : Exs} {x y z d : D} {ds : List D} {al kp : Bool}
theorem Ev.cst : Ev C env (.cst d) st d st := rfl
theorem Ev.var {i : Nat} (h : env[i]? = some (some d)) : Ev C env (.var i) st d st := by show M.of (env[i]?.join) st = _; rw [h]; rfl
theorem Ev.gst {g : Str} (h : C.glob g = some d) : Ev C env (.gst g) st d st := by show M.of (C.glob g) st = _; rw [h]; rfl
theorem Ev.bin {o : Operator} (h1 : Ev C env a st x st1) (h2 : Ev C env b st1 y st2) (h : binD o x y st2 = some d) : Ev C env (.bin o a b) st d st2 := by
  show M.bind (evE C a env) _ st = _
  rw [bind_ok h1]; show M.bind (evE C b env) _ st1 = _
  rw [bind_ok h2]; exact rd_ok h
theorem Ev.neg {i : Int} (h1 : Ev C env a st (.int i) st1) : Ev C env (.neg a) st (.int (-i)) st1 := by
  show M.bind (evE C a env) _ st = _
  rw [bind_ok h1]; rfl
theorem Ev.cmp {o : CmpOp} {r : Bool} (h1 : Ev C env a st x st1) (h2 : Ev C env b st1 y st2) (h : cmpD o x y st2 = some r) : Ev C env (.cmp o a b) st (.bl r) st2 := by
  show M.bind (evE C a env) _ st = _
  rw [bind_ok h1]; show M.bind (evE C b env) _ st1 = _
  rw [bind_ok h2]; exact rd_ok (by rw [h]; rfl)
theorem Ev.cmp2F {o o' : CmpOp} (h1 : Ev C env a st x st1) (h2 : Ev C env b st1 y st2) (h : cmpD o x y st2 = some false) : Ev C env (.cmp2 o o' a b c) st (.bl false) st2 := by
  show M.bind (evE C a env) _ st = _
  rw [bind_ok h1]; show M.bind (evE C b env) _ st1 = _
  rw [bind_ok h2]; show M.bind (M.rd (cmpD o x y)) _ st2 = _
  rw [bind_ok (rd_ok h)]; rfl
theorem Ev.cmp2T {o o' : CmpOp} {r : Bool} (h1 : Ev C env a st x st1) (h2 : Ev C env b st1 y st2) (h : cmpD o x y st2 = some true) (h3 : Ev C env c st2 z st3) (h' : cmpD o' y z st3 = some r) : Ev C env (.cmp2 o o' a b c) st (.bl r) st3 := by
  show M.bind (evE C a env) _ st = _
  rw [bind_ok h1]; show M.bind (evE C b env) _ st1 = _
  rw [bind_ok h2]; show M.bind (M.rd (cmpD o x y)) _ st2 = _
  rw [bind_ok (rd_ok h)]; show M.bind (evE C c env) _ st2 = _
  rw [bind_ok h3]; exact rd_ok (by rw [h']; rfl)
theorem Ev.andF (h1 : Ev C env a st (.bl false) st1) : Ev C env (.and a b) st (.bl false) st1 := by
  show M.bind (evE C a env) _ st = _
  rw [bind_ok h1]; rfl
theorem Ev.andT (h1 : Ev C env a st (.bl true) st1) (h2 : Ev C env b st1 x st2) : Ev C env (.and a b) st x st2 := by
  show M.bind (evE C a env) _ st = _
  rw [bind_ok h1]; exact h2
theorem Ev.orT (h1 : Ev C env a st (.bl true) st1) : Ev C env (.or a b) st (.bl true) st1 := by
  show M.bind (evE C a env) _ st = _
  rw [bind_ok h1]; rfl
theorem Ev.orF (h1 : Ev C env a st (.bl false) st1) (h2 : Ev C env b st1 x st2) : Ev C env (.or a b) st x st2 := by
  show M.bind (evE C a env) _ st = _
  rw [bind_ok h1]; exact h2
theorem Ev.not {r : Bool} (h1 : Ev C env a st (.bl r) st1) : Ev C env (.not a) st (.bl (!r)) st1 := by
  show M.bind (evE C a env) _ st = _
  rw [bind_ok h1]; rfl
theorem Ev.ifeT (h1 : Ev C env c st (.bl true) st1) (h2 : Ev C env a st1 x st2) : Ev C env (.ife c a b) st x st2 := by
  show M.bind (evE C c env) _ st = _
  rw [bind_ok h1]; exact h2
theorem Ev.ifeF (h1 : Ev C env c st (.bl false) st1) (h2 : Ev C env b st1 x st2) : Ev C env (.ife c a b) st x st2 := by
  show M.bind (evE C c env) _ st = _
  rw [bind_ok h1]; exact h2
theorem Ev.tup (h : EvA C env xs st ds st1) (hf : fit ds.length = true) : Ev C env (.tup xs) st (.tup ds) st1 := by
  show M.bind (evA C xs env) _ st = _
  rw [bind_ok h]; show (if fit ds.length = true then pure (D.tup ds) else M.no : M D) st1 = _
  rw [if_pos hf]; rfl
theorem Ev.lst (h : EvA C env xs st ds st1) (hf : fit ds.length = true) : Ev C env (.lst false xs) st (.lst ds) st1 := by
  show M.bind (evA C xs env) _ st = _
  rw [bind_ok h]; show mkL false ds st1 = _
  unfold mkL; rw [if_pos hf]; rfl
theorem Ev.lstA (h : EvA C env xs st ds st1) (hf : fit ds.length = true) : Ev C env (.lst true xs) st (.loc st1.length) (st1 ++ [.lst false ds]) := by
  show M.bind (evA C xs env) _ st = _
  rw [bind_ok h]; show mkL true ds st1 = _
  unfold mkL; rw [if_pos hf]; rfl
theorem Ev.ix (h1 : Ev C env a st x st1) (h2 : Ev C env b st1 y st2) (h : ixD st2 x y = some d) : Ev C env (.ix a b) st d st2 := by
  show M.bind (evE C a env) _ st = _
  rw [bind_ok h1]; show M.bind (evE C b env) _ st1 = _
  rw [bind_ok h2]; exact rd_ok h
theorem Ev.sl {lo hi : Option Int} (h1 : Ev C env a st x st1) (h2 : Ev C env b st1 y st2) (hy : endP b y = some lo) (h3 : Ev C env c st2 z st3) (hz : endP c z = some hi) (h : sliceD st3 x lo hi = some d) : Ev C env (.sl a b c) st d st3 := by
  show M.bind (evE C a env) _ st = _
  rw [bind_ok h1]; show M.bind (evE C b env) _ st1 = _
  rw [bind_ok h2]; show M.bind (M.of (endP b y)) _ st2 = _
  rw [hy]; show M.bind (evE C c env) _ st2 = _
  rw [bind_ok h3]; show M.bind (M.of (endP c z)) _ st3 = _
  rw [hz]; exact rd_ok h
theorem Ev.call {f : Str} (h : EvA C env xs st ds st1) (hc : callD C kp f ds st1 = some (.ok d st2)) : Ev C env (.call kp f xs) st d st2 := by
  show M.bind (evA C xs env) _ st = _
  rw [bind_ok h]; exact hc
theorem Ev.blt {f : Str} (h : EvA C env xs st ds st1) (hc : bltD f ds st1 = some d) : Ev C env (.blt f xs) st d st1 := by
  show M.bind (evA C xs env) _ st = _
  rw [bind_ok h]; exact rd_ok hc
theorem Ev.lsa (h : EvA C env xs st ds st1) {ys : List D} (hc : bltD "list" ds st1 = some (.lst ys)) : Ev C env (.lsa xs) st (.loc st1.length) (st1 ++ [.lst false ys]) := by
  show M.bind (evA C xs env) _ st = _
  rw [bind_ok h]; show M.bind (M.rd _) _ st1 = _
  rw [bind_ok (rd_ok hc)]; rfl
theorem Ev.isi {t u : String} (h : Ev C env a st x st1) (hc : tyOf st1 x = some u) : Ev C env (.isi a t) st (.bl (isTy u t)) st1 := by
  show M.bind (evE C a env) _ st = _
  rw [bind_ok h]; exact rd_ok (by rw [hc]; rfl)
theorem Ev.isi' {t u : String} {r : Bool} (h : Ev C env a st x st1) (hc : tyOf st1 x = some u) (hr : isTy u t = r) : Ev C env (.isi a t) st (.bl r) st1 := hr ▸ Ev.isi h hc
theorem Ev.not' {r r' : Bool} (h1 : Ev C env a st (.bl r) st1) (h : (!r) = r') : Ev C env (.not a) st (.bl r') st1 := h ▸ Ev.not h1
theorem Ev.met {f : Str} (h : Ev C env a st x st1) (ht : metTy f x st1 = some ()) (h2 : EvA C env xs st1 ds st2) (hc : metD f x ds st2 = some (d, st3)) : Ev C env (.met f a xs) st d st3 := by
  show M.bind (evE C a env) _ st = _
  rw [bind_ok h]; show M.bind (M.rd _) _ st1 = _
  rw [bind_ok (rd_ok ht)]; show M.bind (evA C xs env) _ st1 = _
  rw [bind_ok h2]; exact wr_ok hc
theorem Ev.lc {tg : Tg} {k : IK} {hi : Bool} {own : List (Str × Nat)} {its ys : List D} {n : Option Nat} (h : EvA C env xs st ds st1) (hi1 : itD k ds st1 = some (its, n)) (hf : fit its.length = true)
    (hw : withLock n (eachM (lcF C e tg hi c (own.map (·.2)) env) its) st1 = some (.ok ys st2)) (hf2 : fit ys.length = true) : Ev C env (.lc false e tg k xs hi c own) st (.lst ys) st2 := by
  show evE C _ env st = _
  rw [lcF_eq]
  show M.bind (evA C xs env) _ st = _
  rw [bind_ok h]; show M.bind (M.rd _) _ st1 = _
  rw [bind_ok (rd_ok hi1)]
  show (if fit its.length = true then _ else _ : M D) st1 = _
  rw [if_pos hf]
  show M.bind _ _ st1 = _
  rw [bind_ok (calm_ok hw)]
  unfold mkL; rw [if_pos hf2]; rfl
theorem EvA.nil : EvA C env .nil st [] st := rfl
theorem EvA.cons {r : Exs} (h : Ev C env e st d st1) (h2 : EvA C env r st1 ds st2) : EvA C env (.cons false e r) st (d :: ds) st2 := by
  show M.bind (evE C e env) _ st = _
  rw [bind_ok h]; show M.bind (evA C r env) _ st1 = _
  rw [bind_ok h2]; rfl
theorem EvA.star {r : Exs} {ys : List D} (h : Ev C env e st d st1) (hs : sqOf st1 d = some ys) (h2 : EvA C env r st1 ds st2) : EvA C env (.cons true e r) st (ys ++ ds) st2 := by
  show M.bind (evE C e env) _ st = _
  rw [bind_ok h]; show M.bind (M.rd _) _ st1 = _
  rw [bind_ok (rd_ok hs)]; show M.bind (evA C r env) _ st1 = _
  rw [bind_ok h2]; rfl
/-! statements -/
theorem put_eq {i : Nat} (h : i < env.length) : putE i d env st = some (.ok (.nx (env.set i (some d))) st) := by unfold putE; rw [if_pos h]; rfl
theorem Es.set {i : Nat} (h : Ev C env e st d st1) (hl : i < env.length) : Es C env (.set i e) st (.nx (env.set i (some d))) st1 := by
  show M.tr env (evE C e env) _ st = _
  rw [tr_ok h]; exact put_eq hl
theorem Es.unp {tg : Tg} (h : Ev C env e st d st1) (ht : tgSet tg d env = some env') : Es C env (.unp tg e) st (.nx env') st1 := by
  show M.tr env (evE C e env) _ st = _
  rw [tr_ok h]; show M.bind (M.of (tgSet tg d env)) _ st1 = _
  rw [ht]; rfl
theorem Es.aug {i : Nat} {o : Operator} (h0 : env[i]? = some (some x)) (h : Ev C env e st y st1) (ha : augD o x y st1 = some (d, st2)) : Es C env (.aug o i e) st (.nx (env.set i (some d))) st2 := by
  show M.bind (M.of (env[i]?.join)) _ st = _
  rw [h0]; show M.tr env (evE C e env) _ st = _
  rw [tr_ok h]; show M.bind (M.wr _) _ st1 = _
  rw [bind_ok (wr_ok ha)]; exact put_eq (List.getElem?_eq_some_iff.mp h0).1
theorem Es.six (h1 : Ev C env e st d st1) (h2 : Ev C env a st1 x st2) {st4 : Store} (h3 : Ev C env b st2 y st3) (h : setIxD x y d st3 = some ((), st4)) : Es C env (.six a b e) st (.nx env) st4 := by
  show M.tr env (evE C e env) _ st = _
  rw [tr_ok h1]; show M.tr env (evE C a env) _ st1 = _
  rw [tr_ok h2]; show M.tr env (evE C b env) _ st2 = _
  rw [tr_ok h3]; show M.bind (M.wr _) _ st3 = _
  rw [bind_ok (wr_ok h)]; rfl
theorem Es.ex (h : Ev C env e st d st1) : Es C env (.ex e) st (.nx env) st1 := by
  show M.tr env (evE C e env) _ st = _
  rw [tr_ok h]; rfl
theorem Es.ret (h : Ev C env e st d st1) : Es C env (.ret e) st (.rt d) st1 := by
  show M.tr env (evE C e env) _ st = _
  rw [tr_ok h]; rfl
theorem Es.iffT {p q : Sxs} {f : Fl} (h : Ev C env c st (.bl true) st1) (h2 : Ess C env p st1 f st2) : Es C env (.iff c p q) st f st2 := by
  show M.tr env (evE C c env) _ st = _
  rw [tr_ok h]; exact h2
theorem Es.iffF {p q : Sxs} {f : Fl} (h : Ev C env c st (.bl false) st1) (h2 : Ess C env q st1 f st2) : Es C env (.iff c p q) st f st2 := by
  show M.tr env (evE C c env) _ st = _
  rw [tr_ok h]; exact h2
theorem Es.loop {tg : Tg} {k : IK} {body : Sxs} {its : List D} {n : Option Nat} {f : Fl} (h : EvA C env xs st ds st1) (hi : itD k ds st1 = some (its, n)) (hw : noEr n (withLock n (loopM (loopF C tg body) its env)) st1 = some (.ok f st2)) : Es C env (.loop tg k xs body) st f st2 := by
  show M.tr env (evA C xs env) _ st = _
  rw [tr_ok h]; show M.bind (M.rd _) _ st1 = _
  rw [bind_ok (rd_ok hi)]; exact hw
theorem noEr_none {m : M Fl} : noEr none m st = m st := by
  unfold noEr
  cases m st with
  | none => rfl
  | some o => cases o <;> rfl
theorem Es.loopN {tg : Tg} {k : IK} {body : Sxs} {its : List D} {f : Fl} (h : EvA C env xs st ds st1) (hi : itD k ds st1 = some (its, none)) (hw : loopM (loopF C tg body) its env st1 = some (.ok f st2)) : Es C env (.loop tg k xs body) st f st2 :=
  Es.loop h hi (by rw [noEr_none]; exact hw)
theorem Ess.nil : Ess C env .nil st (.nx env) st := rfl
theorem Ess.nx {s : Sx} {r : Sxs} {f : Fl} (h : Es C env s st (.nx env') st1) (h2 : Ess C env' r st1 f st2) : Ess C env (.cons s r) st f st2 := by
  show M.bind (evS C s env) _ st = _
  rw [bind_ok h]; exact h2
theorem Ess.rt {s : Sx} {r : Sxs} (h : Es C env s st (.rt d) st1) : Ess C env (.cons s r) st (.rt d) st1 := by
  show M.bind (evS C s env) _ st = _
  rw [bind_ok h]; rfl
/-- a def -/
theorem run_rt {F : Fn} (hl : (ds.length == F.p && Nat.ble F.p F.n) = true) (h : Ess C (ds.map some ++ List.replicate (F.n - F.p) none) F.body st (.rt d) st1) : runF C F ds st = some (.ok d st1) := by
  unfold runF; rw [if_pos hl]
  show M.bind _ _ st = _
  rw [bind_ok h]; rfl
theorem run_nx {F : Fn} (hl : (ds.length == F.p && Nat.ble F.p F.n) = true) (h : Ess C (ds.map some ++ List.replicate (F.n - F.p) none) F.body st (.nx env') st1) : runF C F ds st = some (.ok .non st1) := by
  unfold runF; rw [if_pos hl]
  show M.bind _ _ st = _
  rw [bind_ok h]; rfl
end
/-! parts of the syntax -/
def Sxs.at_ : Sxs → Nat → Sx
  | .cons s _, 0 => s
  | .cons _ r, n + 1 => r.at_ n
  | .nil, _ => .pass
def Sx.body : Sx → Sxs
  | .loop _ _ _ b => b
  | .iff _ a _ => a
  | _ => .nil
def Sx.rhs : Sx → Ex
  | .set _ e | .ret e | .ex e | .aug _ _ e => e
  | .iff c _ _ => c
  | _ => .cst .non
def Ex.elt : Ex → Ex
  | .lc _ e _ _ _ _ _ _ => e
  | e => e
/-! ### calls -/
theorem locs_pure : ∀ {vs : List D}, D.pures vs = true → locs vs = [] ∧ (∀ j, renum j vs = vs) ∧ vs.all argOk = true
  | [], _ => ⟨rfl, fun _ => rfl, rfl⟩
  | d :: ds, h => by
    have h : (d.pure && D.pures ds) = true := h
    rw [Bool.and_eq_true] at h
    obtain ⟨h1, h2, h3⟩ := locs_pure h.2
    cases d with
    | loc n => cases h.1
    | _ => exact ⟨h1, fun j => by show _ :: renum j ds = _; rw [h2], by rw [List.all_cons, h3, Bool.and_true]; exact h.1⟩
theorem callD_p {C : Ctx} {kp : Bool} {f : Str} {vs : List D} {d : D} {st sx : Store} (h : C.call f vs [] = some (.ok d sx)) (hv : D.pures vs = true) (hd : d.pure = true) : callD C kp f vs st = some (.ok d st) := by
  obtain ⟨h1, h2, h3⟩ := locs_pure hv
  unfold callD
  rw [h1, h2, h3]
  simp only [List.nodup_nil, decide_true, Bool.and_self, if_true]
  show (match C.call f vs [] with | none => none | some (.ok d st') => _ | some (.ex e st') => _) = _
  rw [h]
  have : backD kp [] d sx st = some (d, st) := by
    unfold backD
    cases d with
    | loc n => cases hd
    | _ => exact congrArg (Option.map fun e => (e, wrBack [] [] st)) (D.sub_pure (ρ := deepAt sx 0 sx.length) _ hd)
  simp only [this]
theorem callD_l {C : Ctx} {f : Str} {vs xs : List D} {st : Store} (h : C.call f vs [] = some (.ok (.loc 0) [.lst false xs])) (hv : D.pures vs = true) (hd : D.pures xs = true) : callD C false f vs st = some (.ok (.lst xs) st) := by
  obtain ⟨h1, h2, h3⟩ := locs_pure hv
  unfold callD
  rw [h1, h2, h3]
  simp only [List.nodup_nil, decide_true, Bool.and_self, if_true]
  show (match C.call f vs [] with | none => none | some (.ok d st') => _ | some (.ex e st') => _) = _
  rw [h]
  have : backD false [] (.loc 0) [.lst false xs] st = some (.lst xs, st) := by
    unfold backD
    show ((D.subs _ xs).map D.lst).map _ = _
    rw [D.subs_pure _ hd]; rfl
  simp only [this]
theorem callD_k {C : Ctx} {f : Str} {vs xs : List D} {st : Store} (h : C.call f vs [] = some (.ok (.loc 0) [.lst false xs])) (hv : D.pures vs = true) (hd : D.pures xs = true) : callD C true f vs st = some (.ok (.loc st.length) (st ++ [.lst false xs])) := by
  obtain ⟨h1, h2, h3⟩ := locs_pure hv
  unfold callD
  rw [h1, h2, h3]
  simp only [List.nodup_nil, decide_true, Bool.and_self, if_true]
  show (match C.call f vs [] with | none => none | some (.ok d st') => _ | some (.ex e st') => _) = _
  rw [h]
  have : backD true [] (.loc 0) [.lst false xs] st = some (.loc st.length, st ++ [.lst false xs]) := by
    unfold backD
    show (if D.pures xs = true then _ else _) = _
    rw [if_pos hd]; rfl
  simp only [this]
/-! ### walks -/
theorem each_ok {f : D → M (Option D)} {st : Store} {g : D → D} : ∀ {ps : List D}, (∀ p ∈ ps, f p st = some (.ok (some (g p)) st)) → eachM f ps st = some (.ok (ps.map g) st)
  | [], _ => rfl
  | p :: ps, h => by
    show M.bind (f p) _ st = _
    rw [bind_ok (h p List.mem_cons_self)]
    show M.bind (eachM f ps) _ st = _
    rw [bind_ok (each_ok fun q hq => h q (List.mem_cons_of_mem _ hq))]; rfl
theorem each_map {α : Type} {f : D → M (Option D)} {st : Store} {u v : α → D} : ∀ {xs : List α}, (∀ a ∈ xs, f (u a) st = some (.ok (some (v a)) st)) → eachM f (xs.map u) st = some (.ok (xs.map v) st)
  | [], _ => rfl
  | p :: ps, h => by
    show M.bind (f (u p)) _ st = _
    rw [bind_ok (h p List.mem_cons_self)]
    show M.bind (eachM f (ps.map u)) _ st = _
    rw [bind_ok (each_map fun q hq => h q (List.mem_cons_of_mem _ hq))]; rfl
theorem lcF_ok {C : Ctx} {e c : Ex} {tg : Tg} {vs : List Nat} {env env' : Env} {d y : D} {st st1 : Store} (h : tgSet tg d (wipeE env vs) = some env') (he : Ev C env' e st y st1) : lcF C e tg false c vs env d st = some (.ok (some y) st1) := by
  show M.bind (M.of _) _ st = _
  rw [h]; show M.bind (evE C e env') _ st = _
  rw [bind_ok he]; rfl
theorem loop_nil {f : D → Env → M Fl} {env : Env} {st : Store} : loopM f [] env st = some (.ok (.nx env) st) := rfl
theorem loop_cons {f : D → Env → M Fl} {d : D} {ds : List D} {env env' : Env} {st st1 : Store} (h : f d env st = some (.ok (.nx env') st1)) : loopM f (d :: ds) env st = loopM f ds env' st1 := by
  show M.bind (f d env) _ st = _
  rw [bind_ok h]
theorem loopF_ok {C : Ctx} {tg : Tg} {body : Sxs} {d : D} {env env1 env' : Env} {st st1 : Store} (h : tgSet tg d env = some env1) (hb : Ess C env1 body st (.nx env') st1) (hl : Nat.ble st1.length st.length = true) : loopF C tg body d env st = some (.ok (.nx env') st1) := by
  have : (M.of (tgSet tg d env) >>= fun env' => evSs C body env') st = some (.ok (.nx env') st1) := by
    rw [h]; exact hb
  unfold loopF trimM
  rw [this]
  show (if _ then _ else _) = _
  rw [if_pos hl]
@[simp] theorem eqD_int {st : Store} {i j : Int} : eqD st (.int i) (.int j) = some (decide (i = j)) := by
  have : PyData.eqv (.int i) (.int j) = (i == j) := by unfold PyData.eqv; rfl
  unfold eqD
  show (if ((PyData.int i).canLay0 && (PyData.int j).canLay0 && Nat.ble (min (PyData.int i).depth (PyData.int j).depth) most) = true then some (PyData.eqv (.int i) (.int j)) else none) = _
  rw [this]
  simp [PyData.canLay0, PyData.depth, most]
  rfl
theorem pures_of {ps : List D} (h : ∀ p ∈ ps, p.pure = true) : D.pures ps = true := by
  induction ps with
  | nil => rfl
  | cons p ps ih =>
    show (p.pure && D.pures ps) = true
    rw [h p List.mem_cons_self, ih fun q hq => h q (List.mem_cons_of_mem _ hq)]; rfl
theorem bls_map {α : Type} {ps : List α} : blsOf (ps.map fun _ => D.bl true) = some (ps.map fun _ => true) := by
  induction ps with
  | nil => rfl
  | cons p ps ih => show (blsOf (ps.map fun _ => D.bl true)).map _ = _; rw [ih]; rfl
theorem all_map {α : Type} {ps : List α} {st : Store} : bltD "all" [.lst (ps.map fun _ => D.bl true)] st = some (.bl true) := by
  show ((some (ps.map fun _ => D.bl true)).bind blsOf).map _ = _
  rw [Option.bind_some, bls_map]
  show some (D.bl _) = _
  congr 2
  induction ps with
  | nil => rfl
  | cons p ps ih => simp
theorem at_nat {ps : List D} {i : Nat} {e : D} (h : ps[i]? = some e) : L2.atI ps (i : Nat) = some e := by
  have hi : i < ps.length := (List.getElem?_eq_some_iff.mp h).1
  rw [List.getElem?_eq_getElem hi] at h
  cases h
  simp [L2.atI, L2.ixN, hi]
theorem fit_small {n : Nat} (h : n ≤ 10000) : fit n = true := by
  unfold fit; rw [PySem.sizeLine_eq]; exact Nat.ble_eq.mpr (by omega)
end Wk

set_option maxRecDepth 100000
set_option maxHeartbeats 2000000
/-! Wl2: data that may be compared and shown. -/
namespace Wk
open PySem

def okS (s : Str) : Prop := ∀ c ∈ s.cps.toList, c < 0x110000
theorem okS_lay {s : Str} (h : okS s) : (PyData.str s).canLay0 = true := by
  show s.cps.all (· < 0x110000) = true
  rw [← Array.all_toList, List.all_eq_true]
  exact fun c hc => decide_eq_true (h c hc)
theorem okS.app {a b : Str} (h1 : okS a) (h2 : okS b) : okS (a ++ b) := by
  intro c hc
  have hc : c ∈ (a.cps ++ b.cps).toList := hc
  rw [Array.toList_append, List.mem_append] at hc
  exact hc.elim (h1 c) (h2 c)
theorem okS_lit {s : Str} (h : s.cps.toList.all (fun c => decide (c < 0x110000)) = true) : okS s := fun c hc => of_decide_eq_true (List.all_eq_true.mp h c hc)
theorem okS_join : ∀ {ts : List Str}, (∀ t ∈ ts, okS t) → okS (Str.join ", " ts)
  | [], _ => okS_lit (by decide)
  | [x], h => h x List.mem_cons_self
  | x :: y :: r, h => by
    show okS (x ++ ", " ++ Str.join ", " (y :: r))
    exact ((h x List.mem_cons_self).app (okS_lit (by decide))).app (okS_join fun t ht => h t (List.mem_cons_of_mem _ ht))
theorem okS_text : ∀ {ts : List Str} {k : Nat} {acc : Str}, okS acc → (∀ t ∈ ts, okS t) → okS (textFrom k acc ts)
  | [], k, acc, h, _ => h
  | t :: r, k, acc, h, ht => by
    show okS (textFrom (k + 1) (acc ++ (if k > 0 then ", " else "" : String) ++ t) r)
    refine okS_text ((h.app ?_).app (ht t List.mem_cons_self)) fun u hu => ht u (List.mem_cons_of_mem _ hu)
    split <;> exact okS_lit (by decide)
def Pd (dep sh : Nat) (d : D) : Prop := ∃ x, d.toP = some x ∧ x.canLay0 = true ∧ x.depth ≤ dep ∧ x.showable = true ∧ x.shown.length ≤ sh ∧ okS x.shown
theorem Pd.mono {a b a' b' : Nat} {d : D} (h : Pd a b d) (h1 : a ≤ a') (h2 : b ≤ b') : Pd a' b' d := by
  obtain ⟨x, e, c, p, s, l, o⟩ := h
  exact ⟨x, e, c, Nat.le_trans p h1, s, Nat.le_trans l h2, o⟩
theorem pds {dep sh : Nat} : ∀ {ds : List D}, (∀ d ∈ ds, Pd dep sh d) → ∃ xs, D.toPs ds = some xs ∧ PyData.canLayAll0 xs = true ∧ PyData.depthAll xs ≤ dep ∧ PyData.showableAll xs = true ∧ piled (PyData.shownAll xs) ≤ ds.length * (sh + 2) ∧ (PyData.shownAll xs).length = ds.length ∧ ∀ t ∈ PyData.shownAll xs, okS t
  | [], _ => ⟨[], rfl, rfl, Nat.zero_le _, rfl, by simp [PyData.shownAll, piled], rfl, fun _ z => nomatch z⟩
  | d :: ds, h => by
    obtain ⟨x, e, c, p, s, l, o⟩ := h d List.mem_cons_self
    obtain ⟨xs, es, cs, ps, ss, ls, ns, os⟩ := pds fun y hy => h y (List.mem_cons_of_mem _ hy)
    refine ⟨x :: xs, by show (D.toP d).bind _ = _; rw [e]; show (D.toPs ds).map _ = _; rw [es]; rfl, by simp [PyData.canLayAll0, c, cs], by show max x.depth (PyData.depthAll xs) ≤ dep; omega, by simp [PyData.showableAll, s, ss], ?_, by simp [PyData.shownAll, ns], fun t ht => by
      have ht : t ∈ x.shown :: PyData.shownAll xs := ht
      exact (List.mem_cons.mp ht).elim (fun z => z ▸ o) (os t)⟩
    have : piled (PyData.shownAll (x :: xs)) = x.shown.length + 2 + piled (PyData.shownAll xs) := by simp [PyData.shownAll, piled]
    rw [this, List.length_cons, Nat.succ_mul]
    omega
theorem joinLen {ts : List Str} : (Str.join ", " ts).length ≤ piled ts := by
  cases ts with
  | nil => exact Nat.zero_le _
  | cons a r => have := join_length_add (a :: r) (by simp); omega
theorem Pd.tup {dep sh : Nat} {ds : List D} (h : ∀ d ∈ ds, Pd dep sh d) : Pd (dep + 1) (ds.length * (sh + 2) + 3) (.tup ds) := by
  obtain ⟨xs, e, c, p, s, l, n, o⟩ := pds h
  refine ⟨.tuple xs, by show (D.toPs ds).map _ = _; rw [e]; rfl, c, by show PyData.depthAll xs + 1 ≤ _; omega, s, ?_, (((okS_lit (by decide)).app (okS_join o)).app (by split <;> exact okS_lit (by decide)))⟩
  show (tupleText (PyData.shownAll xs)).length ≤ _
  unfold tupleText
  rw [strLen_append, strLen_append]
  have := joinLen (ts := PyData.shownAll xs)
  have e1 : (("(" : String) : Str).length = 1 := rfl
  have e2 : ((if (PyData.shownAll xs).length == 1 then ",)" else ")" : String) : Str).length ≤ 2 := by split <;> decide
  omega
theorem textLen : ∀ (ts : List Str) (k : Nat) (acc : Str), (textFrom k acc ts).length ≤ acc.length + piled ts
  | [], k, acc => by show acc.length ≤ _; omega
  | t :: r, k, acc => by
    have h := textLen r (k + 1) (acc ++ (if k > 0 then ", " else "" : String) ++ t)
    have e : (acc ++ (if k > 0 then ", " else "" : String) ++ t).length = acc.length + (if k > 0 then 2 else 0) + t.length := by
      rw [strLen_append, strLen_append]
      split <;> rfl
    rw [e] at h
    have : piled (t :: r) = t.length + 2 + piled r := by simp [piled]
    show (textFrom (k + 1) _ r).length ≤ _
    rw [this]
    have : (if k > 0 then 2 else 0) ≤ 2 := by split <;> omega
    omega
theorem Pd.lst {dep sh : Nat} {ds : List D} (h : ∀ d ∈ ds, Pd dep sh d) : Pd (dep + 1) (ds.length * (sh + 2) + 3) (.lst ds) := by
  obtain ⟨xs, e, c, p, s, l, n, o⟩ := pds h
  refine ⟨.list xs, by show (D.toPs ds).map _ = _; rw [e]; rfl, c, by show PyData.depthAll xs + 1 ≤ _; omega, s, ?_, (okS_text (okS_lit (by decide)) o).app (okS_lit (by decide))⟩
  show (listText (PyData.shownAll xs)).length ≤ _
  unfold listText
  rw [strLen_append]
  have := textLen (PyData.shownAll xs) 0 "["
  have e1 : (("[" : String) : Str).length = 1 := rfl
  have e2 : (("]" : String) : Str).length = 1 := rfl
  omega
/-- the same data are the same -/
theorem eq_same {st : Store} {d e : D} {dep sh : Nat} (h : Pd dep sh d) (hd : dep ≤ most) (h1 : rsv st e = d) (h2 : rsv st d = d) : eqD st e d = some true ∧ eqD st d e = some true := by
  obtain ⟨x, e1, c, p, s, l, o⟩ := h
  have q := SeqAt.eqv_refl x c
  have hm : Nat.ble (min x.depth x.depth) most = true := Nat.ble_eq.mpr (by omega)
  unfold eqD
  rw [h1, h2, e1]
  constructor <;> (show (if _ then _ else _) = _; rw [c, hm, q]; rfl)
theorem rsv_pure {st : Store} {d : D} (h : d.pure = true) : rsv st d = d := by
  cases d with
  | loc n => cases h
  | _ => rfl
theorem rsv_loc {st : Store} {n : Nat} {l : Bool} {xs : List D} (h : st[n]? = some (.lst l xs)) : rsv st (.loc n) = .lst xs := by
  show (match st[n]? with
    | some (.lst _ xs) => D.lst xs
    | _ => .loc n) = _
  rw [h]
theorem show_ok {st : Store} {d e : D} {dep sh : Nat} (h : Pd dep sh d) (hd : dep ≤ most) (hs : sh ≤ 16000000) (h1 : rsv st e = d) (hr : ∃ xs, d = .tup xs ∨ d = .lst xs) : ∃ x, d.toP = some x ∧ showD st e = some x.shown ∧ okS x.shown := by
  obtain ⟨x, e1, c, p, s, l, o⟩ := h
  refine ⟨x, e1, ?_, o⟩
  unfold showD
  rw [h1, e1]
  have ir : isRef x = true := by
    obtain ⟨xs, rfl | rfl⟩ := hr
    · have e1 : (D.toPs xs).map PyData.tuple = some x := e1
      cases q : D.toPs xs with
      | none => rw [q] at e1; cases e1
      | some ys => rw [q] at e1; cases e1; rfl
    · have e1 : (D.toPs xs).map PyData.list = some x := e1
      cases q : D.toPs xs with
      | none => rw [q] at e1; cases e1
      | some ys => rw [q] at e1; cases e1; rfl
  show (if (!isRef x) = true then none else if (x.showable && Nat.ble x.depth most && Nat.ble x.shown.length sizeLine) = true then some x.shown else none) = _
  rw [ir, s, Nat.ble_eq.mpr (show x.depth ≤ most by omega), Nat.ble_eq.mpr (show x.shown.length ≤ sizeLine by rw [sizeLine_eq]; omega)]
  rfl
theorem eq_str {st : Store} {x y : Str} (hx : okS x) (hy : okS y) : eqD st (.str x) (.str y) = some (x == y) := by
  have : PyData.eqv (.str x) (.str y) = (x == y) := by unfold PyData.eqv; rfl
  unfold eqD
  show (if ((PyData.str x).canLay0 && (PyData.str y).canLay0 && Nat.ble (min (PyData.str x).depth (PyData.str y).depth) most) = true then some (PyData.eqv (.str x) (.str y)) else none) = _
  rw [this]
  have h1 : (PyData.str x).canLay0 = true := okS_lay hx
  have h2 : (PyData.str y).canLay0 = true := okS_lay hy
  rw [h1, h2]
  simp [PyData.depth, most]
theorem Pd.str {x : Str} (h : okS x) {n : Nat} (hs : (PyData.str x).shown.length ≤ n) (ho : okS (PyData.str x).shown) : Pd 0 n (.str x) := ⟨.str x, rfl, okS_lay h, Nat.le_refl _, rfl, hs, ho⟩
/-- a tuple of ints against () -/
theorem toPs_ints {p : List Nat} : D.toPs (p.map fun (i : Nat) => D.int (i : Int)) = some (p.map fun (i : Nat) => PyData.int (i : Int)) := by
  induction p with
  | nil => rfl
  | cons i p ih => show (D.toP _).bind _ = _; show (D.toPs _).map _ = _; rw [ih]; rfl
theorem lay_ints {p : List Nat} : PyData.canLayAll0 (p.map fun (i : Nat) => PyData.int (i : Int)) = true := by
  induction p with
  | nil => rfl
  | cons i p ih => simp [PyData.canLayAll0, PyData.canLay0, ih]
theorem eq_nilp {st : Store} {p : List Nat} : eqD st (.tup (p.map fun (i : Nat) => D.int (i : Int))) (.tup []) = some p.isEmpty := by
  have e : D.toP (.tup (p.map fun (i : Nat) => D.int (i : Int))) = some (.tuple (p.map fun (i : Nat) => PyData.int (i : Int))) := by
    show (D.toPs _).map _ = _; rw [toPs_ints]; rfl
  unfold eqD
  show (match D.toP (.tup (p.map fun (i : Nat) => D.int (i : Int))), (some (PyData.tuple []) : Option PyData) with
    | some p, some q => if p.canLay0 && q.canLay0 && Nat.ble (min p.depth q.depth) most then some (PyData.eqv p q) else none
    | _, _ => none) = _
  rw [e]
  have h1 : (PyData.tuple (p.map fun (i : Nat) => PyData.int (i : Int))).canLay0 = true := lay_ints
  have h2 : (PyData.tuple []).canLay0 = true := rfl
  have h3 : Nat.ble (min (PyData.tuple (p.map fun (i : Nat) => PyData.int (i : Int))).depth (PyData.tuple []).depth) most = true := Nat.ble_eq.mpr (Nat.le_trans (Nat.min_le_right _ _) (by decide))
  show (if ((PyData.tuple (p.map fun (i : Nat) => PyData.int (i : Int))).canLay0 && (PyData.tuple []).canLay0 && Nat.ble (min (PyData.tuple (p.map fun (i : Nat) => PyData.int (i : Int))).depth (PyData.tuple []).depth) most) = true then some (PyData.eqv (.tuple (p.map fun (i : Nat) => PyData.int (i : Int))) (.tuple [])) else none) = _
  rw [h1, h2, h3]
  cases p <;> rfl
/-- slices -/
theorem sl_from {st : Store} {xs : List D} (n : Nat) (h : n ≤ xs.length) : sliceD st (.tup xs) (some (n : Int)) none = some (.tup (xs.drop n)) := by
  show some (D.tup (cutD xs (some (n : Int)) none)) = _
  unfold cutD
  rw [HT.sIx_none, HT.sIx_nat, Nat.min_eq_left h]
  congr 2
  exact List.take_of_length_le (by rw [List.length_drop]; omega)
theorem sl_to {st : Store} {xs : List D} (n : Nat) (h : n ≤ xs.length) : sliceD st (.tup xs) none (some (n : Int)) = some (.tup (xs.take n)) := by
  show some (D.tup (cutD xs none (some (n : Int)))) = _
  unfold cutD
  rw [HT.sIx_none, HT.sIx_nat, Nat.min_eq_left h]
  simp
/-- a walk over a list of the store -/
theorem wl_eq {α : Type} {m : M α} {st st2 : Store} {n : Nat} {xs ys : List D} {a : α} (h : st[n]? = some (.lst false xs)) (hm : m (st.set n (.lst true xs)) = some (.ok a st2)) (h2 : st2[n]? = some (.lst true ys)) : withLock (some n) m st = some (.ok a (st2.set n (.lst false ys))) := by
  have e : withLock (some n) m st = (match m (st.set n (.lst true xs)) with
      | none => none
      | some (.ok a st') => (unlk n st').map fun s => .ok a s
      | some (.ex e st') => (unlk n st').map fun s => .ex e s) := by
    unfold withLock
    simp only [h]
    rfl
  have u : unlk n st2 = some (st2.set n (.lst false ys)) := by
    unfold unlk
    rw [h2]; rfl
  rw [e, hm]
  show (unlk n st2).map _ = _
  rw [u]; rfl
theorem lcF_t {C : Ctx} {e c : Ex} {tg : Tg} {vs : List Nat} {env env' : Env} {d y : D} {st st1 st2 : Store} (h : tgSet tg d (wipeE env vs) = some env') (hc : Ev C env' c st (.bl true) st1) (he : Ev C env' e st1 y st2) : lcF C e tg true c vs env d st = some (.ok (some y) st2) := by
  show M.bind (M.of _) _ st = _
  rw [h]; show M.bind (M.bind (evE C c env') asB) _ st = _
  have : M.bind (evE C c env') asB st = some (.ok true st1) := by rw [bind_ok hc]; rfl
  rw [bind_ok this]; show M.bind (evE C e env') _ st1 = _
  rw [bind_ok he]; rfl
theorem lcF_f {C : Ctx} {e c : Ex} {tg : Tg} {vs : List Nat} {env env' : Env} {d : D} {st st1 : Store} (h : tgSet tg d (wipeE env vs) = some env') (hc : Ev C env' c st (.bl false) st1) : lcF C e tg true c vs env d st = some (.ok none st1) := by
  show M.bind (M.of _) _ st = _
  rw [h]; show M.bind (M.bind (evE C c env') asB) _ st = _
  have : M.bind (evE C c env') asB st = some (.ok false st1) := by rw [bind_ok hc]; rfl
  rw [bind_ok this]; rfl
theorem ints_of {p : List Nat} : intsOf (p.map fun (i : Nat) => D.int (i : Int)) = some (p.map fun (i : Nat) => (i : Int)) := by
  induction p with
  | nil => rfl
  | cons i p ih => show (intsOf _).map _ = _; rw [ih]; rfl
theorem noEr_some {n : Nat} {m : M Fl} {st st' : Store} {env : Env} (h : m st = some (.ok (.nx env) st')) : noEr (some n) m st = some (.ok (.nx env) st') := by
  unfold noEr; rw [h]
/-! ints -/
theorem mulI {i j : Int} {st : Store} (h1 : i.natAbs < 2 ^ 64) (h2 : j.natAbs < 2 ^ 64) : binD .Mult (.int i) (.int j) st = some (.int (i * j)) := by
  have l1 : i.natAbs.log2 < 64 ∨ i.natAbs = 0 := by
    by_cases z : i.natAbs = 0
    · exact .inr z
    · exact .inl ((Nat.log2_lt z).mpr h1)
  have l2 : j.natAbs.log2 < 64 ∨ j.natAbs = 0 := by
    by_cases z : j.natAbs = 0
    · exact .inr z
    · exact .inl ((Nat.log2_lt z).mpr h2)
  have b1 : i.natAbs.log2 < 64 := l1.elim (fun z => z) fun z => by rw [z]; decide
  have b2 : j.natAbs.log2 < 64 := l2.elim (fun z => z) fun z => by rw [z]; decide
  show (if Nat.blt (i.natAbs.log2 + j.natAbs.log2) 1000000 = true then some (D.int (i * j)) else none) = _
  rw [if_pos (Nat.blt_eq.mpr (by omega))]
theorem modI {i j : Int} {st : Store} (h : 0 < j) : binD .Mod (.int i) (.int j) st = some (.int (i % j)) := by
  show (if decide (0 < j) = true then some (D.int (i % j)) else none) = _
  rw [if_pos (decide_eq_true h)]
theorem fdivI {i j : Int} {st : Store} (h : 0 < j) (h2 : j.natAbs < 2 ^ 64) : binD .FloorDiv (.int i) (.int j) st = some (.int (i / j)) := by
  have b2 : j.natAbs.log2 < 64 := by
    by_cases z : j.natAbs = 0
    · rw [z]; decide
    · exact (Nat.log2_lt z).mpr h2
  show (if (decide (0 < j) && Nat.blt j.natAbs.log2 9000) = true then some (D.int (i / j)) else none) = _
  rw [if_pos (by rw [Bool.and_eq_true]; exact ⟨decide_eq_true h, Nat.blt_eq.mpr (by omega)⟩)]
theorem intsL : ∀ {l : List Int}, intsOf (l.map D.int) = some l
  | [] => rfl
  | i :: l => by show (intsOf (l.map D.int)).map _ = _; rw [intsL]; rfl
theorem callD_mi {C : Ctx} {f : Str} {m : Nat} {i : Int} {xs xs' : List D} {d : D} {st : Store} (hm : st[m]? = some (.lst false xs)) (hx : D.pures xs = true) (h : C.call f [.loc 0, .int i] [.lst false xs] = some (.ok d [.lst false xs'])) (hd : d.pure = true) (hx' : D.pures xs' = true) : callD C false f [.loc m, .int i] st = some (.ok d (st.set m (.lst false xs'))) := by
  unfold callD
  have h1 : ([D.loc m, .int i].all argOk && decide (locs [D.loc m, .int i]).Nodup) = true := by
    rw [Bool.and_eq_true]
    exact ⟨rfl, decide_eq_true (by simp [locs])⟩
  rw [if_pos h1]
  have h2 : obsAt st (locs [D.loc m, .int i]) = some [.lst false xs] := by
    show (st[m]?).bind _ = _
    rw [hm]; rfl
  rw [h2]
  show (if (([Ob.lst false xs] : List Ob).all Ob.pure) = true then _ else none) = _
  have h3 : ([Ob.lst false xs] : List Ob).all Ob.pure = true := by
    show ((Ob.lst false xs).pure && true) = true
    rw [Bool.and_true]; exact hx
  rw [if_pos h3]
  have e : renum 0 [D.loc m, .int i] = [.loc 0, .int i] := rfl
  rw [e, h]
  have hb : backD false (locs [D.loc m, .int i]) d [.lst false xs'] st = some (d, st.set m (.lst false xs')) := by
    unfold backD
    have hf : frzs [.lst false xs'] (locs [D.loc m, .int i]).length (([.lst false xs'] : Store).take (locs [D.loc m, .int i]).length) = some [.lst false xs'] := by
      show (Ob.frz _ _ _).bind _ = _
      have := Ob.frz_pure (st := [.lst false xs']) (o := .lst false xs') (n0 := 1) hx'
      show (Ob.frz [.lst false xs'] 1 (.lst false xs')).bind _ = _
      rw [this]; rfl
    rw [hf]
    cases d with
    | loc n => cases hd
    | _ => exact congrArg (Option.map fun e => (e, st.set m (.lst false xs'))) (D.sub_pure (ρ := deepAt [.lst false xs'] 1 1) _ hd)
  simp only [hb]
theorem callD_m1 {C : Ctx} {f : Str} {m : Nat} {xs xs' ys : List D} {st : Store} (hm : st[m]? = some (.lst false xs)) (hx : D.pures xs = true) (h : C.call f [.loc 0] [.lst false xs] = some (.ok (.loc 1) [.lst false xs', .lst false ys])) (hy : D.pures ys = true) (hx' : D.pures xs' = true) : callD C false f [.loc m] st = some (.ok (.lst ys) (st.set m (.lst false xs'))) := by
  unfold callD
  have h1 : ([D.loc m].all argOk && decide (locs [D.loc m]).Nodup) = true := by
    rw [Bool.and_eq_true]
    exact ⟨rfl, decide_eq_true (by simp [locs])⟩
  rw [if_pos h1]
  have h2 : obsAt st (locs [D.loc m]) = some [.lst false xs] := by
    show (st[m]?).bind _ = _
    rw [hm]; rfl
  rw [h2]
  show (if (([Ob.lst false xs] : List Ob).all Ob.pure) = true then _ else none) = _
  have h3 : ([Ob.lst false xs] : List Ob).all Ob.pure = true := by
    show ((Ob.lst false xs).pure && true) = true
    rw [Bool.and_true]; exact hx
  rw [if_pos h3]
  have e : renum 0 [D.loc m] = [.loc 0] := rfl
  rw [e, h]
  have hb : backD false (locs [D.loc m]) (.loc 1) [.lst false xs', .lst false ys] st = some (.lst ys, st.set m (.lst false xs')) := by
    unfold backD
    have hf : frzs [.lst false xs', .lst false ys] (locs [D.loc m]).length (([.lst false xs', .lst false ys] : Store).take (locs [D.loc m]).length) = some [.lst false xs'] := by
      have := Ob.frz_pure (st := [.lst false xs', .lst false ys]) (o := .lst false xs') (n0 := 1) hx'
      show (Ob.frz [.lst false xs', .lst false ys] 1 (.lst false xs')).bind _ = _
      rw [this]; rfl
    rw [hf]
    have hd : deepAt [.lst false xs', .lst false ys] 1 2 1 = some (.lst ys) := by
      show (D.subs (deepAt [.lst false xs', .lst false ys] 1 1) ys).map D.lst = _
      rw [D.subs_pure _ hy]; rfl
    exact congrArg (Option.map fun e => (e, st.set m (.lst false xs'))) hd
  simp only [hb]
/-- a walk that leaves all but the last name -/
theorem loop_inv {f : D → Env → M Fl} {g : Option D → Env} {st : Store} : ∀ {L : List D} {y : Option D}, (∀ x ∈ L, ∀ y, f x (g y) st = some (.ok (.nx (g (some x))) st)) → ∃ y', loopM f L (g y) st = some (.ok (.nx (g y')) st)
  | [], y, _ => ⟨y, rfl⟩
  | x :: L, y, h => by
    obtain ⟨y', e⟩ := loop_inv (L := L) (y := some x) fun z hz => h z (List.mem_cons_of_mem _ hz)
    exact ⟨y', by rw [loop_cons (h x List.mem_cons_self y)]; exact e⟩
theorem mem_cut {xs : List D} {lo hi : Option Int} {x : D} (h : x ∈ cutD xs lo hi) : x ∈ xs := List.mem_of_mem_drop (List.mem_of_mem_take h)
theorem ne_same {st : Store} {d e : D} {dep sh : Nat} (h : Pd dep sh d) (hd : dep ≤ most) (h1 : rsv st e = d) (h2 : rsv st d = d) : cmpD .NotEq e d st = some false ∧ cmpD .NotEq d e st = some false := by
  obtain ⟨a, b⟩ := eq_same h hd h1 h2
  exact ⟨by show (eqD st e d).map _ = _; rw [a]; rfl, by show (eqD st d e).map _ = _; rw [b]; rfl⟩
theorem ne_str {st : Store} {x : Str} (hx : okS x) : cmpD .NotEq (.str x) (.str x) st = some false := by
  show (eqD st (.str x) (.str x)).map _ = _
  rw [eq_str hx hx]; simp
end Wk

set_option maxRecDepth 100000
set_option maxHeartbeats 2000000
/-! Wl3: exceptions, comprehensions with two fors, dicts, by equations. -/
namespace Wk
open PySem

section
variable {C : Ctx} {env env' : Env} {st st1 st2 st3 : Store} {a b c e : Ex} {xs : Exs} {x y z d : D} {ds : List D} {al kp : Bool}
/-- an expression that raises -/
def EvX (C : Ctx) (env : Env) (e : Ex) (st : Store) (x : D) (st' : Store) : Prop := evE C e env st = some (.ex x st')
theorem EvX.call {f : Str} (h : EvA C env xs st ds st1) (hc : callD C kp f ds st1 = some (.ex x st2)) : EvX C env (.call kp f xs) st x st2 := by
  show M.bind (evA C xs env) _ st = _
  rw [bind_ok h]; exact hc
theorem Es.exX (h : EvX C env e st x st1) : Es C env (.ex e) st (.er env x) st1 := by
  show M.tr env (evE C e env) _ st = _
  have h : evE C e env st = some (.ex x st1) := h
  unfold M.tr; rw [h]
theorem Ess.er {s : Sx} {r : Sxs} (h : Es C env s st (.er env' x) st1) : Ess C env (.cons s r) st (.er env' x) st1 := by
  show M.bind (evS C s env) _ st = _
  rw [bind_ok h]; rfl
theorem Es.tryN {p : Sxs} {n : Str} {yes : List Str} {i j : Nat} (h : Ess C env p st (.nx env') st1) : Es C env (.try_ p n yes i j) st (.nx env') st1 := by
  show catchM yes i j (evSs C p env) st = _
  have h : evSs C p env st = some (.ok (.nx env') st1) := h
  unfold catchM; rw [h]
theorem Es.tryX {p : Sxs} {n m : Str} {yes : List Str} {i j : Nat} (h : Ess C env p st (.er env' (.exc m [])) st1) (hm : m ∈ yes) (hi : i < env'.length) (hj : j < env'.length) : Es C env (.try_ p n yes i j) st (.nx ((env'.set j (some (.exc m []))).set i none)) st1 := by
  show catchM yes i j (evSs C p env) st = _
  have h : evSs C p env st = some (.ok (.er env' (.exc m [])) st1) := h
  unfold catchM; rw [h]
  have hc : (decide (m ∈ yes) && Nat.blt i env'.length && Nat.blt j env'.length) = true := by rw [decide_eq_true hm, Nat.blt_eq.mpr hi, Nat.blt_eq.mpr hj]; rfl
  exact if_pos hc
theorem run_er {F : Fn} (hl : (ds.length == F.p && Nat.ble F.p F.n) = true) (h : Ess C (ds.map some ++ List.replicate (F.n - F.p) none) F.body st (.er env' x) st1) : runF C F ds st = some (.ex x st1) := by
  unfold runF; rw [if_pos hl]
  show M.bind _ _ st = _
  rw [bind_ok h]
theorem callD_x {f : Str} {vs : List D} {n : Str} {sx : Store} (h : C.call f vs [] = some (.ex (.exc n []) sx)) (hv : D.pures vs = true) : callD C kp f vs st = some (.ex (.exc n []) st) := by
  obtain ⟨h1, h2, h3⟩ := locs_pure hv
  unfold callD
  rw [h1, h2, h3]
  simp only [List.nodup_nil, decide_true, Bool.and_self, if_true]
  show (match C.call f vs [] with | none => none | some (.ok d st') => _ | some (.ex e st') => _) = _
  rw [h]
  rfl
end
def Sx.tb : Sx → Sxs
  | .try_ b _ _ _ _ => b
  | _ => .nil
end Wk

set_option maxRecDepth 100000
set_option maxHeartbeats 2000000
/-! Wl4: the evaluator by what is to hold behind it. -/
namespace Wk
open PySem
section
variable {α β : Type}
/-- m ends well, and Q holds behind it -/
def W (m : M α) (st : Store) (Q : α → Store → Prop) : Prop := ∃ a st', m st = some (.ok a st') ∧ Q a st'
theorem W.mono {m : M α} {st : Store} {Q Q' : α → Store → Prop} (h : W m st Q) (k : ∀ a s, Q a s → Q' a s) : W m st Q' := by
  obtain ⟨a, s, e, q⟩ := h
  exact ⟨a, s, e, k a s q⟩
theorem W_eq {m : M α} {st s : Store} {a : α} {Q : α → Store → Prop} (e : m st = some (.ok a s)) (q : Q a s) : W m st Q := ⟨a, s, e, q⟩
theorem W_bind {m : M α} {f : α → M β} {st : Store} {Q : β → Store → Prop} (h : W m st fun a s => W (f a) s Q) : W (M.bind m f) st Q := by
  obtain ⟨a, s, e, b, s2, e2, q⟩ := h
  exact ⟨b, s2, by rw [bind_ok e]; exact e2, q⟩
theorem W_bnd {m : M α} {f : α → M β} {st : Store} {Q : β → Store → Prop} (h : W m st fun a s => W (f a) s Q) : W (m >>= f) st Q := W_bind h
theorem W_pure {a : α} {st : Store} {Q : α → Store → Prop} (h : Q a st) : W (pure a : M α) st Q := ⟨a, st, rfl, h⟩
theorem W_rd {f : Store → Option α} {st : Store} {Q : α → Store → Prop} (h : ∃ a, f st = some a ∧ Q a st) : W (M.rd f) st Q := by
  obtain ⟨a, e, q⟩ := h
  exact ⟨a, st, rd_ok e, q⟩
theorem W_wr {f : Store → Option (α × Store)} {st : Store} {Q : α → Store → Prop} (h : ∃ a s, f st = some (a, s) ∧ Q a s) : W (M.wr f) st Q := by
  obtain ⟨a, s, e, q⟩ := h
  exact ⟨a, s, wr_ok e, q⟩
theorem W_of {o : Option α} {st : Store} {Q : α → Store → Prop} (h : ∃ a, o = some a ∧ Q a st) : W (M.of o) st Q := by
  obtain ⟨a, e, q⟩ := h
  subst e
  exact ⟨a, st, rfl, q⟩
theorem W_calm {m : M α} {st : Store} {Q : α → Store → Prop} (h : W m st Q) : W (calm m) st Q := by
  obtain ⟨a, s, e, q⟩ := h
  exact ⟨a, s, calm_ok e, q⟩
theorem W_tr {env : Env} {m : M α} {k : α → M Fl} {st : Store} {Q : Fl → Store → Prop} (h : W m st fun a s => W (k a) s Q) : W (M.tr env m k) st Q := by
  obtain ⟨a, s, e, b, s2, e2, q⟩ := h
  exact ⟨b, s2, by rw [tr_ok e]; exact e2, q⟩
end
section
variable {C : Ctx} {env : Env} {st : Store} {a b c e : Ex} {xs : Exs} {Q : D → Store → Prop} {QA : List D → Store → Prop} {QF : Fl → Store → Prop}
theorem W_cst {d : D} (h : Q d st) : W (evE C (.cst d) env) st Q := ⟨d, st, rfl, h⟩
theorem W_var {i : Nat} {d : D} (h : env[i]? = some (some d)) (q : Q d st) : W (evE C (.var i) env) st Q := ⟨d, st, Ev.var h, q⟩
theorem W_gst {g : Str} {d : D} (h : C.glob g = some d) (q : Q d st) : W (evE C (.gst g) env) st Q := ⟨d, st, Ev.gst h, q⟩
theorem W_bin {o : Operator} (h : W (evE C a env) st fun x s => W (evE C b env) s fun y s2 => ∃ d, binD o x y s2 = some d ∧ Q d s2) : W (evE C (.bin o a b) env) st Q :=
  W_bind (h.mono fun x s q => W_bind (q.mono fun y s2 q => W_rd q))
theorem W_neg (h : W (evE C a env) st fun x s => ∃ i, x = .int i ∧ Q (.int (-i)) s) : W (evE C (.neg a) env) st Q := by
  obtain ⟨x, s, e, i, rfl, q⟩ := h
  exact ⟨_, s, Ev.neg e, q⟩
theorem W_cmp {o : CmpOp} (h : W (evE C a env) st fun x s => W (evE C b env) s fun y s2 => ∃ r, cmpD o x y s2 = some r ∧ Q (.bl r) s2) : W (evE C (.cmp o a b) env) st Q :=
  W_bind (h.mono fun x s q => W_bind (q.mono fun y s2 ⟨r, e, q⟩ => W_rd ⟨.bl r, by rw [e]; rfl, q⟩))
theorem W_cmp2 {o o' : CmpOp} (h : W (evE C a env) st fun x s => W (evE C b env) s fun y s2 => ∃ r, cmpD o x y s2 = some r ∧ (r = false → Q (.bl false) s2) ∧ (r = true → W (evE C c env) s2 fun z s3 => ∃ r', cmpD o' y z s3 = some r' ∧ Q (.bl r') s3)) : W (evE C (.cmp2 o o' a b c) env) st Q := by
  refine W_bind (h.mono fun x s q => W_bind (q.mono fun y s2 ⟨r, e, q1, q2⟩ => W_bind (W_rd ⟨r, e, ?_⟩)))
  cases r with
  | false => exact W_pure (q1 rfl)
  | true => exact W_bind ((q2 rfl).mono fun z s3 ⟨r', e', q'⟩ => W_rd ⟨.bl r', by rw [e']; rfl, q'⟩)
theorem W_asB {α : Type} {f : Bool → M α} {x : D} {s : Store} {Q : α → Store → Prop} (h : ∃ r, x = .bl r ∧ W (f r) s Q) : W (M.bind (asB x) f) s Q := by
  obtain ⟨r, rfl, q⟩ := h
  exact W_bind (W_pure (a := r) q)
theorem W_and (h : W (evE C a env) st fun x s => ∃ r, x = .bl r ∧ (r = false → Q (.bl false) s) ∧ (r = true → W (evE C b env) s Q)) : W (evE C (.and a b) env) st Q := by
  refine W_bind (h.mono fun x s ⟨r, e, q1, q2⟩ => W_asB ⟨r, e, ?_⟩)
  cases r with
  | false => exact W_pure (q1 rfl)
  | true => exact q2 rfl
theorem W_or (h : W (evE C a env) st fun x s => ∃ r, x = .bl r ∧ (r = true → Q (.bl true) s) ∧ (r = false → W (evE C b env) s Q)) : W (evE C (.or a b) env) st Q := by
  refine W_bind (h.mono fun x s ⟨r, e, q1, q2⟩ => W_asB ⟨r, e, ?_⟩)
  cases r with
  | true => exact W_pure (q1 rfl)
  | false => exact q2 rfl
theorem W_not (h : W (evE C a env) st fun x s => ∃ r, x = .bl r ∧ Q (.bl (!r)) s) : W (evE C (.not a) env) st Q :=
  W_bind (h.mono fun x s ⟨r, e, q⟩ => W_asB ⟨r, e, W_pure q⟩)
theorem W_ife (h : W (evE C c env) st fun x s => ∃ r, x = .bl r ∧ (r = true → W (evE C a env) s Q) ∧ (r = false → W (evE C b env) s Q)) : W (evE C (.ife c a b) env) st Q := by
  refine W_bind (h.mono fun x s ⟨r, e, q1, q2⟩ => W_asB ⟨r, e, ?_⟩)
  cases r with
  | true => exact q1 rfl
  | false => exact q2 rfl
theorem W_tup (h : W (evA C xs env) st fun vs s => fit vs.length = true ∧ Q (.tup vs) s) : W (evE C (.tup xs) env) st Q := by
  obtain ⟨vs, s, e, f, q⟩ := h
  exact ⟨_, s, Ev.tup e f, q⟩
theorem W_lst (h : W (evA C xs env) st fun vs s => fit vs.length = true ∧ Q (.lst vs) s) : W (evE C (.lst false xs) env) st Q := by
  obtain ⟨vs, s, e, f, q⟩ := h
  exact ⟨_, s, Ev.lst e f, q⟩
theorem W_lstA (h : W (evA C xs env) st fun vs s => fit vs.length = true ∧ Q (.loc s.length) (s ++ [.lst false vs])) : W (evE C (.lst true xs) env) st Q := by
  obtain ⟨vs, s, e, f, q⟩ := h
  exact ⟨_, _, Ev.lstA e f, q⟩
theorem W_ix (h : W (evE C a env) st fun x s => W (evE C b env) s fun y s2 => ∃ d, ixD s2 x y = some d ∧ Q d s2) : W (evE C (.ix a b) env) st Q :=
  W_bind (h.mono fun x s q => W_bind (q.mono fun y s2 q => W_rd q))
theorem W_sl (h : W (evE C a env) st fun x s => W (evE C b env) s fun y s2 => ∃ lo, endP b y = some lo ∧ W (evE C c env) s2 fun z s3 => ∃ hi, endP c z = some hi ∧ ∃ d, sliceD s3 x lo hi = some d ∧ Q d s3) : W (evE C (.sl a b c) env) st Q :=
  W_bind (h.mono fun x s q => W_bind (q.mono fun y s2 ⟨lo, e, q⟩ => W_bind (W_of ⟨lo, e, W_bind (q.mono fun z s3 ⟨hi, e', q⟩ => W_bind (W_of ⟨hi, e', W_rd q⟩))⟩)))
theorem W_call {kp : Bool} {f : Str} (h : W (evA C xs env) st fun vs s => W (callD C kp f vs) s Q) : W (evE C (.call kp f xs) env) st Q := W_bind h
theorem W_blt {f : Str} (h : W (evA C xs env) st fun vs s => ∃ d, bltD f vs s = some d ∧ Q d s) : W (evE C (.blt f xs) env) st Q := W_bind (h.mono fun vs s q => W_rd q)
theorem W_lsa (h : W (evA C xs env) st fun vs s => ∃ ys, bltD "list" vs s = some (.lst ys) ∧ Q (.loc s.length) (s ++ [.lst false ys])) : W (evE C (.lsa xs) env) st Q := by
  obtain ⟨vs, s, e, ys, f, q⟩ := h
  exact ⟨_, _, Ev.lsa e f, q⟩
theorem W_isi {t : String} (h : W (evE C a env) st fun x s => ∃ u, tyOf s x = some u ∧ Q (.bl (isTy u t)) s) : W (evE C (.isi a t) env) st Q :=
  W_bind (h.mono fun x s ⟨u, e, q⟩ => W_rd ⟨_, by rw [e]; rfl, q⟩)
theorem W_met {m : Str} (h : W (evE C a env) st fun x s => metTy m x s = some () ∧ W (evA C xs env) s fun vs s2 => ∃ d s3, metD m x vs s2 = some (d, s3) ∧ Q d s3) : W (evE C (.met m a xs) env) st Q :=
  W_bind (h.mono fun x s ⟨e, q⟩ => W_bind (W_rd ⟨(), e, W_bind (q.mono fun vs s2 q => W_wr q)⟩))
theorem W_lc {tg : Tg} {k : IK} {hi : Bool} {own : List (Str × Nat)} (h : W (evA C xs env) st fun vs s => ∃ its n, itD k vs s = some (its, n) ∧ fit its.length = true ∧ W (withLock n (eachM (lcF C e tg hi c (own.map (·.2)) env) its)) s fun ys s2 => fit ys.length = true ∧ Q (.lst ys) s2) : W (evE C (.lc false e tg k xs hi c own) env) st Q := by
  obtain ⟨vs, s, e1, its, n, e2, f, ys, s2, e3, f2, q⟩ := h
  exact ⟨_, s2, Ev.lc e1 e2 f e3 f2, q⟩
theorem W_lcA {tg : Tg} {k : IK} {hi : Bool} {own : List (Str × Nat)} (h : W (evA C xs env) st fun vs s => ∃ its n, itD k vs s = some (its, n) ∧ fit its.length = true ∧ W (withLock n (eachM (lcF C e tg hi c (own.map (·.2)) env) its)) s fun ys s2 => fit ys.length = true ∧ Q (.loc s2.length) (s2 ++ [.lst false ys])) : W (evE C (.lc true e tg k xs hi c own) env) st Q := by
  obtain ⟨vs, s, e1, its, n, e2, f, ys, s2, e3, f2, q⟩ := h
  refine ⟨_, _, ?_, q⟩
  show evE C _ env st = _
  rw [lcF_eq]
  show M.bind (evA C xs env) _ st = _
  rw [bind_ok e1]; show M.bind (M.rd _) _ s = _
  rw [bind_ok (rd_ok e2)]
  show (if fit its.length = true then _ else _ : M D) s = _
  rw [if_pos f]
  show M.bind _ _ s = _
  rw [bind_ok (calm_ok e3)]
  unfold mkL; rw [if_pos f2]; rfl
theorem W_mkL {al : Bool} {ys : List D} {s : Store} (f : fit ys.length = true) (h : if al = true then Q (.loc s.length) (s ++ [.lst false ys]) else Q (.lst ys) s) : W (mkL al ys) s Q := by
  unfold mkL
  rw [if_pos f]
  cases al with
  | true => exact ⟨_, _, rfl, h⟩
  | false => exact ⟨_, _, rfl, h⟩
theorem W_mkD {al : Bool} {p : List D × List D} {s : Store} (h : if al = true then Q (.loc s.length) (s ++ [.dic false p.1 p.2]) else Q (.dic p.1 p.2) s) : W (mkD al p) s Q := by
  unfold mkD
  cases al with
  | true => exact ⟨_, _, rfl, h⟩
  | false => exact ⟨_, _, rfl, h⟩
theorem W_cat (h : W (evE C a env) st fun x s => W (evE C b env) s fun y s2 => ∃ zs, catD x y s2 = some zs ∧ fit zs.length = true ∧ Q (.loc s2.length) (s2 ++ [.lst false zs])) : W (evE C (.cat a b) env) st Q :=
  W_bind (h.mono fun x s q => W_bind (q.mono fun y s2 ⟨zs, e, f, q⟩ => W_bind (W_rd ⟨zs, e, W_mkL f q⟩)))
theorem W_dct {al : Bool} (h : W (evA C xs env) st fun vs s => ∃ p, dispD vs = some p ∧ if al = true then Q (.loc s.length) (s ++ [.dic false p.1 p.2]) else Q (.dic p.1 p.2) s) : W (evE C (.dct al xs) env) st Q :=
  W_bind (W_calm (h.mono fun vs s ⟨p, e, q⟩ => W_bind (W_of ⟨p, e, W_mkD q⟩)))
theorem W_rev (h : W (evE C a env) st fun x s => ∃ d, revD s x = some d ∧ Q d s) : W (evE C (.rev a) env) st Q := W_bind (h.mono fun x s q => W_rd q)
/-- a comprehension's test -/
def tstE (C : Ctx) (hi : Bool) (c : Ex) : Env → M Bool := fun v => if hi then evE C c v >>= asB else pure true
theorem W_dc {kx vx : Ex} {al : Bool} {tg : Tg} {k : IK} {hi : Bool} {own : List (Str × Nat)} (h : W (evA C xs env) st fun vs s => ∃ its n, itD k vs s = some (its, n) ∧
    W (withLock n (eachL (itemF (tstE C hi c) (fun v => evE C kx v >>= fun x => evE C vx v >>= fun y => pure [.tup [x, y]]) tg (own.map (·.2)) env) its)) s fun ys s2 => ∃ q, putAll ys ([], []) = some q ∧ if al = true then Q (.loc s2.length) (s2 ++ [.dic false q.1 q.2]) else Q (.dic q.1 q.2) s2) : W (evE C (.dc al kx vx tg k xs hi c own) env) st Q :=
  W_bind (h.mono fun vs s ⟨its, n, e, q⟩ => W_bind (W_rd ⟨(its, n), e, W_bind (W_calm (q.mono fun ys s2 ⟨p, e2, q⟩ => W_bind (W_of ⟨p, e2, W_mkD q⟩)))⟩))
theorem W_lc2 {al : Bool} {tg tg1 : Tg} {k k1 : IK} {xs1 : Exs} {c1 : Ex} {hi hi1 : Bool} {own : List (Str × Nat)} {vs1 : List Nat} (h : W (evA C xs env) st fun vs s => ∃ its n, itD k vs s = some (its, n) ∧
    W (withLock n (eachL (itemF (tstE C hi c) (innerF (fun v => evA C xs1 v) k1 (tstE C hi1 c1) (fun v => evE C e v >>= fun y => pure [y]) tg1 vs1) tg (own.map (·.2)) env) its)) s fun ys s2 => fit ys.length = true ∧ if al = true then Q (.loc s2.length) (s2 ++ [.lst false ys]) else Q (.lst ys) s2) : W (evE C (.lc2 al e tg k xs hi c tg1 k1 xs1 hi1 c1 own vs1) env) st Q :=
  W_bind (h.mono fun vs s ⟨its, n, e, q⟩ => W_bind (W_rd ⟨(its, n), e, W_bind (W_calm (q.mono fun ys s2 ⟨f, q⟩ => W_mkL f q))⟩))
theorem W_dc2 {kx vx : Ex} {al : Bool} {tg tg1 : Tg} {k k1 : IK} {xs1 : Exs} {c1 : Ex} {hi hi1 : Bool} {own : List (Str × Nat)} {vs1 : List Nat} (h : W (evA C xs env) st fun vs s => ∃ its n, itD k vs s = some (its, n) ∧
    W (withLock n (eachL (itemF (tstE C hi c) (innerF (fun v => evA C xs1 v) k1 (tstE C hi1 c1) (fun v => evE C kx v >>= fun x => evE C vx v >>= fun y => pure [.tup [x, y]]) tg1 vs1) tg (own.map (·.2)) env) its)) s fun ys s2 => ∃ q, putAll ys ([], []) = some q ∧ if al = true then Q (.loc s2.length) (s2 ++ [.dic false q.1 q.2]) else Q (.dic q.1 q.2) s2) : W (evE C (.dc2 al kx vx tg k xs hi c tg1 k1 xs1 hi1 c1 own vs1) env) st Q :=
  W_bind (h.mono fun vs s ⟨its, n, e, q⟩ => W_bind (W_rd ⟨(its, n), e, W_bind (W_calm (q.mono fun ys s2 ⟨p, e2, q⟩ => W_bind (W_of ⟨p, e2, W_mkD q⟩)))⟩))
theorem W_nil (h : QA [] st) : W (evA C .nil env) st QA := ⟨[], st, rfl, h⟩
theorem W_cons {r : Exs} (h : W (evE C e env) st fun x s => W (evA C r env) s fun vs s2 => QA (x :: vs) s2) : W (evA C (.cons false e r) env) st QA := by
  obtain ⟨x, s, e1, vs, s2, e2, q⟩ := h
  exact ⟨_, s2, EvA.cons e1 e2, q⟩
theorem W_star {r : Exs} (h : W (evE C e env) st fun x s => ∃ ys, sqOf s x = some ys ∧ W (evA C r env) s fun vs s2 => QA (ys ++ vs) s2) : W (evA C (.cons true e r) env) st QA := by
  obtain ⟨x, s, e1, ys, e3, vs, s2, e2, q⟩ := h
  exact ⟨_, s2, EvA.star e1 e3 e2, q⟩
/-! statements -/
theorem W_set {i : Nat} (h : W (evE C e env) st fun d s => Nat.blt i env.length = true ∧ QF (.nx (env.set i (some d))) s) : W (evS C (.set i e) env) st QF :=
  W_tr (h.mono fun d s ⟨l, q⟩ => ⟨_, s, put_eq (Nat.blt_eq.mp l), q⟩)
theorem W_unp {tg : Tg} (h : W (evE C e env) st fun d s => ∃ env', tgSet tg d env = some env' ∧ QF (.nx env') s) : W (evS C (.unp tg e) env) st QF :=
  W_tr (h.mono fun d s ⟨env', l, q⟩ => W_bind (W_of ⟨env', l, W_pure q⟩))
theorem W_aug {o : Operator} {i : Nat} {x : D} (h0 : env[i]? = some (some x)) (h : W (evE C e env) st fun y s => ∃ d s2, augD o x y s = some (d, s2) ∧ QF (.nx (env.set i (some d))) s2) : W (evS C (.aug o i e) env) st QF := by
  obtain ⟨y, s, e1, d, s2, e2, q⟩ := h
  exact ⟨_, s2, Es.aug h0 e1 e2, q⟩
theorem W_six (h : W (evE C e env) st fun v s => W (evE C a env) s fun x s2 => W (evE C b env) s2 fun i s3 => ∃ s4, setIxD x i v s3 = some ((), s4) ∧ QF (.nx env) s4) : W (evS C (.six a b e) env) st QF :=
  W_tr (h.mono fun v s q => W_tr (q.mono fun x s2 q => W_tr (q.mono fun i s3 ⟨s4, e, q⟩ => W_bind (W_wr ⟨(), s4, e, W_pure q⟩))))
theorem W_ex (h : W (evE C e env) st fun d s => QF (.nx env) s) : W (evS C (.ex e) env) st QF := W_tr (h.mono fun d s q => W_pure q)
theorem W_ret (h : W (evE C e env) st fun d s => QF (.rt d) s) : W (evS C (.ret e) env) st QF := W_tr (h.mono fun d s q => W_pure q)
theorem W_iff {p q : Sxs} (h : W (evE C c env) st fun x s => ∃ r, x = .bl r ∧ (r = true → W (evSs C p env) s QF) ∧ (r = false → W (evSs C q env) s QF)) : W (evS C (.iff c p q) env) st QF := by
  refine W_tr (h.mono fun x s ⟨r, e, q1, q2⟩ => W_asB ⟨r, e, ?_⟩)
  cases r with
  | true => exact q1 rfl
  | false => exact q2 rfl
theorem W_loop {tg : Tg} {k : IK} {body : Sxs} (h : W (evA C xs env) st fun vs s => ∃ its n, itD k vs s = some (its, n) ∧ W (noEr n (withLock n (loopM (loopF C tg body) its env))) s QF) : W (evS C (.loop tg k xs body) env) st QF := by
  obtain ⟨vs, s, e1, its, n, e2, f, s2, e3, q⟩ := h
  exact ⟨f, s2, Es.loop e1 e2 e3, q⟩
theorem W_noN {m : M Fl} (h : W m st QF) : W (noEr none (withLock none m)) st QF := by
  obtain ⟨f, s, e, q⟩ := h
  refine ⟨f, s, ?_, q⟩
  rw [noEr_none]; exact e
theorem W_lkN {α : Type} {m : M α} {Q : α → Store → Prop} (h : W m st Q) : W (withLock none m) st Q := h
theorem W_raise {c m : Str} (h : QF (.er env (.exc c [])) st) : W (evS C (.raise c m) env) st QF := ⟨_, st, rfl, h⟩
theorem W_brk (h : QF (.bk env) st) : W (evS C .brk env) st QF := ⟨_, st, rfl, h⟩
theorem W_cnt (h : QF (.ct env) st) : W (evS C .cnt env) st QF := ⟨_, st, rfl, h⟩
theorem W_pass (h : QF (.nx env) st) : W (evS C .pass env) st QF := ⟨_, st, rfl, h⟩
/-- what follows a statement -/
def seqQ (C : Ctx) (r : Sxs) (QF : Fl → Store → Prop) : Fl → Store → Prop
  | .nx env, s => W (evSs C r env) s QF
  | f, s => QF f s
theorem seq_nx {r : Sxs} {s : Store} (h : W (evSs C r env) s QF) : seqQ C r QF (.nx env) s := h
theorem seq_rt {r : Sxs} {s : Store} {d : D} (h : QF (.rt d) s) : seqQ C r QF (.rt d) s := h
theorem seq_bk {r : Sxs} {s : Store} (h : QF (.bk env) s) : seqQ C r QF (.bk env) s := h
theorem W_snil (h : QF (.nx env) st) : W (evSs C .nil env) st QF := ⟨_, st, rfl, h⟩
theorem W_scons {s : Sx} {r : Sxs} (h : W (evS C s env) st (seqQ C r QF)) : W (evSs C (.cons s r) env) st QF := by
  refine W_bind (h.mono fun f s2 q => ?_)
  cases f with
  | nx env' => exact q
  | rt d => exact W_pure q
  | bk env' => exact W_pure q
  | ct env' => exact W_pure q
  | er env' x => exact W_pure q
/-- how a def ends -/
def endQ (Q : D → Store → Prop) : Fl → Store → Prop
  | .rt d, s => Q d s
  | .nx _, s => Q .non s
  | _, _ => False
theorem W_run {F : Fn} {vs : List D} {E : Env} (hl : (vs.length == F.p && Nat.ble F.p F.n) = true) (hE : vs.map some ++ List.replicate (F.n - F.p) none = E) (h : W (evSs C F.body E) st (endQ Q)) : W (runF C F vs) st Q := by
  obtain ⟨f, s, e, q⟩ := h
  subst hE
  cases f with
  | rt d => exact ⟨d, s, run_rt hl e, q⟩
  | nx env' => exact ⟨.non, s, run_nx hl e, q⟩
  | _ => exact q.elim
end
theorem ifT {A B : Prop} (h : A) : (true = true → A) ∧ (true = false → B) := ⟨fun _ => h, nofun⟩
theorem ifF {A B : Prop} (h : B) : (false = true → A) ∧ (false = false → B) := ⟨nofun, fun _ => h⟩
theorem anT {A B : Prop} (h : B) : (true = false → A) ∧ (true = true → B) := ⟨nofun, fun _ => h⟩
theorem anF {A B : Prop} (h : A) : (false = false → A) ∧ (false = true → B) := ⟨fun _ => h, nofun⟩
theorem end_rt {Q : D → Store → Prop} {d : D} {s : Store} (h : Q d s) : endQ Q (.rt d) s := h
theorem end_nx {Q : D → Store → Prop} {env : Env} {s : Store} (h : Q .non s) : endQ Q (.nx env) s := h
/-! loops -/
section
theorem W_loopM {f : D → Env → M Fl} {QF : Fl → Store → Prop} (I : List D → Env → Store → Prop) : ∀ (L : List D) {env : Env} {st : Store}, I L env st →
    (∀ x r env st, I (x :: r) env st → W (f x env) st fun fl s => match fl with
      | .nx env' => I r env' s
      | .bk env' => QF (.nx env') s
      | .ct _ => False
      | fl => QF fl s) → (∀ env st, I [] env st → QF (.nx env) st) → W (loopM f L env) st QF
  | [], env, st, h, _, h0 => ⟨_, st, rfl, h0 _ _ h⟩
  | x :: r, env, st, h, h1, h0 => by
    refine W_bind ((h1 x r env st h).mono fun fl s q => ?_)
    cases fl with
    | nx env' => exact W_loopM I r q h1 h0
    | bk env' => exact W_pure q
    | ct env' => exact q.elim
    | rt d => exact W_pure q
    | er env' e => exact W_pure q
theorem W_each0 {f : D → M (Option D)} {st : Store} {Q : List D → Store → Prop} (h : Q [] st) : W (eachM f []) st Q := ⟨[], st, rfl, h⟩
theorem W_eachM {f : D → M (Option D)} {Q : List D → Store → Prop} (I : List D → List D → Store → Prop) : ∀ (L acc : List D) {st : Store}, I L acc st →
    (∀ x r acc st, I (x :: r) acc st → W (f x) st fun o s => I r (acc ++ o.toList) s) → (∀ acc st, I [] acc st → Q acc st) → W (eachM f L) st fun ys s => Q (acc ++ ys) s
  | [], acc, st, h, _, h0 => ⟨[], st, rfl, by show Q (acc ++ []) st; rw [List.append_nil]; exact h0 _ _ h⟩
  | x :: r, acc, st, h, h1, h0 => by
    refine W_bind ((h1 x r acc st h).mono fun o s q => W_bind ((W_eachM (Q := Q) I r _ q h1 h0).mono fun ys s2 q2 => ?_))
    cases o with
    | none => exact ⟨_, s2, rfl, by show Q (acc ++ ys) s2; simpa using q2⟩
    | some y => exact ⟨_, s2, rfl, by show Q (acc ++ (y :: ys)) s2; simpa using q2⟩
theorem W_eachL {f : D → M (List D)} {Q : List D → Store → Prop} (I : List D → List D → Store → Prop) : ∀ (L acc : List D) {st : Store}, I L acc st →
    (∀ x r acc st, I (x :: r) acc st → W (f x) st fun o s => I r (acc ++ o) s) → (∀ acc st, I [] acc st → Q acc st) → W (eachL f L) st fun ys s => Q (acc ++ ys) s
  | [], acc, st, h, _, h0 => ⟨[], st, rfl, by show Q (acc ++ []) st; rw [List.append_nil]; exact h0 _ _ h⟩
  | x :: r, acc, st, h, h1, h0 => by
    refine W_bind ((h1 x r acc st h).mono fun o s q => W_bind ((W_eachL (Q := Q) I r _ q h1 h0).mono fun ys s2 q2 => ?_))
    exact ⟨_, s2, rfl, by show Q (acc ++ (o ++ ys)) s2; rw [← List.append_assoc]; exact q2⟩
variable {C : Ctx} {e c : Ex} {tg : Tg} {hi : Bool} {vs : List Nat} {env : Env} {d : D} {st : Store}
theorem W_item {Q : Option D → Store → Prop} {env' : Env} (h : tgSet tg d (wipeE env vs) = some env') (k : W (tstE C hi c env') st fun r s => (r = true → W (evE C e env') s fun y s2 => Q (some y) s2) ∧ (r = false → Q none s)) : W (lcF C e tg hi c vs env d) st Q := by
  refine W_bind (W_of ⟨env', h, W_bind (k.mono fun r s ⟨q1, q2⟩ => ?_)⟩)
  cases r with
  | true => exact W_bind ((q1 rfl).mono fun y s2 q => W_pure q)
  | false => exact W_pure (q2 rfl)
theorem W_itemL {Q : List D → Store → Prop} {tst : Env → M Bool} {rest : Env → M (List D)} {env' : Env} (h : tgSet tg d (wipeE env vs) = some env') (k : W (tst env') st fun r s => (r = true → W (rest env') s Q) ∧ (r = false → Q [] s)) : W (itemF tst rest tg vs env d) st Q := by
  refine W_bind (W_of ⟨env', h, W_bind (k.mono fun r s ⟨q1, q2⟩ => ?_)⟩)
  cases r with
  | true => exact q1 rfl
  | false => exact W_pure (q2 rfl)
theorem W_tst0 {Q : Bool → Store → Prop} (h : Q true st) : W (tstE C false c env) st Q := ⟨true, st, rfl, h⟩
theorem W_tst1 {Q : Bool → Store → Prop} (h : W (evE C c env) st fun x s => ∃ r, x = .bl r ∧ Q r s) : W (tstE C true c env) st Q :=
  W_bind (h.mono fun x s ⟨r, e, q⟩ => by subst e; exact W_pure q)
theorem W_inner {Q : List D → Store → Prop} {src : Env → M (List D)} {k : IK} {tst : Env → M Bool} {rest : Env → M (List D)} (h : W (src env) st fun xs s => ∃ its, itD k xs s = some (its, none) ∧ W (eachL (itemF tst rest tg vs env) its) s Q) : W (innerF src k tst rest tg vs env) st Q :=
  W_bind (h.mono fun xs s ⟨its, e, q⟩ => W_bind (W_rd ⟨(its, none), e, q⟩))
/-- behind a turn -/
def trimQ (n : Nat) (e0 : Env) (Q : Fl → Store → Prop) : Fl → Store → Prop
  | .nx env, s | .ct env, s => ∃ f s', trimR n e0 env s = some (.ok f s') ∧ Q f s'
  | f, s => Q f s
theorem W_loopF {body : Sxs} {Q : Fl → Store → Prop} {env1 : Env} (h : tgSet tg d env = some env1) (k : W (evSs C body env1) st (trimQ st.length env Q)) : W (loopF C tg body d env) st Q := by
  obtain ⟨f, s, e, q⟩ := k
  have : (M.of (tgSet tg d env) >>= fun env' => evSs C body env') st = some (.ok f s) := by
    rw [h]; exact e
  have r : loopF C tg body d env st = (match some (Out.ok f s) with
      | some (.ok (.nx env') s) => trimR st.length env env' s
      | some (.ok (.ct env') s) => trimR st.length env env' s
      | r => r) := by
    unfold loopF trimM
    rw [this] <;> rfl
  cases f with
  | nx env' =>
    obtain ⟨f, s', e', q⟩ := q
    exact ⟨f, s', by rw [r]; exact e', q⟩
  | ct env' =>
    obtain ⟨f, s', e', q⟩ := q
    exact ⟨f, s', by rw [r]; exact e', q⟩
  | rt d => exact ⟨_, s, r, q⟩
  | bk env' => exact ⟨_, s, r, q⟩
  | er env' x => exact ⟨_, s, r, q⟩
theorem trim_le {n : Nat} {e0 env : Env} {s : Store} {Q : Fl → Store → Prop} (h : Nat.ble s.length n = true) (q : Q (.nx env) s) : trimQ n e0 Q (.nx env) s := ⟨_, s, by unfold trimR; rw [if_pos h], q⟩
theorem trim_gt {n : Nat} {e0 env : Env} {s : Store} {Q : Fl → Store → Prop} (h : Nat.ble s.length n = false) (k1 : (s.take n).all (Ob.under n) = true) (k2 : keepE n e0 env = true) (q : Q (.nx (trimE n env)) (s.take n)) : trimQ n e0 Q (.nx env) s :=
  ⟨_, _, by unfold trimR; rw [h, if_neg Bool.false_ne_true, k1, k2]; rfl, q⟩
theorem trim_rt {n : Nat} {e0 : Env} {d : D} {s : Store} {Q : Fl → Store → Prop} (q : Q (.rt d) s) : trimQ n e0 Q (.rt d) s := q
theorem trim_bk {n : Nat} {e0 env : Env} {s : Store} {Q : Fl → Store → Prop} (q : Q (.bk env) s) : trimQ n e0 Q (.bk env) s := q
end
/-! walks of a thing of the store -/
theorem W_lkL {α : Type} {m : M α} {st : Store} {n : Nat} {xs : List D} {Q : α → Store → Prop} (h : st[n]? = some (.lst false xs)) (hm : W m (st.set n (.lst true xs)) fun a s2 => ∃ ys, s2[n]? = some (.lst true ys) ∧ Q a (s2.set n (.lst false ys))) : W (withLock (some n) m) st Q := by
  obtain ⟨a, s2, e, ys, h2, q⟩ := hm
  exact ⟨a, _, wl_eq h e h2, q⟩
/-! over range(n) -/
section
variable {C : Ctx} {env : Env} {st : Store} {e c : Ex} {xs : Exs} {Q : D → Store → Prop} {QF : Fl → Store → Prop}
theorem rng1 {n : Nat} (h : n < 100) {s : Store} : itD .range1 [.int (n : Nat)] s = some ((List.range n).map fun (i : Nat) => D.int (i : Int), none) := by
  unfold itD itR1
  have h1 : (decide (-(2 ^ 62 : Int) ≤ ((n : Nat) : Int)) && decide (((n : Nat) : Int) < 2 ^ 62)) = true := by
    rw [Bool.and_eq_true, decide_eq_true_eq, decide_eq_true_eq]; omega
  simp only [h1, if_true, Int.toNat_natCast]
theorem W_loopR {tg : Tg} {body : Sxs} (h : W (evA C xs env) st fun vs s => ∃ n : Nat, vs = [.int (n : Int)] ∧ n < 100 ∧ W (loopM (loopF C tg body) ((List.range n).map fun (i : Nat) => D.int (i : Int)) env) s QF) : W (evS C (.loop tg .range1 xs body) env) st QF :=
  W_loop (h.mono fun vs s ⟨n, e, l, q⟩ => by subst e; exact ⟨_, _, rng1 l, W_noN q⟩)
theorem W_lcR {tg : Tg} {hi : Bool} {own : List (Str × Nat)} (h : W (evA C xs env) st fun vs s => ∃ n : Nat, vs = [.int (n : Int)] ∧ n < 100 ∧ W (eachM (lcF C e tg hi c (own.map (·.2)) env) ((List.range n).map fun (i : Nat) => D.int (i : Int))) s fun ys s2 => fit ys.length = true ∧ Q (.lst ys) s2) : W (evE C (.lc false e tg .range1 xs hi c own) env) st Q :=
  W_lc (h.mono fun vs s ⟨n, e, l, q⟩ => by subst e; exact ⟨_, _, rng1 l, fit_small (by simp; omega), q⟩)
theorem W_lcRA {tg : Tg} {hi : Bool} {own : List (Str × Nat)} (h : W (evA C xs env) st fun vs s => ∃ n : Nat, vs = [.int (n : Int)] ∧ n < 100 ∧ W (eachM (lcF C e tg hi c (own.map (·.2)) env) ((List.range n).map fun (i : Nat) => D.int (i : Int))) s fun ys s2 => fit ys.length = true ∧ Q (.loc s2.length) (s2 ++ [.lst false ys])) : W (evE C (.lc true e tg .range1 xs hi c own) env) st Q :=
  W_lcA (h.mono fun vs s ⟨n, e, l, q⟩ => by subst e; exact ⟨_, _, rng1 l, fit_small (by simp; omega), q⟩)
end
end Wk

section
set_option maxHeartbeats 0
namespace Hd
open PySem PySem.Spec PyProof.Rows L2 Wk
def tp (i : Nat) : Stmt := PySem.Challenge.pw_waykinds_k32_refused_joining.main.body.getD i (.Pass ⟨0, 0, 0, 0⟩)
def dd (x : Str) (i : Nat) : He.DefD := ⟨(x, none), x, x, defArgs (tp i), defBody (tp i), defScope (tp i), [], []⟩
def v_is_whole : Fn := ⟨1, 1, (.cons (.ret (.and (.isi (.var 0) "int") (.and (.not (.isi (.var 0) "bool")) (.cmp .GtE (.var 0) (.cst (.int 0)))))) .nil)⟩
def t_is_whole : TD where
  d := dd "is_whole" 9
  N := ["thing"]
  ps := ["thing"]
  F := v_is_whole
  at_ := rfl
  dfl := rfl
  kwd := rfl
  bnd := fun kV doc pm an cdv ct us h => by
    obtain ⟨u0, rfl⟩ := Wk.len1 h
    kernel_rfl
def v_is_name : Fn := ⟨2, 1, (.cons (.ret (.and (.isi (.var 0) "str") (.and (.cmp2 .LtE .LtE (.cst (.int 1)) (.blt "len" (.cons false (.var 0) .nil)) (.cst (.int 12))) (.blt "all" (.cons false (.lc false (.cmp .In (.var 1) (.gst "LETTERS")) (.nm 1) .val (.cons false (.var 0) .nil) false (.cst .non) [("sign", 1)]) .nil))))) .nil)⟩
def t_is_name : TD where
  d := dd "is_name" 10
  N := ["thing", "sign"]
  ps := ["thing"]
  F := v_is_name
  at_ := rfl
  dfl := rfl
  kwd := rfl
  bnd := fun kV doc pm an cdv ct us h => by
    obtain ⟨u0, rfl⟩ := Wk.len1 h
    kernel_rfl
def v_is_ascending : Fn := ⟨3, 1, (.cons (.ret (.blt "all" (.cons false (.lc false (.cmp .Lt (.var 1) (.var 2)) (.tp (.cons (.nm 1) (.cons (.nm 2) .nil))) .zip (.cons false (.var 0) (.cons false (.sl (.var 0) (.cst (.int 1)) (.cst .non)) .nil)) false (.cst .non) [("one", 1), ("other", 2)]) .nil))) .nil)⟩
def t_is_ascending : TD where
  d := dd "is_ascending" 12
  N := ["things", "one", "other"]
  ps := ["things"]
  F := v_is_ascending
  at_ := rfl
  dfl := rfl
  kwd := rfl
  bnd := fun kV doc pm an cdv ct us h => by
    obtain ⟨u0, rfl⟩ := Wk.len1 h
    kernel_rfl
def v_is_step : Fn := ⟨3, 3, (.cons (.iff (.or (.not (.isi (.var 2) "tuple")) (.cmp .NotEq (.blt "len" (.cons false (.var 2) .nil)) (.cst (.int 2)))) (.cons (.ret (.cst (.bl false))) .nil) .nil) (.cons (.ret (.and (.call false "is_whole" (.cons false (.ix (.var 2) (.cst (.int 0))) .nil)) (.and (.cmp .Lt (.ix (.var 2) (.cst (.int 0))) (.var 0)) (.and (.call false "is_whole" (.cons false (.ix (.var 2) (.cst (.int 1))) .nil)) (.cmp .Lt (.ix (.var 2) (.cst (.int 1))) (.var 1)))))) .nil))⟩
def t_is_step : TD where
  d := dd "is_step" 13
  N := ["many", "size", "thing"]
  ps := ["many", "size", "thing"]
  F := v_is_step
  at_ := rfl
  dfl := rfl
  kwd := rfl
  bnd := fun kV doc pm an cdv ct us h => by
    obtain ⟨u0, u1, u2, rfl⟩ := Wk.len3 h
    kernel_rfl
def v_is_state : Fn := ⟨4, 3, (.cons (.iff (.or (.not (.isi (.var 2) "tuple")) (.or (.cmp .NotEq (.blt "len" (.cons false (.var 2) .nil)) (.cst (.int 2))) (.not (.isi (.ix (.var 2) (.cst (.int 0))) "bool")))) (.cons (.ret (.cst (.bl false))) .nil) .nil) (.cons (.iff (.or (.not (.isi (.ix (.var 2) (.cst (.int 1))) "tuple")) (.not (.blt "all" (.cons false (.lc false (.call false "is_step" (.cons false (.var 0) (.cons false (.var 1) (.cons false (.var 3) .nil)))) (.nm 3) .val (.cons false (.ix (.var 2) (.cst (.int 1))) .nil) false (.cst .non) [("step", 3)]) .nil)))) (.cons (.ret (.cst (.bl false))) .nil) .nil) (.cons (.ret (.call false "is_ascending" (.cons false (.ix (.var 2) (.cst (.int 1))) .nil))) .nil)))⟩
def t_is_state : TD where
  d := dd "is_state" 14
  N := ["many", "size", "thing", "step"]
  ps := ["many", "size", "thing"]
  F := v_is_state
  at_ := rfl
  dfl := rfl
  kwd := rfl
  bnd := fun kV doc pm an cdv ct us h => by
    obtain ⟨u0, u1, u2, rfl⟩ := Wk.len3 h
    kernel_rfl
def v_is_kind : Fn := ⟨3, 2, (.cons (.iff (.or (.not (.isi (.var 1) "tuple")) (.or (.cmp .NotEq (.blt "len" (.cons false (.var 1) .nil)) (.cst (.int 2))) (.not (.call false "is_name" (.cons false (.ix (.var 1) (.cst (.int 0))) .nil))))) (.cons (.ret (.cst (.bl false))) .nil) .nil) (.cons (.iff (.or (.not (.isi (.ix (.var 1) (.cst (.int 1))) "tuple")) (.cmp .Eq (.ix (.var 1) (.cst (.int 1))) (.tup .nil))) (.cons (.ret (.cst (.bl false))) .nil) .nil) (.cons (.ret (.blt "all" (.cons false (.lc false (.call false "is_state" (.cons false (.var 0) (.cons false (.blt "len" (.cons false (.ix (.var 1) (.cst (.int 1))) .nil)) (.cons false (.var 2) .nil)))) (.nm 2) .val (.cons false (.ix (.var 1) (.cst (.int 1))) .nil) false (.cst .non) [("state", 2)]) .nil))) .nil)))⟩
def t_is_kind : TD where
  d := dd "is_kind" 15
  N := ["many", "thing", "state"]
  ps := ["many", "thing"]
  F := v_is_kind
  at_ := rfl
  dfl := rfl
  kwd := rfl
  bnd := fun kV doc pm an cdv ct us h => by
    obtain ⟨u0, u1, rfl⟩ := Wk.len2 h
    kernel_rfl
def v_is_right_schema : Fn := ⟨5, 1, (.cons (.iff (.or (.not (.isi (.var 0) "tuple")) (.or (.cmp .NotEq (.blt "len" (.cons false (.var 0) .nil)) (.cst (.int 2))) (.not (.isi (.ix (.var 0) (.cst (.int 0))) "tuple")))) (.cons (.ret (.cst (.bl false))) .nil) .nil) (.cons (.iff (.or (.not (.isi (.ix (.var 0) (.cst (.int 1))) "tuple")) (.cmp .Eq (.ix (.var 0) (.cst (.int 1))) (.tup .nil))) (.cons (.ret (.cst (.bl false))) .nil) .nil) (.cons (.unp (.tp (.cons (.nm 1) (.cons (.nm 2) .nil))) (.var 0)) (.cons (.iff (.or (.not (.blt "all" (.cons false (.lc false (.and (.call false "is_whole" (.cons false (.var 4) .nil)) (.cmp .Lt (.var 4) (.blt "len" (.cons false (.var 2) .nil)))) (.nm 4) .val (.cons false (.var 1) .nil) false (.cst .non) [("k", 4)]) .nil))) (.not (.call false "is_ascending" (.cons false (.var 1) .nil)))) (.cons (.ret (.cst (.bl false))) .nil) .nil) (.cons (.ret (.blt "all" (.cons false (.lc false (.call false "is_kind" (.cons false (.blt "len" (.cons false (.var 2) .nil)) (.cons false (.var 3) .nil))) (.nm 3) .val (.cons false (.var 2) .nil) false (.cst .non) [("kind", 3)]) .nil))) .nil)))))⟩
def t_is_right_schema : TD where
  d := dd "is_right_schema" 16
  N := ["thing", "tops", "kinds", "kind", "k"]
  ps := ["thing"]
  F := v_is_right_schema
  at_ := rfl
  dfl := rfl
  kwd := rfl
  bnd := fun kV doc pm an cdv ct us h => by
    obtain ⟨u0, rfl⟩ := Wk.len1 h
    kernel_rfl
def v_look_at_schema : Fn := ⟨1, 1, (.cons (.iff (.not (.call false "is_right_schema" (.cons false (.var 0) .nil))) (.cons (.raise "NoSchema" "not a schema") .nil) .nil) .nil)⟩
def t_look_at_schema : TD where
  d := dd "look_at_schema" 17
  N := ["schema"]
  ps := ["schema"]
  F := v_look_at_schema
  at_ := rfl
  dfl := rfl
  kwd := rfl
  bnd := fun kV doc pm an cdv ct us h => by
    obtain ⟨u0, rfl⟩ := Wk.len1 h
    kernel_rfl
def v_moved : Fn := ⟨9, 2, (.cons (.set 2 (.lst true .nil)) (.cons (.loop (.tp (.cons (.nm 3) (.cons (.nm 4) .nil))) .val (.cons false (.var 0) .nil) (.cons (.ex (.met "append" (.var 2) (.cons false (.tup (.cons false (.var 3) (.cons false (.blt "tuple" (.cons false (.lc false (.tup (.cons false (.var 5) (.cons false (.blt "tuple" (.cons false (.lc false (.tup (.cons false (.bin .Add (.var 7) (.var 1)) (.cons false (.var 8) .nil))) (.tp (.cons (.nm 7) (.cons (.nm 8) .nil))) .val (.cons false (.var 6) .nil) false (.cst .non) [("k", 7), ("s", 8)]) .nil)) .nil))) (.tp (.cons (.nm 5) (.cons (.nm 6) .nil))) .val (.cons false (.var 4) .nil) false (.cst .non) [("ends", 5), ("steps", 6)]) .nil)) .nil))) .nil))) .nil)) (.cons (.ret (.blt "tuple" (.cons false (.var 2) .nil))) .nil)))⟩
def t_moved : TD where
  d := dd "moved" 19
  N := ["kinds", "by", "found", "name", "states", "ends", "steps", "k", "s"]
  ps := ["kinds", "by"]
  F := v_moved
  at_ := rfl
  dfl := rfl
  kwd := rfl
  bnd := fun kV doc pm an cdv ct us h => by
    obtain ⟨u0, u1, rfl⟩ := Wk.len2 h
    kernel_rfl
def v_joined : Fn := ⟨4, 2, (.cons (.ex (.call false "look_at_schema" (.cons false (.var 0) .nil))) (.cons (.ex (.call false "look_at_schema" (.cons false (.var 1) .nil))) (.cons (.set 2 (.blt "len" (.cons false (.ix (.var 0) (.cst (.int 1))) .nil))) (.cons (.ret (.tup (.cons false (.tup (.cons true (.ix (.var 0) (.cst (.int 0))) (.cons true (.lc false (.bin .Add (.var 3) (.var 2)) (.nm 3) .val (.cons false (.ix (.var 1) (.cst (.int 0))) .nil) false (.cst .non) [("k", 3)]) .nil))) (.cons false (.bin .Add (.ix (.var 0) (.cst (.int 1))) (.call false "moved" (.cons false (.ix (.var 1) (.cst (.int 1))) (.cons false (.var 2) .nil)))) .nil)))) .nil))))⟩
def t_joined : TD where
  d := dd "joined" 20
  N := ["one", "other", "many", "k"]
  ps := ["one", "other"]
  F := v_joined
  at_ := rfl
  dfl := rfl
  kwd := rfl
  bnd := fun kV doc pm an cdv ct us h => by
    obtain ⟨u0, u1, rfl⟩ := Wk.len2 h
    kernel_rfl
def v_cut_states : Fn := ⟨14, 3, (.cons (.set 3 (.blt "len" (.cons false (.var 1) .nil))) (.cons (.set 4 (.lst true .nil)) (.cons (.loop (.tp (.cons (.nm 5) (.cons (.nm 6) .nil))) .val (.cons false (.var 0) .nil) (.cons (.loop (.tp (.cons (.nm 7) (.cons (.nm 8) .nil))) .val (.cons false (.var 1) .nil) (.cons (.set 9 (.lc2 false (.tup (.cons false (.ix (.var 2) (.tup (.cons false (.var 10) (.cons false (.var 12) .nil)))) (.cons false (.bin .Add (.bin .Mult (.var 11) (.var 3)) (.var 13)) .nil))) (.tp (.cons (.nm 10) (.cons (.nm 11) .nil))) .val (.cons false (.var 6) .nil) false (.cst .non) (.tp (.cons (.nm 12) (.cons (.nm 13) .nil))) .val (.cons false (.var 8) .nil) true (.cmp .In (.tup (.cons false (.var 10) (.cons false (.var 12) .nil))) (.var 2)) [("k", 10), ("s", 11), ("j", 12), ("t", 13)] [12, 13])) (.cons (.ex (.met "append" (.var 4) (.cons false (.tup (.cons false (.and (.var 5) (.var 7)) (.cons false (.blt "tuple" (.cons false (.blt "sorted" (.cons false (.var 9) .nil)) .nil)) .nil))) .nil))) .nil))) .nil)) (.cons (.ret (.blt "tuple" (.cons false (.var 4) .nil))) .nil))))⟩
def t_cut_states : TD where
  d := dd "cut_states" 21
  N := ["one", "other", "numbers", "size", "found", "ends", "steps", "more", "rows", "led", "k", "s", "j", "t"]
  ps := ["one", "other", "numbers"]
  F := v_cut_states
  at_ := rfl
  dfl := rfl
  kwd := rfl
  bnd := fun kV doc pm an cdv ct us h => by
    obtain ⟨u0, u1, u2, rfl⟩ := Wk.len3 h
    kernel_rfl
def v_cut : Fn := ⟨12, 2, (.cons (.ex (.call false "look_at_schema" (.cons false (.var 0) .nil))) (.cons (.ex (.call false "look_at_schema" (.cons false (.var 1) .nil))) (.cons (.set 2 (.lc2 false (.tup (.cons false (.var 6) (.cons false (.var 8) .nil))) (.tp (.cons (.nm 6) (.cons (.nm 7) .nil))) .enum (.cons false (.ix (.var 0) (.cst (.int 1))) .nil) false (.cst .non) (.tp (.cons (.nm 8) (.cons (.nm 9) .nil))) .enum (.cons false (.ix (.var 1) (.cst (.int 1))) .nil) true (.cmp .Eq (.ix (.var 7) (.cst (.int 0))) (.ix (.var 9) (.cst (.int 0)))) [("i", 6), ("kind", 7), ("j", 8), ("more", 9)] [8, 9])) (.cons (.iff (.cmp .Eq (.var 2) (.lst false .nil)) (.cons (.ret (.tup (.cons false (.tup .nil) (.cons false (.tup (.cons false (.tup (.cons false (.ix (.ix (.ix (.var 0) (.cst (.int 1))) (.cst (.int 0))) (.cst (.int 0))) (.cons false (.tup (.cons false (.tup (.cons false (.cst (.bl false)) (.cons false (.tup .nil) .nil))) .nil)) .nil))) .nil)) .nil)))) .nil) .nil) (.cons (.set 3 (.dc false (.var 11) (.var 10) (.tp (.cons (.nm 10) (.cons (.nm 11) .nil))) .enum (.cons false (.var 2) .nil) false (.cst .non) [("number", 10), ("pair", 11)])) (.cons (.set 4 (.lc false (.tup (.cons false (.ix (.ix (.ix (.var 0) (.cst (.int 1))) (.var 6)) (.cst (.int 0))) (.cons false (.call false "cut_states" (.cons false (.ix (.ix (.ix (.var 0) (.cst (.int 1))) (.var 6)) (.cst (.int 1))) (.cons false (.ix (.ix (.ix (.var 1) (.cst (.int 1))) (.var 8)) (.cst (.int 1))) (.cons false (.var 3) .nil)))) .nil))) (.tp (.cons (.nm 6) (.cons (.nm 8) .nil))) .val (.cons false (.var 2) .nil) false (.cst .non) [("i", 6), ("j", 8)])) (.cons (.set 5 (.lc false (.var 10) (.tp (.cons (.nm 10) (.cons (.tp (.cons (.nm 6) (.cons (.nm 8) .nil))) .nil))) .enum (.cons false (.var 2) .nil) true (.and (.cmp .In (.var 6) (.ix (.var 0) (.cst (.int 0)))) (.cmp .In (.var 8) (.ix (.var 1) (.cst (.int 0))))) [("number", 10), ("i", 6), ("j", 8)])) (.cons (.ret (.tup (.cons false (.blt "tuple" (.cons false (.var 5) .nil)) (.cons false (.blt "tuple" (.cons false (.var 4) .nil)) .nil)))) .nil))))))))⟩
def t_cut : TD where
  d := dd "cut" 22
  N := ["one", "other", "pairs", "numbers", "kinds", "tops", "i", "kind", "j", "more", "number", "pair"]
  ps := ["one", "other"]
  F := v_cut
  at_ := rfl
  dfl := rfl
  kwd := rfl
  bnd := fun kV doc pm an cdv ct us h => by
    obtain ⟨u0, u1, rfl⟩ := Wk.len2 h
    kernel_rfl
def v__law_mixed : Fn := ⟨3, 2, (.cons (.set 2 (.bin .Mod (.blt "int" (.cons false (.bin .Add (.bin .Add (.bin .Mult (.bin .Mod (.blt "int" (.cons false (.var 0) .nil)) (.cst (.int 2147483647))) (.cst (.int 48271))) (.bin .Mult (.var 1) (.cst (.int 69621)))) (.cst (.int 1048583))) .nil)) (.cst (.int 2147483629)))) (.cons (.set 2 (.bin .Mod (.blt "int" (.cons false (.bin .Mult (.var 2) (.var 2)) .nil)) (.cst (.int 2147483587)))) (.cons (.ret (.bin .Mod (.blt "int" (.cons false (.bin .Mult (.var 2) (.bin .Add (.var 2) (.cst (.int 2)))) .nil)) (.cst (.int 2147483579)))) .nil)))⟩
def t__law_mixed : TD where
  d := dd "_law_mixed" 24
  N := ["_law_cell", "_law_k", "_law_number"]
  ps := ["_law_cell", "_law_k"]
  F := v__law_mixed
  at_ := rfl
  dfl := rfl
  kwd := rfl
  bnd := fun kV doc pm an cdv ct us h => by
    obtain ⟨u0, u1, rfl⟩ := Wk.len2 h
    kernel_rfl
def v__law_pile : Fn := ⟨3, 2, (.cons (.set 2 (.bin .Mod (.blt "sum" (.cons false (.sl (.var 0) (.cst .non) (.cst (.int 1))) .nil)) (.cst (.int 1000003)))) (.cons (.iff (.cmp .Lt (.var 1) (.blt "len" (.cons false (.var 0) .nil))) (.cons (.set 2 (.ix (.var 0) (.var 1))) .nil) .nil) (.cons (.ret (.lst true (.cons false (.bin .Mod (.blt "int" (.cons false (.blt "max" (.cons false (.bin .Sub (.var 2) (.bin .Pow (.cst (.int 10)) (.cst (.int 18)))) (.cons false (.cst (.int 0)) .nil))) .nil)) (.bin .Mult (.bin .Mult (.bin .Mult (.bin .Pow (.cst (.int 10)) (.cst (.int 60))) (.bin .Pow (.cst (.int 10)) (.cst (.int 60)))) (.bin .Pow (.cst (.int 10)) (.cst (.int 60)))) (.bin .Pow (.cst (.int 10)) (.cst (.int 60))))) (.cons false (.var 2) (.cons false (.bin .Mult (.cst (.int 1000)) (.var 1)) .nil))))) .nil)))⟩
def t__law_pile : TD where
  d := dd "_law_pile" 25
  N := ["_law_script", "_law_k", "_law_cell"]
  ps := ["_law_script", "_law_k"]
  F := v__law_pile
  at_ := rfl
  dfl := rfl
  kwd := rfl
  bnd := fun kV doc pm an cdv ct us h => by
    obtain ⟨u0, u1, rfl⟩ := Wk.len2 h
    kernel_rfl
def v__law_take : Fn := ⟨4, 2, (.cons (.iff (.cmp .Gt (.ix (.var 0) (.cst (.int 0))) (.cst (.int 0))) (.cons (.set 2 (.bin .Mod (.blt "int" (.cons false (.ix (.var 0) (.cst (.int 0))) .nil)) (.var 1))) (.cons (.six (.var 0) (.cst (.int 0)) (.bin .FloorDiv (.ix (.var 0) (.cst (.int 0))) (.var 1))) (.cons (.ret (.var 2)) .nil))) .nil) (.cons (.set 2 (.cst (.int 0))) (.cons (.loop (.nm 3) .range1 (.cons false (.bin .Add (.cst (.int 1)) (.bin .FloorDiv (.met "bit_length" (.var 1) .nil) (.cst (.int 28)))) .nil) (.cons (.six (.var 0) (.cst (.int 2)) (.bin .Add (.ix (.var 0) (.cst (.int 2))) (.cst (.int 1)))) (.cons (.set 2 (.bin .Add (.bin .Mult (.var 2) (.cst (.int 2147483579))) (.call false "_law_mixed" (.cons false (.ix (.var 0) (.cst (.int 1))) (.cons false (.ix (.var 0) (.cst (.int 2))) .nil))))) .nil))) (.cons (.ret (.bin .Mod (.blt "int" (.cons false (.var 2) .nil)) (.var 1))) .nil))))⟩
def t__law_take : TD where
  d := dd "_law_take" 26
  N := ["_law_pile_here", "_law_size", "_law_digit", "_law_j"]
  ps := ["_law_pile_here", "_law_size"]
  F := v__law_take
  at_ := rfl
  dfl := rfl
  kwd := rfl
  bnd := fun kV doc pm an cdv ct us h => by
    obtain ⟨u0, u1, rfl⟩ := Wk.len2 h
    kernel_rfl
def v__law_pick : Fn := ⟨2, 2, (.cons (.ret (.ix (.var 1) (.call false "_law_take" (.cons false (.var 0) (.cons false (.blt "len" (.cons false (.var 1) .nil)) .nil))))) .nil)⟩
def t__law_pick : TD where
  d := dd "_law_pick" 27
  N := ["_law_pile_here", "_law_some"]
  ps := ["_law_pile_here", "_law_some"]
  F := v__law_pick
  at_ := rfl
  dfl := rfl
  kwd := rfl
  bnd := fun kV doc pm an cdv ct us h => by
    obtain ⟨u0, u1, rfl⟩ := Wk.len2 h
    kernel_rfl
def v__law_once : Fn := ⟨3, 1, (.cons (.set 1 (.dct true .nil)) (.cons (.loop (.nm 2) .val (.cons false (.var 0) .nil) (.cons (.six (.var 1) (.var 2) (.cst (.bl true))) .nil)) (.cons (.ret (.lc false (.var 2) (.nm 2) .val (.cons false (.var 1) .nil) false (.cst .non) [("_law_one", 2)])) .nil)))⟩
def t__law_once : TD where
  d := dd "_law_once" 28
  N := ["_law_some", "_law_kept", "_law_one"]
  ps := ["_law_some"]
  F := v__law_once
  at_ := rfl
  dfl := rfl
  kwd := rfl
  bnd := fun kV doc pm an cdv ct us h => by
    obtain ⟨u0, rfl⟩ := Wk.len1 h
    kernel_rfl
def v__law_ascending : Fn := ⟨4, 1, (.cons (.set 1 (.lst true .nil)) (.cons (.loop (.nm 2) .val (.cons false (.var 0) .nil) (.cons (.ex (.met "insert" (.var 1) (.cons false (.blt "len" (.cons false (.lc false (.var 3) (.nm 3) .val (.cons false (.var 1) .nil) true (.cmp .Lt (.var 3) (.var 2)) [("_law_other", 3)]) .nil)) (.cons false (.var 2) .nil)))) .nil)) (.cons (.ret (.var 1)) .nil)))⟩
def t__law_ascending : TD where
  d := dd "_law_ascending" 29
  N := ["_law_some", "_law_found", "_law_one", "_law_other"]
  ps := ["_law_some"]
  F := v__law_ascending
  at_ := rfl
  dfl := rfl
  kwd := rfl
  bnd := fun kV doc pm an cdv ct us h => by
    obtain ⟨u0, rfl⟩ := Wk.len1 h
    kernel_rfl
def v__law_letters : Fn := ⟨1, 1, (.cons (.ret (.ix (.lst false (.cons false (.lst false (.cons false (.cst (.str "a")) (.cons false (.cst (.str "b")) .nil))) (.cons false (.lst false (.cons false (.cst (.str "a")) (.cons false (.cst (.str "b")) .nil))) (.cons false (.lst false (.cons false (.cst (.str "a")) .nil)) (.cons false (.lst false (.cons false (.cst (.str "a")) (.cons false (.cst (.str "b")) (.cons false (.cst (.str "cc")) .nil)))) .nil))))) (.call false "_law_take" (.cons false (.var 0) (.cons false (.cst (.int 4)) .nil))))) .nil)⟩
def t__law_letters : TD where
  d := dd "_law_letters" 30
  N := ["_law_pile_here"]
  ps := ["_law_pile_here"]
  F := v__law_letters
  at_ := rfl
  dfl := rfl
  kwd := rfl
  bnd := fun kV doc pm an cdv ct us h => by
    obtain ⟨u0, rfl⟩ := Wk.len1 h
    kernel_rfl
def v__law_steps : Fn := ⟨6, 4, (.cons (.set 4 (.lc false (.tup (.cons false (.call false "_law_take" (.cons false (.var 0) (.cons false (.var 1) .nil))) (.cons false (.call false "_law_take" (.cons false (.var 0) (.cons false (.var 2) .nil))) .nil))) (.nm 5) .range1 (.cons false (.var 3) .nil) false (.cst .non) [("_law_j", 5)])) (.cons (.ret (.blt "tuple" (.cons false (.call false "_law_ascending" (.cons false (.call false "_law_once" (.cons false (.var 4) .nil)) .nil)) .nil))) .nil))⟩
def t__law_steps : TD where
  d := dd "_law_steps" 31
  N := ["_law_pile_here", "_law_many", "_law_size", "_law_count", "_law_steps_here", "_law_j"]
  ps := ["_law_pile_here", "_law_many", "_law_size", "_law_count"]
  F := v__law_steps
  at_ := rfl
  dfl := rfl
  kwd := rfl
  bnd := fun kV doc pm an cdv ct us h => by
    obtain ⟨u0, u1, u2, u3, rfl⟩ := Wk.len4 h
    kernel_rfl
def v__law_schema : Fn := ⟨12, 3, (.cons (.set 3 (.blt "min" (.cons false (.bin .Add (.cst (.int 1)) (.call false "_law_take" (.cons false (.var 0) (.cons false (.var 2) .nil)))) (.cons false (.bin .Add (.cst (.int 2)) (.blt "len" (.cons false (.var 1) .nil))) .nil)))) (.cons (.set 4 (.lst true .nil)) (.cons (.loop (.nm 5) .range1 (.cons false (.var 3) .nil) (.cons (.set 7 (.ix (.lst false (.cons false (.cst (.int 1)) (.cons false (.cst (.int 1)) (.cons false (.cst (.int 2)) (.cons false (.cst (.int 2)) (.cons false (.cst (.int 3)) .nil)))))) (.call false "_law_take" (.cons false (.var 0) (.cons false (.cst (.int 5)) .nil))))) (.cons (.set 8 (.lst true .nil)) (.cons (.loop (.nm 9) .range1 (.cons false (.var 7) .nil) (.cons (.ex (.met "append" (.var 8) (.cons false (.tup (.cons false (.cmp .Gt (.call false "_law_take" (.cons false (.var 0) (.cons false (.cst (.int 3)) .nil))) (.cst (.int 0))) (.cons false (.call false "_law_steps" (.cons false (.var 0) (.cons false (.var 3) (.cons false (.var 7) (.cons false (.call false "_law_take" (.cons false (.var 0) (.cons false (.cst (.int 4)) .nil))) .nil))))) .nil))) .nil))) .nil)) (.cons (.set 10 (.call false "_law_take" (.cons false (.var 0) (.cons false (.blt "len" (.cons false (.var 1) .nil)) .nil)))) (.cons (.iff (.cmp .Gt (.met "count" (.lc false (.ix (.var 11) (.cst (.int 0))) (.nm 11) .val (.cons false (.var 4) .nil) false (.cst .non) [("_law_kind", 11)]) (.cons false (.ix (.var 1) (.var 10)) .nil)) (.cst (.int 2))) (.cons (.set 10 (.bin .Mod (.blt "int" (.cons false (.bin .Add (.var 10) (.cst (.int 1))) .nil)) (.blt "len" (.cons false (.var 1) .nil)))) .nil) .nil) (.cons (.ex (.met "append" (.var 4) (.cons false (.tup (.cons false (.ix (.var 1) (.var 10)) (.cons false (.blt "tuple" (.cons false (.var 8) .nil)) .nil))) .nil))) .nil))))))) (.cons (.set 6 (.lc false (.var 5) (.nm 5) .range1 (.cons false (.var 3) .nil) true (.or (.cmp .Eq (.var 5) (.cst (.int 0))) (.cmp .Eq (.call false "_law_take" (.cons false (.var 0) (.cons false (.cst (.int 3)) .nil))) (.cst (.int 0)))) [("_law_k", 5)])) (.cons (.ret (.tup (.cons false (.blt "tuple" (.cons false (.var 6) .nil)) (.cons false (.blt "tuple" (.cons false (.var 4) .nil)) .nil)))) .nil)))))⟩
def t__law_schema : TD where
  d := dd "_law_schema" 32
  N := ["_law_pile_here", "_law_letters_here", "_law_most", "_law_many", "_law_kinds", "_law_k", "_law_tops", "_law_size", "_law_states", "_law_s", "_law_which", "_law_kind"]
  ps := ["_law_pile_here", "_law_letters_here", "_law_most"]
  F := v__law_schema
  at_ := rfl
  dfl := rfl
  kwd := rfl
  bnd := fun kV doc pm an cdv ct us h => by
    obtain ⟨u0, u1, u2, rfl⟩ := Wk.len3 h
    kernel_rfl
def v__law_wayed : Fn := ⟨16, 3, (.cons (.set 3 (.bin .Add (.cst (.int 1)) (.call false "_law_take" (.cons false (.var 0) (.cons false (.var 2) .nil))))) (.cons (.set 4 (.lc false (.ix (.var 1) (.call false "_law_take" (.cons false (.var 0) (.cons false (.blt "len" (.cons false (.var 1) .nil)) .nil)))) (.nm 6) .range1 (.cons false (.var 3) .nil) false (.cst .non) [("_law_k", 6)])) (.cons (.set 5 (.lst true .nil)) (.cons (.loop (.nm 6) .range1 (.cons false (.var 3) .nil) (.cons (.set 8 (.bin .Add (.cst (.int 1)) (.call false "_law_take" (.cons false (.var 0) (.cons false (.cst (.int 3)) .nil))))) (.cons (.set 9 (.lc false (.call false "_law_take" (.cons false (.var 0) (.cons false (.var 3) .nil))) (.nm 14) .range1 (.cons false (.cst (.int 2)) .nil) false (.cst .non) [("_law_j", 14)])) (.cons (.set 10 (.lc false (.ix (.var 9) (.var 14)) (.nm 14) .range1 (.cons false (.cst (.int 2)) .nil) true (.cmp .NotIn (.ix (.var 4) (.ix (.var 9) (.var 14))) (.lc false (.ix (.var 4) (.var 15)) (.nm 15) .val (.cons false (.sl (.var 9) (.cst .non) (.var 14)) .nil) false (.cst .non) [("_law_other", 15)])) [("_law_j", 14)])) (.cons (.set 11 (.lst true .nil)) (.cons (.loop (.nm 12) .range1 (.cons false (.var 8) .nil) (.cons (.set 13 (.lc false (.tup (.cons false (.call false "_law_pick" (.cons false (.var 0) (.cons false (.var 10) .nil))) (.cons false (.call false "_law_take" (.cons false (.var 0) (.cons false (.var 8) .nil))) .nil))) (.nm 14) .range1 (.cons false (.call false "_law_take" (.cons false (.var 0) (.cons false (.cst (.int 3)) .nil))) .nil) false (.cst .non) [("_law_j", 14)])) (.cons (.ex (.met "append" (.var 11) (.cons false (.tup (.cons false (.cmp .Gt (.call false "_law_take" (.cons false (.var 0) (.cons false (.cst (.int 3)) .nil))) (.cst (.int 0))) (.cons false (.blt "tuple" (.cons false (.call false "_law_ascending" (.cons false (.call false "_law_once" (.cons false (.var 13) .nil)) .nil)) .nil)) .nil))) .nil))) .nil))) (.cons (.ex (.met "append" (.var 5) (.cons false (.tup (.cons false (.ix (.var 4) (.var 6)) (.cons false (.blt "tuple" (.cons false (.var 11) .nil)) .nil))) .nil))) .nil))))))) (.cons (.set 7 (.lc false (.var 6) (.nm 6) .range1 (.cons false (.var 3) .nil) true (.and (.cmp .NotIn (.ix (.var 4) (.var 6)) (.sl (.var 4) (.cst .non) (.var 6))) (.or (.cmp .Eq (.var 6) (.cst (.int 0))) (.cmp .Eq (.call false "_law_take" (.cons false (.var 0) (.cons false (.cst (.int 2)) .nil))) (.cst (.int 0))))) [("_law_k", 6)])) (.cons (.ret (.tup (.cons false (.blt "tuple" (.cons false (.var 7) .nil)) (.cons false (.blt "tuple" (.cons false (.var 5) .nil)) .nil)))) .nil))))))⟩
def t__law_wayed : TD where
  d := dd "_law_wayed" 33
  N := ["_law_pile_here", "_law_letters_here", "_law_most", "_law_many", "_law_names", "_law_kinds", "_law_k", "_law_tops", "_law_size", "_law_chosen", "_law_some", "_law_states", "_law_s", "_law_steps_here", "_law_j", "_law_other"]
  ps := ["_law_pile_here", "_law_letters_here", "_law_most"]
  F := v__law_wayed
  at_ := rfl
  dfl := rfl
  kwd := rfl
  bnd := fun kV doc pm an cdv ct us h => by
    obtain ⟨u0, u1, u2, rfl⟩ := Wk.len3 h
    kernel_rfl
def v__law_flags : Fn := ⟨2, 1, (.cons (.set 1 (.lst false (.cons false (.isx (.var 0) "NoDocument" [] ["NoSchema"]) (.cons false (.isx (.var 0) "NoSchema" ["NoSchema"] []) (.cons false (.isx (.var 0) "NoPlace" [] ["NoSchema"]) .nil))))) (.cons (.ret (.bin .Add (.var 1) (.lst false (.cons false (.isx (.var 0) "NoKind" [] ["NoSchema"]) (.cons false (.isx (.var 0) "NotByWay" [] ["NoSchema"]) .nil))))) .nil))⟩
def t__law_flags : TD where
  d := dd "_law_flags" 34
  N := ["_law_caught", "_law_flags_here"]
  ps := ["_law_caught"]
  F := v__law_flags
  at_ := rfl
  dfl := rfl
  kwd := rfl
  bnd := fun kV doc pm an cdv ct us h => by
    obtain ⟨u0, rfl⟩ := Wk.len1 h
    kernel_rfl
def v__law_error : Fn := ⟨2, 1, (.cons (.iff (.cmp .Is (.var 0) (.cst .non)) (.cons (.ret (.cst (.str ""))) .nil) .nil) (.cons (.set 1 (.call false "_law_flags" (.cons false (.var 0) .nil))) (.cons (.iff (.or (.cmp .NotEq (.met "count" (.var 1) (.cons false (.cst (.bl true)) .nil)) (.cst (.int 1))) (.or (.not (.isx (.var 0) "WaysError" ["NoSchema"] [])) (.not (.isx (.var 0) "ValueError" ["NoSchema"] [])))) (.cons (.ret (.cst (.str "other"))) .nil) .nil) (.cons (.ret (.ix (.lst false (.cons false (.cst (.str "document")) (.cons false (.cst (.str "schema")) (.cons false (.cst (.str "place")) (.cons false (.cst (.str "kind")) (.cons false (.cst (.str "byway")) .nil)))))) (.met "index" (.var 1) (.cons false (.cst (.bl true)) .nil)))) .nil))))⟩
def t__law_error : TD where
  d := dd "_law_error" 35
  N := ["_law_caught", "_law_flags_here"]
  ps := ["_law_caught"]
  F := v__law_error
  at_ := rfl
  dfl := rfl
  kwd := rfl
  bnd := fun kV doc pm an cdv ct us h => by
    obtain ⟨u0, rfl⟩ := Wk.len1 h
    kernel_rfl
def v__law_bad_schemas : Fn := ⟨4, 0, (.cons (.set 0 (.tup (.cons false (.cst (.str "a")) (.cons false (.tup (.cons false (.tup (.cons false (.cst (.bl true)) (.cons false (.tup .nil) .nil))) .nil)) .nil)))) (.cons (.set 1 (.lst true (.cons false (.cst .non) (.cons false (.cst (.int 0)) (.cons false (.cst (.bl true)) (.cons false (.cst (.str "")) (.cons false (.tup .nil) (.cons false (.lst false .nil) (.cons false (.tup (.cons false (.tup (.cons false (.cst (.int 0)) .nil)) .nil)) (.cons false (.tup (.cons false (.tup (.cons false (.cst (.int 0)) .nil)) (.cons false (.tup .nil) .nil))) (.cons false (.tup (.cons false (.tup .nil) (.cons false (.tup .nil) .nil))) (.cons false (.lst false (.cons false (.tup (.cons false (.cst (.int 0)) .nil)) (.cons false (.tup (.cons false (.var 0) .nil)) .nil))) (.cons false (.tup (.cons false (.tup (.cons false (.cst (.int 0)) .nil)) (.cons false (.lst false (.cons false (.var 0) .nil)) .nil))) (.cons false (.tup (.cons false (.lst false (.cons false (.cst (.int 0)) .nil)) (.cons false (.tup (.cons false (.var 0) .nil)) .nil))) .nil)))))))))))))) (.cons (.set 1 (.cat (.var 1) (.lst false (.cons false (.tup (.cons false (.tup (.cons false (.cst (.int 1)) .nil)) (.cons false (.tup (.cons false (.var 0) .nil)) .nil))) (.cons false (.tup (.cons false (.tup (.cons false (.neg (.cst (.int 1))) .nil)) (.cons false (.tup (.cons false (.var 0) .nil)) .nil))) (.cons false (.tup (.cons false (.tup (.cons false (.cst (.bl true)) .nil)) (.cons false (.tup (.cons false (.var 0) .nil)) .nil))) (.cons false (.tup (.cons false (.tup (.cons false (.cst (.int 0)) (.cons false (.cst (.int 0)) .nil))) (.cons false (.tup (.cons false (.var 0) .nil)) .nil))) (.cons false (.tup (.cons false (.tup (.cons false (.cst (.int 1)) (.cons false (.cst (.int 0)) .nil))) (.cons false (.tup (.cons false (.var 0) (.cons false (.var 0) .nil))) .nil))) .nil)))))))) (.cons (.set 1 (.cat (.var 1) (.lst false (.cons false (.tup (.cons false (.tup (.cons false (.cst .non) .nil)) (.cons false (.tup (.cons false (.var 0) .nil)) .nil))) (.cons false (.tup (.cons false (.tup (.cons false (.cst (.str "0")) .nil)) (.cons false (.tup (.cons false (.var 0) .nil)) .nil))) (.cons false (.tup (.cons false (.cst (.int 0)) (.cons false (.tup (.cons false (.var 0) .nil)) .nil))) (.cons false (.tup (.cons false (.tup (.cons false (.cst (.int 0)) .nil)) (.cons false (.var 0) .nil))) (.cons false (.tup (.cons false (.tup (.cons false (.cst (.int 0)) .nil)) (.cons false (.tup (.cons false (.var 0) .nil)) (.cons false (.cst (.int 0)) .nil)))) .nil)))))))) (.cons (.ex (.met "append" (.var 1) (.cons false (.tup (.cons false (.tup (.cons false (.cst (.int 0)) .nil)) (.cons false (.tup (.cons false (.cst .non) .nil)) .nil))) .nil))) (.cons (.loop (.nm 2) .val (.cons false (.lst false (.cons false (.tup (.cons false (.cst (.str "a1")) (.cons false (.tup (.cons false (.tup (.cons false (.cst (.bl true)) (.cons false (.tup .nil) .nil))) .nil)) .nil))) (.cons false (.tup (.cons false (.cst (.str "a b")) (.cons false (.tup (.cons false (.tup (.cons false (.cst (.bl true)) (.cons false (.tup .nil) .nil))) .nil)) .nil))) (.cons false (.tup (.cons false (.bin .Mult (.cst (.str "a")) (.cst (.int 13))) (.cons false (.tup (.cons false (.tup (.cons false (.cst (.bl true)) (.cons false (.tup .nil) .nil))) .nil)) .nil))) .nil)))) .nil) (.cons (.ex (.met "append" (.var 1) (.cons false (.tup (.cons false (.tup (.cons false (.cst (.int 0)) .nil)) (.cons false (.tup (.cons false (.var 2) (.cons false (.var 0) .nil))) .nil))) .nil))) .nil)) (.cons (.loop (.nm 2) .val (.cons false (.lst false (.cons false (.tup (.cons false (.cst (.str "A")) (.cons false (.tup (.cons false (.tup (.cons false (.cst (.bl true)) (.cons false (.tup .nil) .nil))) .nil)) .nil))) (.cons false (.tup (.cons false (.cst (.str "")) (.cons false (.tup (.cons false (.tup (.cons false (.cst (.bl true)) (.cons false (.tup .nil) .nil))) .nil)) .nil))) (.cons false (.tup (.cons false (.cst (.str "a")) (.cons false (.tup .nil) .nil))) (.cons false (.tup (.cons false (.cst (.str "a")) (.cons false (.cst .non) .nil))) (.cons false (.tup (.cons false (.cst (.str "a")) (.cons false (.lst false (.cons false (.tup (.cons false (.cst (.bl true)) (.cons false (.tup .nil) .nil))) .nil)) .nil))) (.cons false (.tup (.cons false (.cst (.str "a")) .nil)) .nil))))))) .nil) (.cons (.set 1 (.cat (.var 1) (.lst false (.cons false (.tup (.cons false (.tup (.cons false (.cst (.int 0)) .nil)) (.cons false (.tup (.cons false (.var 2) .nil)) .nil))) (.cons false (.tup (.cons false (.tup (.cons false (.cst (.int 0)) .nil)) (.cons false (.tup (.cons false (.var 0) (.cons false (.var 2) .nil))) .nil))) (.cons false (.tup (.cons false (.tup (.cons false (.cst (.int 0)) .nil)) (.cons false (.tup (.cons false (.var 2) (.cons false (.var 0) .nil))) .nil))) .nil)))))) .nil)) (.cons (.loop (.nm 2) .val (.cons false (.lst false (.cons false (.tup (.cons false (.cst (.int 1)) (.cons false (.tup .nil) .nil))) (.cons false (.tup (.cons false (.cst .non) (.cons false (.tup .nil) .nil))) (.cons false (.tup (.cons false (.cst (.bl true)) .nil)) (.cons false (.tup (.cons false (.cst (.bl true)) (.cons false (.tup .nil) (.cons false (.tup .nil) .nil)))) (.cons false (.lst false (.cons false (.cst (.bl true)) (.cons false (.tup .nil) .nil))) (.cons false (.tup (.cons false (.cst (.bl true)) (.cons false (.lst false .nil) .nil))) (.cons false (.tup (.cons false (.cst (.bl true)) (.cons false (.cst .non) .nil))) (.cons false (.tup (.cons false (.cst (.bl true)) (.cons false (.tup (.cons false (.tup (.cons false (.cst (.int 0)) .nil)) .nil)) .nil))) .nil))))))))) .nil) (.cons (.set 1 (.cat (.var 1) (.lst false (.cons false (.tup (.cons false (.tup (.cons false (.cst (.int 0)) .nil)) (.cons false (.tup (.cons false (.tup (.cons false (.cst (.str "a")) (.cons false (.tup (.cons false (.var 2) .nil)) .nil))) .nil)) .nil))) (.cons false (.tup (.cons false (.tup (.cons false (.cst (.int 0)) .nil)) (.cons false (.tup (.cons false (.var 0) (.cons false (.tup (.cons false (.cst (.str "b")) (.cons false (.tup (.cons false (.tup (.cons false (.cst (.bl true)) (.cons false (.tup .nil) .nil))) (.cons false (.var 2) .nil))) .nil))) .nil))) .nil))) .nil))))) .nil)) (.cons (.set 3 (.lst false (.cons false (.tup (.cons false (.cst (.int 1)) (.cons false (.cst (.int 0)) .nil))) (.cons false (.tup (.cons false (.cst (.int 0)) (.cons false (.cst (.int 1)) .nil))) (.cons false (.tup (.cons false (.neg (.cst (.int 1))) (.cons false (.cst (.int 0)) .nil))) (.cons false (.tup (.cons false (.cst (.int 0)) (.cons false (.neg (.cst (.int 1))) .nil))) (.cons false (.tup (.cons false (.cst (.bl true)) (.cons false (.cst (.int 0)) .nil))) (.cons false (.tup (.cons false (.cst (.int 0)) (.cons false (.cst (.bl false)) .nil))) (.cons false (.tup (.cons false (.cst .non) (.cons false (.cst (.int 0)) .nil))) (.cons false (.tup (.cons false (.cst (.str "0")) (.cons false (.cst (.int 0)) .nil))) (.cons false (.tup (.cons false (.cst (.int 0)) (.cons false (.cst (.str "0")) .nil))) (.cons false (.lst false (.cons false (.cst (.int 0)) (.cons false (.cst (.int 0)) .nil))) (.cons false (.cst (.int 0)) .nil))))))))))))) (.cons (.loop (.nm 2) .val (.cons false (.bin .Add (.var 3) (.lst false (.cons false (.tup (.cons false (.cst (.int 0)) (.cons false (.cst (.int 0)) (.cons false (.cst (.int 0)) .nil)))) (.cons false (.tup (.cons false (.cst (.bl false)) (.cons false (.cst (.int 0)) .nil))) .nil)))) .nil) (.cons (.set 1 (.cat (.var 1) (.lst false (.cons false (.tup (.cons false (.tup (.cons false (.cst (.int 0)) .nil)) (.cons false (.tup (.cons false (.tup (.cons false (.cst (.str "a")) (.cons false (.tup (.cons false (.tup (.cons false (.cst (.bl true)) (.cons false (.tup (.cons false (.var 2) .nil)) .nil))) .nil)) .nil))) .nil)) .nil))) .nil)))) .nil)) (.cons (.set 1 (.cat (.var 1) (.lst false (.cons false (.tup (.cons false (.tup (.cons false (.cst (.int 0)) .nil)) (.cons false (.tup (.cons false (.tup (.cons false (.cst (.str "a")) (.cons false (.tup (.cons false (.tup (.cons false (.cst (.bl true)) (.cons false (.tup (.cons false (.tup (.cons false (.cst (.int 0)) (.cons false (.cst (.int 0)) .nil))) (.cons false (.tup (.cons false (.cst (.int 0)) (.cons false (.cst (.int 0)) .nil))) .nil))) .nil))) .nil)) .nil))) .nil)) .nil))) (.cons false (.tup (.cons false (.tup .nil) (.cons false (.tup (.cons false (.var 0) (.cons false (.tup (.cons false (.cst (.str "a")) (.cons false (.tup (.cons false (.tup (.cons false (.cst (.bl true)) (.cons false (.tup (.cons false (.tup (.cons false (.cst (.int 1)) (.cons false (.cst (.int 0)) .nil))) (.cons false (.tup (.cons false (.cst (.int 0)) (.cons false (.cst (.int 0)) .nil))) .nil))) .nil))) .nil)) .nil))) .nil))) .nil))) .nil))))) (.cons (.set 1 (.cat (.var 1) (.lst false (.cons false (.tup (.cons false (.tup (.cons false (.cst (.int 0)) .nil)) (.cons false (.tup (.cons false (.tup (.cons false (.cst (.str "a")) (.cons false (.tup (.cons false (.tup (.cons false (.cst (.bl true)) (.cons false (.tup .nil) .nil))) .nil)) (.cons false (.cst (.int 0)) .nil)))) .nil)) .nil))) (.cons false (.tup (.cons false (.tup (.cons false (.cst (.int 0)) .nil)) (.cons false (.tup (.cons false (.tup (.cons false (.cst (.str "a")) (.cons false (.tup (.cons false (.tup (.cons false (.cst (.bl true)) (.cons false (.tup (.cons false (.tup (.cons false (.cst (.bl true)) (.cons false (.cst (.int 0)) .nil))) .nil)) .nil))) .nil)) .nil))) (.cons false (.tup (.cons false (.cst (.str "b")) (.cons false (.tup (.cons false (.tup (.cons false (.cst (.bl true)) (.cons false (.tup .nil) .nil))) .nil)) .nil))) .nil))) .nil))) .nil))))) (.cons (.ret (.bin .Add (.var 1) (.lst false (.cons false (.tup (.cons false (.tup (.cons false (.cst (.int 0)) .nil)) (.cons false (.tup (.cons false (.lst false (.cons false (.cst (.str "a")) (.cons false (.tup (.cons false (.tup (.cons false (.cst (.bl true)) (.cons false (.tup .nil) .nil))) .nil)) .nil))) .nil)) .nil))) (.cons false (.tup (.cons false (.tup (.cons false (.cst (.int 0)) .nil)) (.cons false (.tup (.cons false (.tup (.cons false (.lst false (.cons false (.cst (.str "a")) .nil)) (.cons false (.tup (.cons false (.tup (.cons false (.cst (.bl true)) (.cons false (.tup .nil) .nil))) .nil)) .nil))) .nil)) .nil))) .nil))))) .nil)))))))))))))⟩
def t__law_bad_schemas : TD where
  d := dd "_law_bad_schemas" 36
  N := ["_law_leaf", "_law_found", "_law_odd", "_law_odds"]
  ps := []
  F := v__law_bad_schemas
  at_ := rfl
  dfl := rfl
  kwd := rfl
  bnd := fun kV doc pm an cdv ct us h => by
    obtain ⟨rfl⟩ := Wk.len0 h
    kernel_rfl
def v__law_word : Fn := ⟨6, 3, (.cons (.set 3 (.blt "repr" (.cons false (.lst false (.cons false (.var 1) (.cons false (.var 2) .nil))) .nil))) (.cons (.set 4 (.cst .non)) (.cons (.try_ (.cons (.iff (.cmp .Eq (.var 0) (.cst (.int 0))) (.cons (.ex (.call false "joined" (.cons false (.var 1) (.cons false (.var 2) .nil)))) .nil) (.cons (.ex (.call false "cut" (.cons false (.var 1) (.cons false (.var 2) .nil)))) .nil)) .nil) "WaysError" ["NoSchema"] 5 4) (.cons (.iff (.cmp .NotEq (.blt "repr" (.cons false (.lst false (.cons false (.var 1) (.cons false (.var 2) .nil))) .nil)) (.var 3)) (.cons (.ret (.cst (.str "changed"))) .nil) .nil) (.cons (.ret (.call false "_law_error" (.cons false (.var 4) .nil))) .nil)))))⟩
def t__law_word : TD where
  d := dd "_law_word" 37
  N := ["_law_which", "_law_one", "_law_other", "_law_kept", "_law_caught", "e"]
  ps := ["_law_which", "_law_one", "_law_other"]
  F := v__law_word
  at_ := rfl
  dfl := rfl
  kwd := rfl
  bnd := fun kV doc pm an cdv ct us h => by
    obtain ⟨u0, u1, u2, rfl⟩ := Wk.len3 h
    kernel_rfl
def v_law : Fn := ⟨8, 1, (.cons (.loop (.nm 1) .range1 (.cons false (.blt "max" (.cons false (.cst (.int 2)) (.cons false (.blt "min" (.cons false (.blt "len" (.cons false (.var 0) .nil)) (.cons false (.cst (.int 4)) .nil))) .nil))) .nil) (.cons (.set 2 (.call true "_law_pile" (.cons false (.var 0) (.cons false (.var 1) .nil)))) (.cons (.set 3 (.call false "_law_letters" (.cons false (.var 2) .nil))) (.cons (.unp (.tp (.cons (.nm 5) (.cons (.nm 6) .nil))) (.tup (.cons false (.call false "_law_schema" (.cons false (.var 2) (.cons false (.var 3) (.cons false (.cst (.int 3)) .nil)))) (.cons false (.call false "_law_wayed" (.cons false (.var 2) (.cons false (.var 3) (.cons false (.cst (.int 3)) .nil)))) .nil)))) (.cons (.loop (.nm 4) .val (.cons false (.call false "_law_bad_schemas" .nil) .nil) (.cons (.set 7 (.lst false (.cons false (.call false "_law_word" (.cons false (.cst (.int 0)) (.cons false (.var 4) (.cons false (.var 6) .nil)))) (.cons false (.call false "_law_word" (.cons false (.cst (.int 0)) (.cons false (.var 5) (.cons false (.var 4) .nil)))) (.cons false (.call false "_law_word" (.cons false (.cst (.int 0)) (.cons false (.var 4) (.cons false (.cst .non) .nil)))) (.cons false (.call false "_law_word" (.cons false (.cst (.int 1)) (.cons false (.var 4) (.cons false (.var 6) .nil)))) .nil)))))) (.cons (.iff (.cmp .NotEq (.bin .Add (.var 7) (.lst false (.cons false (.call false "_law_word" (.cons false (.cst (.int 1)) (.cons false (.var 5) (.cons false (.var 4) .nil)))) (.cons false (.call false "_law_word" (.cons false (.cst (.int 1)) (.cons false (.var 4) (.cons false (.cst .non) .nil)))) .nil)))) (.bin .Mult (.lst false (.cons false (.cst (.str "schema")) .nil)) (.cst (.int 6)))) (.cons (.ret (.cst (.bl false))) .nil) .nil) .nil))) (.cons (.iff (.cmp .NotEq (.lst false (.cons false (.call false "_law_word" (.cons false (.cst (.int 0)) (.cons false (.var 5) (.cons false (.var 6) .nil)))) (.cons false (.call false "_law_word" (.cons false (.cst (.int 1)) (.cons false (.var 5) (.cons false (.var 6) .nil)))) (.cons false (.call false "_law_word" (.cons false (.cst (.int 1)) (.cons false (.var 6) (.cons false (.var 6) .nil)))) .nil)))) (.bin .Mult (.lst false (.cons false (.cst (.str "")) .nil)) (.cst (.int 3)))) (.cons (.ret (.cst (.bl false))) .nil) .nil) .nil)))))) (.cons (.ret (.cst (.bl true))) .nil))⟩
def t_law : TD where
  d := dd "law" 38
  N := ["_law_script", "_law_k", "_law_pile_here", "_law_letters_here", "_law_bad", "_law_one", "_law_other", "_law_told"]
  ps := ["_law_script"]
  F := v_law
  at_ := rfl
  dfl := rfl
  kwd := rfl
  bnd := fun kV doc pm an cdv ct us h => by
    obtain ⟨u0, rfl⟩ := Wk.len1 h
    kernel_rfl
def ts : List TD := [t_is_whole, t_is_name, t_is_ascending, t_is_step, t_is_state, t_is_kind, t_is_right_schema, t_look_at_schema, t_moved, t_joined, t_cut_states, t_cut, t__law_mixed, t__law_pile, t__law_take, t__law_pick, t__law_once, t__law_ascending, t__law_letters, t__law_steps, t__law_schema, t__law_wayed, t__law_flags, t__law_error, t__law_bad_schemas, t__law_word, t_law]
def cs : List (Str × D) := [("LETTERS", .str "abcdefghijklmnopqrstuvwxyz")]
def bl : List Str := ["all", "bool", "enumerate", "int", "isinstance", "len", "max", "min", "range", "repr", "sorted", "str", "sum", "tuple", "zip"]
def ex : List Str := ["NoSchema"]
def ix : List (Str × Str × Bool) := [("NoSchema", "NotByWay", false), ("NoSchema", "NoKind", false), ("NoSchema", "NoPlace", false), ("NoSchema", "NoSchema", true), ("NoSchema", "NoDocument", false), ("NoSchema", "ValueError", true), ("NoSchema", "WaysError", true)]
abbrev fa : List He.Fa := faAll ts cs bl ex
abbrev fn : List He.DefD := ts.map (·.d)
theorem ok : ts.all (TD.ok (txOf ts cs bl ex ix)) = true := by kernel_rfl
abbrev R : PySem.W.OpenRow := PySem.W.OpenLaw.row PySem.Challenge.rw_waykinds_k32_refused_joining
abbrev hk : PySem.W.Hook := Wk.hookX 4 fa fn ix
def ob (s : PySem.W.SharedT) : He.AlD × Bool := Wk.obsXG 4 fa fn ix (HandSHeadRun.getT s)
theorem ob_eq (s : PySem.W.SharedT) : ob s = hk.obs s.abs := Wk.obsXG_eq (HandSHeadRun.getT_eq s)
def nm0 : List PySem.Str := ["WaysError", "NoDocument", "NoSchema", "NoPlace", "NoKind", "NotByWay", "LETTERS", "is_whole", "is_name", "is_ascending", "is_step", "is_state", "is_kind", "is_right_schema", "look_at_schema", "moved", "joined", "cut_states", "cut", "_law_mixed", "_law_pile", "_law_take", "_law_pick", "_law_once", "_law_ascending", "_law_letters", "_law_steps", "_law_schema", "_law_wayed", "_law_flags"]
def nm1 : List PySem.Str := ["_law_error", "_law_bad_schemas", "_law_word"]
def nm : List PySem.Str := nm0 ++ nm1
theorem run (w : World) : HandSHeadRun.RunEq R (PySem.W.view R.prog [38]) hk ob 6900 nm w := by
  intro os
  kernel_rfl
end Hd
end
section
open Wk PySem
set_option maxRecDepth 100000
set_option maxHeartbeats 2000000
namespace Hd
local macro_rules
  | `(tactic| trivial) => `(tactic| first
    | exact Ev.cst
    | exact Ev.var rfl
    | exact EvA.nil
    | (apply EvA.cons <;> trivial)
    | (apply Ev.ix <;> trivial)
    | (apply Ev.isi' <;> trivial)
    | (apply Ev.not' <;> trivial)
    | (apply Ev.cmp <;> trivial)
    | (apply Ev.bin <;> trivial)
    | (apply Ev.blt <;> trivial)
    | (apply Ev.call <;> trivial)
    | (apply EvX.call <;> trivial)
    | (apply Ev.orF <;> trivial)
    | (apply Ev.orT <;> trivial)
    | (apply Ev.andT <;> trivial)
    | (apply Ev.andF <;> trivial)
    | (apply Es.ret <;> trivial)
    | (apply Es.exX <;> trivial)
    | (apply Es.ex <;> trivial)
    | (apply Es.set <;> trivial)
    | (apply Ess.er <;> trivial)
    | (apply Ess.nx <;> trivial)
    | (apply Ess.rt <;> trivial)
    | exact Ess.nil
    | (apply Es.iffF <;> trivial)
    | (apply Es.iffT <;> trivial)
    | assumption
    | rfl
    | (simp [cmpD]; done))
noncomputable def Cn (n : Nat) : Wk.Ctx := ⟨callN (fnsOf Hd.ts) (globsOf Hd.cs) n, globsOf Hd.cs⟩
theorem call_s {n : Nat} {f : Str} {F : Fn} {vs : List D} {st : Store} (h : fnsOf Hd.ts f = some F) : (Cn (n + 1)).call f vs st = runF (Cn n) F vs st := by
  show callN _ _ (n + 1) f vs st = _
  unfold callN; rw [h]; rfl
end Hd

end
section
open Wk PySem
set_option maxRecDepth 100000
set_option maxHeartbeats 0
namespace Hd
noncomputable def stOf : Option (Out D) → Store
  | some (.ok _ st) => st
  | _ => []
def pdB (d : D) : Bool := match d.toP with
  | some x => x.canLay0 && Nat.ble x.depth 10 && x.showable && Nat.ble x.shown.length 400 && x.shown.cps.toList.all (fun c => decide (c < 0x110000))
  | none => false
theorem pd_of {d : D} (h : pdB d = true) : Pd 10 400 d := by
  unfold pdB at h
  cases e : d.toP with
  | none => rw [e] at h; cases h
  | some x =>
    rw [e] at h
    simp only [Bool.and_eq_true] at h
    exact ⟨x, e, h.1.1.1.1, Nat.ble_eq.mp h.1.1.1.2, h.1.1.2, Nat.ble_eq.mp h.1.2, okS_lit h.2⟩
noncomputable def isX (n : Str) : Option (Out D) → Bool
  | some (.ex (.exc m []) []) => decide (m = n)
  | _ => false
theorem isX_ok {n : Str} {o : Option (Out D)} (h : isX n o = true) : o = some (.ex (.exc n []) []) := by
  unfold isX at h
  split at h
  · rw [of_decide_eq_true h]
  · cases h
noncomputable def cd (f : Str) (vs : List D) : Option (Out D) := callD (Cn 98) false f vs []
noncomputable def isK : Option (Out D) → Bool
  | some (.ok _ []) => true
  | _ => false
theorem isK_ok {o : Option (Out D)} (h : isK o = true) : ∃ d, o = some (.ok d []) := by
  unfold isK at h
  split at h
  · exact ⟨_, rfl⟩
  · cases h
end Hd

end
section
open Wk PySem
set_option maxRecDepth 100000
set_option maxHeartbeats 0
namespace Hd
def bss : List D := [.non,
  .int (0),
  .bl true,
  .str "",
  .tup [],
  .lst [],
  .tup [.tup [.int (0)]],
  .tup [.tup [.int (0)], .tup []],
  .tup [.tup [], .tup []],
  .lst [.tup [.int (0)], .tup [.tup [.str "a", .tup [.tup [.bl true, .tup []]]]]],
  .tup [.tup [.int (0)], .lst [.tup [.str "a", .tup [.tup [.bl true, .tup []]]]]],
  .tup [.lst [.int (0)], .tup [.tup [.str "a", .tup [.tup [.bl true, .tup []]]]]],
  .tup [.tup [.int (1)], .tup [.tup [.str "a", .tup [.tup [.bl true, .tup []]]]]],
  .tup [.tup [.int (-1)], .tup [.tup [.str "a", .tup [.tup [.bl true, .tup []]]]]],
  .tup [.tup [.bl true], .tup [.tup [.str "a", .tup [.tup [.bl true, .tup []]]]]],
  .tup [.tup [.int (0), .int (0)], .tup [.tup [.str "a", .tup [.tup [.bl true, .tup []]]]]],
  .tup [.tup [.int (1), .int (0)], .tup [.tup [.str "a", .tup [.tup [.bl true, .tup []]]], .tup [.str "a", .tup [.tup [.bl true, .tup []]]]]],
  .tup [.tup [.non], .tup [.tup [.str "a", .tup [.tup [.bl true, .tup []]]]]],
  .tup [.tup [.str "0"], .tup [.tup [.str "a", .tup [.tup [.bl true, .tup []]]]]],
  .tup [.int (0), .tup [.tup [.str "a", .tup [.tup [.bl true, .tup []]]]]],
  .tup [.tup [.int (0)], .tup [.str "a", .tup [.tup [.bl true, .tup []]]]],
  .tup [.tup [.int (0)], .tup [.tup [.str "a", .tup [.tup [.bl true, .tup []]]]], .int (0)],
  .tup [.tup [.int (0)], .tup [.non]],
  .tup [.tup [.int (0)], .tup [.tup [.str "a1", .tup [.tup [.bl true, .tup []]]], .tup [.str "a", .tup [.tup [.bl true, .tup []]]]]],
  .tup [.tup [.int (0)], .tup [.tup [.str "a b", .tup [.tup [.bl true, .tup []]]], .tup [.str "a", .tup [.tup [.bl true, .tup []]]]]],
  .tup [.tup [.int (0)], .tup [.tup [.str "aaaaaaaaaaaaa", .tup [.tup [.bl true, .tup []]]], .tup [.str "a", .tup [.tup [.bl true, .tup []]]]]],
  .tup [.tup [.int (0)], .tup [.tup [.str "A", .tup [.tup [.bl true, .tup []]]]]],
  .tup [.tup [.int (0)], .tup [.tup [.str "a", .tup [.tup [.bl true, .tup []]]], .tup [.str "A", .tup [.tup [.bl true, .tup []]]]]],
  .tup [.tup [.int (0)], .tup [.tup [.str "A", .tup [.tup [.bl true, .tup []]]], .tup [.str "a", .tup [.tup [.bl true, .tup []]]]]],
  .tup [.tup [.int (0)], .tup [.tup [.str "", .tup [.tup [.bl true, .tup []]]]]],
  .tup [.tup [.int (0)], .tup [.tup [.str "a", .tup [.tup [.bl true, .tup []]]], .tup [.str "", .tup [.tup [.bl true, .tup []]]]]],
  .tup [.tup [.int (0)], .tup [.tup [.str "", .tup [.tup [.bl true, .tup []]]], .tup [.str "a", .tup [.tup [.bl true, .tup []]]]]],
  .tup [.tup [.int (0)], .tup [.tup [.str "a", .tup []]]],
  .tup [.tup [.int (0)], .tup [.tup [.str "a", .tup [.tup [.bl true, .tup []]]], .tup [.str "a", .tup []]]],
  .tup [.tup [.int (0)], .tup [.tup [.str "a", .tup []], .tup [.str "a", .tup [.tup [.bl true, .tup []]]]]],
  .tup [.tup [.int (0)], .tup [.tup [.str "a", .non]]],
  .tup [.tup [.int (0)], .tup [.tup [.str "a", .tup [.tup [.bl true, .tup []]]], .tup [.str "a", .non]]],
  .tup [.tup [.int (0)], .tup [.tup [.str "a", .non], .tup [.str "a", .tup [.tup [.bl true, .tup []]]]]],
  .tup [.tup [.int (0)], .tup [.tup [.str "a", .lst [.tup [.bl true, .tup []]]]]],
  .tup [.tup [.int (0)], .tup [.tup [.str "a", .tup [.tup [.bl true, .tup []]]], .tup [.str "a", .lst [.tup [.bl true, .tup []]]]]],
  .tup [.tup [.int (0)], .tup [.tup [.str "a", .lst [.tup [.bl true, .tup []]]], .tup [.str "a", .tup [.tup [.bl true, .tup []]]]]],
  .tup [.tup [.int (0)], .tup [.tup [.str "a"]]],
  .tup [.tup [.int (0)], .tup [.tup [.str "a", .tup [.tup [.bl true, .tup []]]], .tup [.str "a"]]],
  .tup [.tup [.int (0)], .tup [.tup [.str "a"], .tup [.str "a", .tup [.tup [.bl true, .tup []]]]]],
  .tup [.tup [.int (0)], .tup [.tup [.str "a", .tup [.tup [.int (1), .tup []]]]]],
  .tup [.tup [.int (0)], .tup [.tup [.str "a", .tup [.tup [.bl true, .tup []]]], .tup [.str "b", .tup [.tup [.bl true, .tup []], .tup [.int (1), .tup []]]]]],
  .tup [.tup [.int (0)], .tup [.tup [.str "a", .tup [.tup [.non, .tup []]]]]],
  .tup [.tup [.int (0)], .tup [.tup [.str "a", .tup [.tup [.bl true, .tup []]]], .tup [.str "b", .tup [.tup [.bl true, .tup []], .tup [.non, .tup []]]]]],
  .tup [.tup [.int (0)], .tup [.tup [.str "a", .tup [.tup [.bl true]]]]],
  .tup [.tup [.int (0)], .tup [.tup [.str "a", .tup [.tup [.bl true, .tup []]]], .tup [.str "b", .tup [.tup [.bl true, .tup []], .tup [.bl true]]]]],
  .tup [.tup [.int (0)], .tup [.tup [.str "a", .tup [.tup [.bl true, .tup [], .tup []]]]]],
  .tup [.tup [.int (0)], .tup [.tup [.str "a", .tup [.tup [.bl true, .tup []]]], .tup [.str "b", .tup [.tup [.bl true, .tup []], .tup [.bl true, .tup [], .tup []]]]]],
  .tup [.tup [.int (0)], .tup [.tup [.str "a", .tup [.lst [.bl true, .tup []]]]]],
  .tup [.tup [.int (0)], .tup [.tup [.str "a", .tup [.tup [.bl true, .tup []]]], .tup [.str "b", .tup [.tup [.bl true, .tup []], .lst [.bl true, .tup []]]]]],
  .tup [.tup [.int (0)], .tup [.tup [.str "a", .tup [.tup [.bl true, .lst []]]]]],
  .tup [.tup [.int (0)], .tup [.tup [.str "a", .tup [.tup [.bl true, .tup []]]], .tup [.str "b", .tup [.tup [.bl true, .tup []], .tup [.bl true, .lst []]]]]],
  .tup [.tup [.int (0)], .tup [.tup [.str "a", .tup [.tup [.bl true, .non]]]]],
  .tup [.tup [.int (0)], .tup [.tup [.str "a", .tup [.tup [.bl true, .tup []]]], .tup [.str "b", .tup [.tup [.bl true, .tup []], .tup [.bl true, .non]]]]],
  .tup [.tup [.int (0)], .tup [.tup [.str "a", .tup [.tup [.bl true, .tup [.tup [.int (0)]]]]]]],
  .tup [.tup [.int (0)], .tup [.tup [.str "a", .tup [.tup [.bl true, .tup []]]], .tup [.str "b", .tup [.tup [.bl true, .tup []], .tup [.bl true, .tup [.tup [.int (0)]]]]]]],
  .tup [.tup [.int (0)], .tup [.tup [.str "a", .tup [.tup [.bl true, .tup [.tup [.int (1), .int (0)]]]]]]],
  .tup [.tup [.int (0)], .tup [.tup [.str "a", .tup [.tup [.bl true, .tup [.tup [.int (0), .int (1)]]]]]]],
  .tup [.tup [.int (0)], .tup [.tup [.str "a", .tup [.tup [.bl true, .tup [.tup [.int (-1), .int (0)]]]]]]],
  .tup [.tup [.int (0)], .tup [.tup [.str "a", .tup [.tup [.bl true, .tup [.tup [.int (0), .int (-1)]]]]]]],
  .tup [.tup [.int (0)], .tup [.tup [.str "a", .tup [.tup [.bl true, .tup [.tup [.bl true, .int (0)]]]]]]],
  .tup [.tup [.int (0)], .tup [.tup [.str "a", .tup [.tup [.bl true, .tup [.tup [.int (0), .bl false]]]]]]],
  .tup [.tup [.int (0)], .tup [.tup [.str "a", .tup [.tup [.bl true, .tup [.tup [.non, .int (0)]]]]]]],
  .tup [.tup [.int (0)], .tup [.tup [.str "a", .tup [.tup [.bl true, .tup [.tup [.str "0", .int (0)]]]]]]],
  .tup [.tup [.int (0)], .tup [.tup [.str "a", .tup [.tup [.bl true, .tup [.tup [.int (0), .str "0"]]]]]]],
  .tup [.tup [.int (0)], .tup [.tup [.str "a", .tup [.tup [.bl true, .tup [.lst [.int (0), .int (0)]]]]]]],
  .tup [.tup [.int (0)], .tup [.tup [.str "a", .tup [.tup [.bl true, .tup [.int (0)]]]]]],
  .tup [.tup [.int (0)], .tup [.tup [.str "a", .tup [.tup [.bl true, .tup [.tup [.int (0), .int (0), .int (0)]]]]]]],
  .tup [.tup [.int (0)], .tup [.tup [.str "a", .tup [.tup [.bl true, .tup [.tup [.bl false, .int (0)]]]]]]],
  .tup [.tup [.int (0)], .tup [.tup [.str "a", .tup [.tup [.bl true, .tup [.tup [.int (0), .int (0)], .tup [.int (0), .int (0)]]]]]]],
  .tup [.tup [], .tup [.tup [.str "a", .tup [.tup [.bl true, .tup []]]], .tup [.str "a", .tup [.tup [.bl true, .tup [.tup [.int (1), .int (0)], .tup [.int (0), .int (0)]]]]]]],
  .tup [.tup [.int (0)], .tup [.tup [.str "a", .tup [.tup [.bl true, .tup []]], .int (0)]]],
  .tup [.tup [.int (0)], .tup [.tup [.str "a", .tup [.tup [.bl true, .tup [.tup [.bl true, .int (0)]]]]], .tup [.str "b", .tup [.tup [.bl true, .tup []]]]]],
  .tup [.tup [.int (0)], .tup [.lst [.str "a", .tup [.tup [.bl true, .tup []]]]]],
  .tup [.tup [.int (0)], .tup [.tup [.lst [.str "a"], .tup [.tup [.bl true, .tup []]]]]]]
theorem bss_c : (Cn 99).call "_law_bad_schemas" [] [] = some (.ok (.lst bss) (stOf ((Cn 99).call "_law_bad_schemas" [] []))) := by kernel_rfl
theorem pd_bss : bss.all pdB = true := by kernel_rfl
theorem pure_bss : bss.all D.pure = true := by kernel_rfl
end Hd

end
section
open Wk PySem
set_option maxRecDepth 100000
set_option maxHeartbeats 2000000
namespace Hd
local macro_rules
  | `(tactic| trivial) => `(tactic| first
    | exact Ev.cst
    | exact Ev.var rfl
    | exact EvA.nil
    | (apply EvA.cons <;> trivial)
    | (apply Ev.ix <;> trivial)
    | (apply Ev.isi' <;> trivial)
    | (apply Ev.not' <;> trivial)
    | (apply Ev.cmp <;> trivial)
    | (apply Ev.bin <;> trivial)
    | (apply Ev.blt <;> trivial)
    | (apply Ev.call <;> trivial)
    | (apply EvX.call <;> trivial)
    | (apply Ev.orF <;> trivial)
    | (apply Ev.orT <;> trivial)
    | (apply Ev.andT <;> trivial)
    | (apply Ev.andF <;> trivial)
    | (apply Es.ret <;> trivial)
    | (apply Es.exX <;> trivial)
    | (apply Es.ex <;> trivial)
    | (apply Es.set <;> trivial)
    | (apply Ess.er <;> trivial)
    | (apply Ess.nx <;> trivial)
    | (apply Ess.rt <;> trivial)
    | exact Ess.nil
    | (apply Es.iffF <;> trivial)
    | (apply Es.iffT <;> trivial)
    | assumption
    | rfl
    | (simp [cmpD]; done))
/-! ### schemas -/
def NmOk (x : Str) : Prop := x = "a" ∨ x = "b" ∨ x = "cc"
theorem is_name_c {n : Nat} {x : Str} (h : NmOk x) : (Cn (n + 1)).call "is_name" [.str x] [] = some (.ok (.bl true) []) := by
  rcases h with rfl | rfl | rfl <;> kernel_rfl
theorem okS_nm {x : Str} (h : NmOk x) : okS x := by rcases h with rfl | rfl | rfl <;> exact okS_lit (by decide +kernel)
abbrev Stp := Nat × Nat
abbrev Stt := Bool × List Stp
abbrev Knd := Str × List Stt
def stp (q : Stp) : D := .tup [.int (q.1 : Nat), .int (q.2 : Nat)]
def stt (s : Stt) : D := .tup [.bl s.1, .tup (s.2.map stp)]
def knd (k : Knd) : D := .tup [.str k.1, .tup (k.2.map stt)]
def tps (ts : List Nat) : D := .tup (ts.map fun (i : Nat) => .int (i : Int))
def sch (ts : List Nat) (ks : List Knd) : D := .tup [tps ts, .tup (ks.map knd)]
def Less (a b : Stp) : Prop := a.1 < b.1 ∨ (a.1 = b.1 ∧ a.2 < b.2)
def StpsOk (many size : Nat) (ss : List Stp) : Prop := ss.length ≤ 3 ∧ (∀ q ∈ ss, q.1 < many ∧ q.2 < size) ∧ ∀ p ∈ ss.zip (ss.drop 1), Less p.1 p.2
def KndOk (many : Nat) (k : Knd) : Prop := NmOk k.1 ∧ 1 ≤ k.2.length ∧ k.2.length ≤ 3 ∧ ∀ s ∈ k.2, StpsOk many k.2.length s.2
def SchOk (ts : List Nat) (ks : List Knd) : Prop := 1 ≤ ks.length ∧ ks.length ≤ 5 ∧ ts.length ≤ 5 ∧ (∀ t ∈ ts, t < ks.length) ∧ (∀ p ∈ ts.zip (ts.drop 1), p.1 < p.2) ∧ ∀ k ∈ ks, KndOk ks.length k
theorem stp_pure {q : Stp} : (stp q).pure = true := rfl
theorem stps_pure {ss : List Stp} : D.pures (ss.map stp) = true := pures_of fun d h => by obtain ⟨q, _, rfl⟩ := List.mem_map.mp h; rfl
theorem stt_pure {s : Stt} : (stt s).pure = true := by
  show (true && (D.pures (s.2.map stp) && true)) = true
  rw [stps_pure]; rfl
theorem stts_pure {ss : List Stt} : D.pures (ss.map stt) = true := pures_of fun d h => by obtain ⟨q, _, rfl⟩ := List.mem_map.mp h; exact stt_pure
theorem knd_pure {k : Knd} : (knd k).pure = true := by
  show (true && (D.pures (k.2.map stt) && true)) = true
  rw [stts_pure]; rfl
theorem knds_pure {ss : List Knd} : D.pures (ss.map knd) = true := pures_of fun d h => by obtain ⟨q, _, rfl⟩ := List.mem_map.mp h; exact knd_pure
theorem tps_pure {ts : List Nat} : (tps ts).pure = true := pures_of (by simp [D.pure])
theorem sch_pure {ts : List Nat} {ks : List Knd} : (sch ts ks).pure = true := by
  show ((tps ts).pure && (D.pures (ks.map knd) && true)) = true
  rw [tps_pure, knds_pure]; rfl
theorem pu1 {a : D} (h1 : a.pure = true) : D.pures [a] = true := by
  show (a.pure && true) = true
  rw [h1]; rfl
theorem pu2 {a b : D} (h1 : a.pure = true) (h2 : b.pure = true) : D.pures [a, b] = true := by
  show (a.pure && (b.pure && true)) = true
  rw [h1, h2]; rfl
theorem pu3 {a b c : D} (h1 : a.pure = true) (h2 : b.pure = true) (h3 : c.pure = true) : D.pures [a, b, c] = true := by
  show (a.pure && (b.pure && (c.pure && true))) = true
  rw [h1, h2, h3]; rfl
/-! shown -/
def pdB2 (a b : Nat) (d : D) : Bool := match d.toP with
  | some x => x.canLay0 && Nat.ble x.depth a && x.showable && Nat.ble x.shown.length b && x.shown.cps.toList.all (fun c => decide (c < 0x110000))
  | none => false
theorem pdB2_ok {a b : Nat} {d : D} (h : pdB2 a b d = true) : Pd a b d := by
  unfold pdB2 at h
  cases e : d.toP with
  | none => rw [e] at h; cases h
  | some x =>
    rw [e] at h
    simp only [Bool.and_eq_true] at h
    exact ⟨x, e, h.1.1.1.1, Nat.ble_eq.mp h.1.1.1.2, h.1.1.2, Nat.ble_eq.mp h.1.2, okS_lit h.2⟩
def pdI (i : Nat) : Bool := pdB2 0 4 (.int (i : Nat))
theorem pdI_ok {i : Nat} (h : pdI i = true) : Pd 0 4 (.int (i : Nat)) := pdB2_ok h
theorem pdS_ok {d : D} (h : pdB2 0 5 d = true) : Pd 0 5 d := pdB2_ok h
theorem pd_int {i : Nat} (h : i < 8) : Pd 0 4 (.int (i : Nat)) := by
  have : ∀ i < 8, pdI i = true := by decide +kernel
  exact pdI_ok (this i h)
theorem pd_bl {b : Bool} : Pd 0 5 (.bl b) := by cases b <;> exact pdS_ok (by decide +kernel)
theorem pd_nm {x : Str} (h : NmOk x) : Pd 0 5 (.str x) := by rcases h with rfl | rfl | rfl <;> exact pdS_ok (by decide +kernel)
theorem pd_stp {q : Stp} (h1 : q.1 < 8) (h2 : q.2 < 8) : Pd 1 15 (stp q) := Pd.tup (ds := [_, _]) (by
  intro d hm
  simp only [List.mem_cons, List.not_mem_nil, or_false] at hm
  rcases hm with rfl | rfl
  · exact pd_int h1
  · exact pd_int h2)
theorem pd_all {α : Type} {f : α → D} {l : List α} {a b n : Nat} (h : ∀ x ∈ l, Pd a b (f x)) (hl : l.length ≤ n) : Pd (a + 1) (n * (b + 2) + 3) (.tup (l.map f)) :=
  (Pd.tup (ds := l.map f) (fun d hm => by obtain ⟨x, hx, rfl⟩ := List.mem_map.mp hm; exact h x hx)).mono (Nat.le_refl _) (by rw [List.length_map]; have := Nat.mul_le_mul_right (b + 2) hl; omega)
theorem pd_two {x y : D} {a b : Nat} (h1 : Pd a b x) (h2 : Pd a b y) : Pd (a + 1) (2 * (b + 2) + 3) (.tup [x, y]) := Pd.tup (ds := [x, y]) (by
  intro d hm
  simp only [List.mem_cons, List.not_mem_nil, or_false] at hm
  rcases hm with rfl | rfl <;> assumption)
theorem pd_stt {many size : Nat} {s : Stt} (h : StpsOk many size s.2) (hm : many ≤ 8) (hs : size ≤ 8) : Pd 3 115 (stt s) :=
  pd_two (pd_bl.mono (by decide) (by decide)) (pd_all (n := 3) (a := 1) (b := 15) (fun q hq => pd_stp (by have := (h.2.1 q hq).1; omega) (by have := (h.2.1 q hq).2; omega)) h.1)
theorem pd_stts {many : Nat} {k : Knd} (h : KndOk many k) (hm : many ≤ 8) : Pd 4 354 (.tup (k.2.map stt)) := pd_all (n := 3) (a := 3) (b := 115) (fun s hs => pd_stt (h.2.2.2 s hs) hm (by have := h.2.2.1; omega)) h.2.2.1
theorem pd_knd {many : Nat} {k : Knd} (h : KndOk many k) (hm : many ≤ 8) : Pd 5 715 (knd k) := pd_two ((pd_nm h.1).mono (by decide) (by decide)) (pd_stts h hm)
theorem pd_knds {ts : List Nat} {ks : List Knd} (h : SchOk ts ks) : Pd 6 3588 (.tup (ks.map knd)) := pd_all (n := 5) (a := 5) (b := 715) (fun k hk => pd_knd (h.2.2.2.2.2 k hk) (by have := h.2.1; omega)) h.2.1
theorem pd_tps {ts : List Nat} {ks : List Knd} (h : SchOk ts ks) : Pd 1 33 (tps ts) := pd_all (n := 5) (a := 0) (b := 4) (fun t ht => pd_int (by have := h.2.2.2.1 t ht; have := h.2.1; omega)) h.2.2.1
theorem pd_sch {ts : List Nat} {ks : List Knd} (h : SchOk ts ks) : Pd 7 7183 (sch ts ks) := pd_two ((pd_tps h).mono (by decide) (by decide)) (pd_knds h)
theorem eq_nil {st : Store} {xs : List D} {a b : Nat} (h : Pd a b (.tup xs)) (hn : xs ≠ []) : eqD st (.tup xs) (.tup []) = some false := by
  obtain ⟨x, e, c, _⟩ := h
  have e' : (D.toPs xs).map PyData.tuple = some x := e
  cases q : D.toPs xs with
  | none => rw [q] at e'; cases e'
  | some ys =>
    rw [q] at e'; cases e'
    have hy : ys ≠ [] := by
      intro z; subst z
      cases xs with
      | nil => exact hn rfl
      | cons d ds =>
        have q : (D.toP d).bind (fun p => (D.toPs ds).map (p :: ·)) = some [] := q
        cases z1 : D.toP d with
        | none => rw [z1] at q; cases q
        | some p => rw [z1] at q; cases z2 : D.toPs ds with
          | none => rw [z2] at q; cases q
          | some ps => rw [z2] at q; cases q
    unfold eqD
    show (match D.toP (.tup xs), (some (PyData.tuple []) : Option PyData) with
      | some p, some q => if p.canLay0 && q.canLay0 && Nat.ble (min p.depth q.depth) most then some (PyData.eqv p q) else none
      | _, _ => none) = _
    rw [e]
    have h2 : (PyData.tuple []).canLay0 = true := rfl
    have h3 : Nat.ble (min (PyData.tuple ys).depth (PyData.tuple []).depth) most = true := Nat.ble_eq.mpr (Nat.le_trans (Nat.min_le_right _ _) (by decide))
    show (if ((PyData.tuple ys).canLay0 && (PyData.tuple []).canLay0 && Nat.ble (min (PyData.tuple ys).depth (PyData.tuple []).depth) most) = true then some (PyData.eqv (.tuple ys) (.tuple [])) else none) = _
    rw [c, h2, h3]
    cases ys with
    | nil => exact absurd rfl hy
    | cons y ys => rfl
end Hd

end
section
open Wk PySem
set_option maxRecDepth 100000
set_option maxHeartbeats 2000000
namespace Hd
local macro_rules
  | `(tactic| trivial) => `(tactic| first
    | exact Ev.cst
    | exact Ev.var rfl
    | exact EvA.nil
    | (apply EvA.cons <;> trivial)
    | (apply Ev.ix <;> trivial)
    | (apply Ev.isi' <;> trivial)
    | (apply Ev.not' <;> trivial)
    | (apply Ev.cmp <;> trivial)
    | (apply Ev.bin <;> trivial)
    | (apply Ev.blt <;> trivial)
    | (apply Ev.call <;> trivial)
    | (apply EvX.call <;> trivial)
    | (apply Ev.orF <;> trivial)
    | (apply Ev.orT <;> trivial)
    | (apply Ev.andT <;> trivial)
    | (apply Ev.andF <;> trivial)
    | (apply Es.ret <;> trivial)
    | (apply Es.exX <;> trivial)
    | (apply Es.ex <;> trivial)
    | (apply Es.set <;> trivial)
    | (apply Ess.er <;> trivial)
    | (apply Ess.nx <;> trivial)
    | (apply Ess.rt <;> trivial)
    | exact Ess.nil
    | (apply Es.iffF <;> trivial)
    | (apply Es.iffT <;> trivial)
    | assumption
    | rfl
    | (simp [cmpD]; done))
theorem is_whole_c {n : Nat} {i : Nat} : (Cn (n + 1)).call "is_whole" [.int (i : Nat)] [] = some (.ok (.bl true) []) := by
  have : (Cn (n + 1)).call "is_whole" [.int (i : Nat)] [] = some (.ok (.bl (decide ((0 : Int) ≤ (i : Nat)))) []) := by kernel_rfl
  rw [this]; simp
theorem lt_nat {i j : Nat} {st : Store} (h : i < j) : cmpD .Lt (.int (i : Nat)) (.int (j : Nat)) st = some true := by
  show some (decide (((i : Nat) : Int) < (j : Nat))) = _
  rw [decide_eq_true (by omega)]
theorem lt_stp {a b : Stp} {st : Store} (h : Less a b) : cmpD .Lt (stp a) (stp b) st = some true := by
  show some (HT.lexLt [(a.1 : Int), (a.2 : Int)] [(b.1 : Int), (b.2 : Int)]) = _
  rw [HT.lexLt_cons, HT.lexLt_cons, HT.lexLt_nil_nil]
  congr 1
  rcases h with h | ⟨h1, h2⟩
  · rw [if_neg (by omega)]; exact decide_eq_true (by omega)
  · rw [if_pos (by omega), if_neg (by omega)]; exact decide_eq_true (by omega)
theorem sl1 {st : Store} {xs : List D} : sliceD st (.tup xs) (some 1) none = some (.tup (xs.drop 1)) := by
  cases xs with
  | nil => rfl
  | cons x xs => exact sl_from (xs := x :: xs) 1 (by simp)
theorem asc_c {n : Nat} {α : Type} {f : α → D} {l : List α} (hp : D.pures (l.map f) = true) (hl : l.length ≤ 100) (h : ∀ p ∈ l.zip (l.drop 1), cmpD .Lt (f p.1) (f p.2) [] = some true) : (Cn (n + 1)).call "is_ascending" [.tup (l.map f)] [] = some (.ok (.bl true) []) := by
  rw [call_s (F := v_is_ascending) (by kernel_rfl)]
  have e : ((l.map f).zip ((l.map f).drop 1)).map (fun p => D.tup [p.1, p.2]) = (l.zip (l.drop 1)).map fun p => D.tup [f p.1, f p.2] := by
    rw [← List.map_drop, List.zip_map, List.map_map]; rfl
  have k2 : eachM (lcF (Cn n) (.cmp .Lt (.var 1) (.var 2)) (.tp (.cons (.nm 1) (.cons (.nm 2) .nil))) false (.cst .non) [1, 2] [some (.tup (l.map f)), none, none]) ((l.zip (l.drop 1)).map fun p => D.tup [f p.1, f p.2]) [] = some (.ok ((l.zip (l.drop 1)).map fun _ => .bl true) []) :=
    each_map fun p hp => lcF_ok (env' := [some (.tup (l.map f)), some (f p.1), some (f p.2)]) rfl (Ev.cmp (Ev.var rfl) (Ev.var rfl) (h p hp))
  have hz : (l.zip (l.drop 1)).length ≤ 100 := by rw [List.length_zip]; omega
  have k3 : Ev (Cn n) [some (.tup (l.map f)), none, none] (.lc false (.cmp .Lt (.var 1) (.var 2)) (.tp (.cons (.nm 1) (.cons (.nm 2) .nil))) .zip (.cons false (.var 0) (.cons false (.sl (.var 0) (.cst (.int 1)) (.cst .non)) .nil)) false (.cst .non) [("one", 1), ("other", 2)]) [] (.lst ((l.zip (l.drop 1)).map fun _ => .bl true)) [] :=
    Ev.lc (n := none) (its := (l.zip (l.drop 1)).map fun (p : α × α) => D.tup [f p.1, f p.2]) (EvA.cons (Ev.var rfl) (EvA.cons (Ev.sl (Ev.var rfl) Ev.cst rfl Ev.cst rfl sl1) EvA.nil)) (by rw [← e]; rfl) (fit_small (by rw [List.length_map]; omega)) k2 (fit_small (by rw [List.length_map]; omega))
  exact run_rt rfl (Ess.rt (Es.ret (Ev.blt (EvA.cons k3 EvA.nil) (all_map (st := [])))))
theorem ne22 : cmpD .NotEq (.int 2) (.int 2) [] = some false := by kernel_rfl
theorem is_step_c {n many size : Nat} {q : Stp} (h1 : q.1 < many) (h2 : q.2 < size) : (Cn (n + 2)).call "is_step" [.int (many : Nat), .int (size : Nat), stp q] [] = some (.ok (.bl true) []) := by
  rw [call_s (F := v_is_step) (by kernel_rfl)]
  have k1 : callD (Cn (n + 1)) false "is_whole" [.int (q.1 : Nat)] [] = some (Out.ok (.bl true) []) := callD_p is_whole_c rfl rfl
  have k2 : callD (Cn (n + 1)) false "is_whole" [.int (q.2 : Nat)] [] = some (Out.ok (.bl true) []) := callD_p is_whole_c rfl rfl
  have c1 := lt_nat (st := []) h1
  have c2 := lt_nat (st := []) h2
  have i0 : ixD [] (stp q) (.int 0) = some (.int (q.1 : Nat)) := rfl
  have i1 : ixD [] (stp q) (.int 1) = some (.int (q.2 : Nat)) := rfl
  exact run_rt rfl (Ess.nx (Es.iffF (Ev.orF (Ev.not' (Ev.isi' (Ev.var rfl) rfl rfl) rfl) (Ev.cmp (r := false) (Ev.blt (d := .int 2) (EvA.cons (Ev.var rfl) EvA.nil) rfl) Ev.cst ne22)) Ess.nil) (Ess.rt (Es.ret (Ev.andT (Ev.call (EvA.cons (Ev.ix (Ev.var rfl) Ev.cst i0) EvA.nil) k1) (Ev.andT (Ev.cmp (Ev.ix (Ev.var rfl) Ev.cst i0) (Ev.var rfl) c1) (Ev.andT (Ev.call (EvA.cons (Ev.ix (Ev.var rfl) Ev.cst i1) EvA.nil) k2) (Ev.cmp (Ev.ix (Ev.var rfl) Ev.cst i1) (Ev.var rfl) c2)))))))
theorem is_state_c {n many size : Nat} {s : Stt} (h : StpsOk many size s.2) : (Cn (n + 3)).call "is_state" [.int (many : Nat), .int (size : Nat), stt s] [] = some (.ok (.bl true) []) := by
  rw [call_s (F := v_is_state) (by kernel_rfl)]
  obtain ⟨e, ss⟩ := s
  have h : StpsOk many size ss := h
  have i0 : ixD [] (stt (e, ss)) (.int 0) = some (.bl e) := rfl
  have i1 : ixD [] (stt (e, ss)) (.int 1) = some (.tup (ss.map stp)) := rfl
  let E : List (Option D) := [some (.int (many : Nat)), some (.int (size : Nat)), some (stt (e, ss)), none]
  have k2 : eachM (lcF (Cn (n + 2)) (.call false "is_step" (.cons false (.var 0) (.cons false (.var 1) (.cons false (.var 3) .nil)))) (.nm 3) false (.cst .non) [3] E) (ss.map stp) [] = some (.ok (ss.map fun _ => .bl true) []) :=
    each_map fun q hq => lcF_ok (env' := [some (.int (many : Nat)), some (.int (size : Nat)), some (stt (e, ss)), some (stp q)]) rfl (Ev.call (EvA.cons (Ev.var rfl) (EvA.cons (Ev.var rfl) (EvA.cons (Ev.var rfl) EvA.nil))) (callD_p (is_step_c (h.2.1 q hq).1 (h.2.1 q hq).2) (pu3 rfl rfl rfl) rfl))
  have hl : ss.length ≤ 100 := by have := h.1; omega
  have k3 : Ev (Cn (n + 2)) E (.lc false (.call false "is_step" (.cons false (.var 0) (.cons false (.var 1) (.cons false (.var 3) .nil)))) (.nm 3) .val (.cons false (.ix (.var 2) (.cst (.int 1))) .nil) false (.cst .non) [("step", 3)]) [] (.lst (ss.map fun _ => .bl true)) [] :=
    Ev.lc (EvA.cons (Ev.ix (Ev.var rfl) Ev.cst i1) EvA.nil) rfl (fit_small (by rw [List.length_map]; omega)) k2 (fit_small (by rw [List.length_map]; omega))
  have k4 : callD (Cn (n + 2)) false "is_ascending" [.tup (ss.map stp)] [] = some (Out.ok (.bl true) []) := callD_p (asc_c (n := n + 1) stps_pure hl fun p hp => lt_stp (h.2.2 p hp)) (pu1 stps_pure) rfl
  exact run_rt rfl (Ess.nx (Es.iffF (Ev.orF (Ev.not' (Ev.isi' (Ev.var rfl) rfl rfl) rfl) (Ev.orF (Ev.cmp (r := false) (Ev.blt (d := .int 2) (EvA.cons (Ev.var rfl) EvA.nil) rfl) Ev.cst ne22) (Ev.not' (Ev.isi' (Ev.ix (Ev.var rfl) Ev.cst i0) rfl rfl) rfl))) Ess.nil)
    (Ess.nx (Es.iffF (Ev.orF (Ev.not' (Ev.isi' (Ev.ix (Ev.var rfl) Ev.cst i1) rfl rfl) rfl) (Ev.not' (Ev.blt (EvA.cons k3 EvA.nil) (all_map (st := []))) rfl)) Ess.nil) (Ess.rt (Es.ret (Ev.call (EvA.cons (Ev.ix (Ev.var rfl) Ev.cst i1) EvA.nil) k4)))))
theorem is_kind_c {n many : Nat} {k : Knd} (h : KndOk many k) (hm : many ≤ 8) : (Cn (n + 4)).call "is_kind" [.int (many : Nat), knd k] [] = some (.ok (.bl true) []) := by
  rw [call_s (F := v_is_kind) (by kernel_rfl)]
  have pst := pd_stts h hm
  obtain ⟨x, ss⟩ := k
  obtain ⟨hx, h1, h3, h4⟩ := h
  have hx : NmOk x := hx
  have h1 : 1 ≤ ss.length := h1
  have h3 : ss.length ≤ 3 := h3
  have h4 : ∀ s ∈ ss, StpsOk many ss.length s.2 := h4
  have i0 : ixD [] (knd (x, ss)) (.int 0) = some (.str x) := rfl
  have i1 : ixD [] (knd (x, ss)) (.int 1) = some (.tup (ss.map stt)) := rfl
  have kn : callD (Cn (n + 3)) false "is_name" [.str x] [] = some (Out.ok (.bl true) []) := callD_p (is_name_c (n := n + 2) hx) rfl rfl
  have kl : bltD "len" [.tup (ss.map stt)] [] = some (.int (ss.length : Nat)) := by
    show some (D.int ((ss.map stt).length : Nat)) = _
    rw [List.length_map]
  have ke : cmpD .Eq (.tup (ss.map stt)) (.tup []) [] = some false := eq_nil pst (by intro z; have := congrArg List.length z; simp at this; rw [this] at h1; simp at h1)
  let E : List (Option D) := [some (.int (many : Nat)), some (knd (x, ss)), none]
  have k2 : eachM (lcF (Cn (n + 3)) (.call false "is_state" (.cons false (.var 0) (.cons false (.blt "len" (.cons false (.ix (.var 1) (.cst (.int 1))) .nil)) (.cons false (.var 2) .nil)))) (.nm 2) false (.cst .non) [2] E) (ss.map stt) [] = some (.ok (ss.map fun _ => .bl true) []) :=
    each_map fun q hq => lcF_ok (env' := [some (.int (many : Nat)), some (knd (x, ss)), some (stt q)]) rfl (Ev.call (EvA.cons (Ev.var rfl) (EvA.cons (Ev.blt (EvA.cons (Ev.ix (Ev.var rfl) Ev.cst i1) EvA.nil) kl) (EvA.cons (Ev.var rfl) EvA.nil))) (callD_p (is_state_c (h4 q hq)) (pu3 rfl rfl stt_pure) rfl))
  have k3 : Ev (Cn (n + 3)) E (.lc false (.call false "is_state" (.cons false (.var 0) (.cons false (.blt "len" (.cons false (.ix (.var 1) (.cst (.int 1))) .nil)) (.cons false (.var 2) .nil)))) (.nm 2) .val (.cons false (.ix (.var 1) (.cst (.int 1))) .nil) false (.cst .non) [("state", 2)]) [] (.lst (ss.map fun _ => .bl true)) [] :=
    Ev.lc (EvA.cons (Ev.ix (Ev.var rfl) Ev.cst i1) EvA.nil) rfl (fit_small (by rw [List.length_map]; omega)) k2 (fit_small (by rw [List.length_map]; omega))
  exact run_rt rfl (Ess.nx (Es.iffF (Ev.orF (Ev.not' (Ev.isi' (Ev.var rfl) rfl rfl) rfl) (Ev.orF (Ev.cmp (r := false) (Ev.blt (d := .int 2) (EvA.cons (Ev.var rfl) EvA.nil) rfl) Ev.cst ne22) (Ev.not' (Ev.call (EvA.cons (Ev.ix (Ev.var rfl) Ev.cst i0) EvA.nil) kn) rfl))) Ess.nil)
    (Ess.nx (Es.iffF (Ev.orF (Ev.not' (Ev.isi' (Ev.ix (Ev.var rfl) Ev.cst i1) rfl rfl) rfl) (Ev.cmp (Ev.ix (Ev.var rfl) Ev.cst i1) (Ev.tup EvA.nil rfl) ke)) Ess.nil) (Ess.rt (Es.ret (Ev.blt (EvA.cons k3 EvA.nil) (all_map (st := [])))))))
theorem is_right_c {n : Nat} {ts : List Nat} {ks : List Knd} (h : SchOk ts ks) : (Cn (n + 5)).call "is_right_schema" [sch ts ks] [] = some (.ok (.bl true) []) := by
  rw [call_s (F := v_is_right_schema) (by kernel_rfl)]
  have pk := pd_knds h
  obtain ⟨h1, h2, h3, h4, h5, h6⟩ := h
  have i0 : ixD [] (sch ts ks) (.int 0) = some (tps ts) := rfl
  have i1 : ixD [] (sch ts ks) (.int 1) = some (.tup (ks.map knd)) := rfl
  have kl : bltD "len" [.tup (ks.map knd)] [] = some (.int (ks.length : Nat)) := by
    show some (D.int ((ks.map knd).length : Nat)) = _
    rw [List.length_map]
  have ke : cmpD .Eq (.tup (ks.map knd)) (.tup []) [] = some false := eq_nil pk (by intro z; have := congrArg List.length z; simp at this; rw [this] at h1; simp at h1)
  let E : List (Option D) := [some (sch ts ks), some (tps ts), some (.tup (ks.map knd)), none, none]
  have k2 : eachM (lcF (Cn (n + 4)) (.and (.call false "is_whole" (.cons false (.var 4) .nil)) (.cmp .Lt (.var 4) (.blt "len" (.cons false (.var 2) .nil)))) (.nm 4) false (.cst .non) [4] E) (ts.map fun (i : Nat) => .int (i : Int)) [] = some (.ok (ts.map fun _ => .bl true) []) :=
    each_map fun t ht => lcF_ok (env' := [some (sch ts ks), some (tps ts), some (.tup (ks.map knd)), none, some (.int (t : Nat))]) rfl (Ev.andT (Ev.call (EvA.cons (Ev.var rfl) EvA.nil) (callD_p (is_whole_c (n := n + 3)) rfl rfl)) (Ev.cmp (Ev.var rfl) (Ev.blt (EvA.cons (Ev.var rfl) EvA.nil) kl) (lt_nat (h4 t ht))))
  have k3 : Ev (Cn (n + 4)) E (.lc false (.and (.call false "is_whole" (.cons false (.var 4) .nil)) (.cmp .Lt (.var 4) (.blt "len" (.cons false (.var 2) .nil)))) (.nm 4) .val (.cons false (.var 1) .nil) false (.cst .non) [("k", 4)]) [] (.lst (ts.map fun _ => .bl true)) [] :=
    Ev.lc (EvA.cons (Ev.var rfl) EvA.nil) rfl (fit_small (by rw [List.length_map]; omega)) k2 (fit_small (by rw [List.length_map]; omega))
  have k4 : callD (Cn (n + 4)) false "is_ascending" [tps ts] [] = some (Out.ok (.bl true) []) := callD_p (asc_c (n := n + 3) (f := fun (i : Nat) => .int (i : Int)) tps_pure (by omega) fun p hp => lt_nat (h5 p hp)) (pu1 tps_pure) rfl
  have k5 : eachM (lcF (Cn (n + 4)) (.call false "is_kind" (.cons false (.blt "len" (.cons false (.var 2) .nil)) (.cons false (.var 3) .nil))) (.nm 3) false (.cst .non) [3] E) (ks.map knd) [] = some (.ok (ks.map fun _ => .bl true) []) :=
    each_map fun k hk => lcF_ok (env' := [some (sch ts ks), some (tps ts), some (.tup (ks.map knd)), some (knd k), none]) rfl (Ev.call (EvA.cons (Ev.blt (EvA.cons (Ev.var rfl) EvA.nil) kl) (EvA.cons (Ev.var rfl) EvA.nil)) (callD_p (is_kind_c (h6 k hk) (by omega)) (pu2 rfl knd_pure) rfl))
  have k6 : Ev (Cn (n + 4)) E (.lc false (.call false "is_kind" (.cons false (.blt "len" (.cons false (.var 2) .nil)) (.cons false (.var 3) .nil))) (.nm 3) .val (.cons false (.var 2) .nil) false (.cst .non) [("kind", 3)]) [] (.lst (ks.map fun _ => .bl true)) [] :=
    Ev.lc (EvA.cons (Ev.var rfl) EvA.nil) rfl (fit_small (by rw [List.length_map]; omega)) k5 (fit_small (by rw [List.length_map]; omega))
  exact run_rt rfl (Ess.nx (Es.iffF (Ev.orF (Ev.not' (Ev.isi' (Ev.var rfl) rfl rfl) rfl) (Ev.orF (Ev.cmp (r := false) (Ev.blt (d := .int 2) (EvA.cons (Ev.var rfl) EvA.nil) rfl) Ev.cst ne22) (Ev.not' (Ev.isi' (Ev.ix (Ev.var rfl) Ev.cst i0) rfl rfl) rfl))) Ess.nil)
    (Ess.nx (Es.iffF (Ev.orF (Ev.not' (Ev.isi' (Ev.ix (Ev.var rfl) Ev.cst i1) rfl rfl) rfl) (Ev.cmp (Ev.ix (Ev.var rfl) Ev.cst i1) (Ev.tup EvA.nil rfl) ke)) Ess.nil)
    (Ess.nx (env' := E) (Es.unp (Ev.var rfl) rfl) (Ess.nx (Es.iffF (Ev.orF (Ev.not' (Ev.blt (EvA.cons k3 EvA.nil) (all_map (st := []))) rfl) (Ev.not' (Ev.call (EvA.cons (Ev.var rfl) EvA.nil) k4) rfl)) Ess.nil)
    (Ess.rt (Es.ret (Ev.blt (EvA.cons k6 EvA.nil) (all_map (st := [])))))))))
theorem look_sch_c {n : Nat} {ts : List Nat} {ks : List Knd} (h : SchOk ts ks) : (Cn (n + 6)).call "look_at_schema" [sch ts ks] [] = some (.ok .non []) := by
  rw [call_s (F := v_look_at_schema) (by kernel_rfl)]
  have k1 : callD (Cn (n + 5)) false "is_right_schema" [sch ts ks] [] = some (Out.ok (.bl true) []) := callD_p (is_right_c h) (pu1 sch_pure) rfl
  exact run_nx rfl (Ess.nx (Es.iffF (Ev.not' (Ev.call (EvA.cons (Ev.var rfl) EvA.nil) k1) rfl) Ess.nil) Ess.nil)
end Hd

end
section
open Wk PySem
set_option maxRecDepth 100000
set_option maxHeartbeats 2000000
namespace Hd
abbrev iD (i : Nat) : D := .int (i : Int)
abbrev tT (s : Nat) : D := .tup [.int (s : Int), .bl true]
theorem kx_nil {k : DK} : kIx [] k = none := rfl
theorem put_ints : ∀ (out ks0 : List Nat), ks0.length + out.length < 1000 → ∃ ks : List Nat, putAll (out.map tT) (ks0.map iD, List.replicate ks0.length (.bl true)) = some (ks.map iD, List.replicate ks.length (.bl true)) ∧ (∀ k ∈ ks, k ∈ ks0 ∨ k ∈ out) ∧ ks.length ≤ ks0.length + out.length
  | [], ks0, _ => ⟨ks0, rfl, fun k h => .inl h, by simp⟩
  | s :: out, ks0, hl => by
    rw [List.length_cons] at hl
    have hf : (flOk (ks0.map iD) (.a (.inl (s : Int))) && Nat.blt (ks0.map iD).length sizeLine) = true := by
      rw [Bool.and_eq_true]
      refine ⟨?_, ?_⟩
      · cases ks0 <;> rfl
      · rw [List.length_map, sizeLine_eq]; exact Nat.blt_eq.mpr (by omega)
    have e : putAll ((s :: out).map tT) (ks0.map iD, List.replicate ks0.length (.bl true)) = putAll (out.map tT) (dput (ks0.map iD) (List.replicate ks0.length (.bl true)) (iD s) (.a (.inl (s : Int))) (.bl true)) := by
      show (if (flOk (ks0.map iD) (.a (.inl (s : Int))) && Nat.blt (ks0.map iD).length sizeLine) = true then _ else none) = _
      rw [if_pos hf]
    cases q : kIx (ks0.map iD) (.a (.inl (s : Int))) with
    | some i =>
      have ed : dput (ks0.map iD) (List.replicate ks0.length (.bl true)) (iD s) (.a (.inl (s : Int))) (.bl true) = (ks0.map iD, List.replicate ks0.length (.bl true)) := by
        unfold dput; rw [q]; simp
      obtain ⟨ks, h1, h2, h3⟩ := put_ints out ks0 (by omega)
      exact ⟨ks, by rw [e, ed, h1], fun k hk => (h2 k hk).imp id (List.mem_cons_of_mem _), by rw [List.length_cons]; omega⟩
    | none =>
      have ed : dput (ks0.map iD) (List.replicate ks0.length (.bl true)) (iD s) (.a (.inl (s : Int))) (.bl true) = ((ks0 ++ [s]).map iD, List.replicate (ks0 ++ [s]).length (.bl true)) := by
        unfold dput; rw [q]
        simp [List.replicate_succ']
      obtain ⟨ks, h1, h2, h3⟩ := put_ints out (ks0 ++ [s]) (by simp; omega)
      refine ⟨ks, by rw [e, ed, h1], fun k hk => ?_, by rw [List.length_cons]; simp at h3; omega⟩
      rcases h2 k hk with z | z
      · rcases List.mem_append.mp z with z | z
        · exact .inl z
        · exact .inr (by rw [List.mem_singleton.mp z]; exact List.mem_cons_self)
      · exact .inr (List.mem_cons_of_mem _ z)
theorem ins_mem {x : Int} : ∀ {l : List Int} {y : Int}, y ∈ insB ltI x l → y = x ∨ y ∈ l
  | [], y, h => .inl (List.mem_singleton.mp h)
  | z :: l, y, h => by
    have h : y ∈ (if ltI z x then z :: insB ltI x l else x :: z :: l) := h
    split at h
    · rcases List.mem_cons.mp h with e | h
      · exact .inr (by rw [e]; exact List.mem_cons_self)
      · exact (ins_mem h).imp id (List.mem_cons_of_mem _)
    · exact (List.mem_cons.mp h).imp id id
theorem ins_len {x : Int} : ∀ {l : List Int}, (insB ltI x l).length = l.length + 1
  | [] => rfl
  | z :: l => by
    show (if ltI z x then z :: insB ltI x l else x :: z :: l).length = _
    split
    · rw [List.length_cons, ins_len]; rfl
    · rfl
theorem srt_mem : ∀ {l : List Int} {y : Int}, y ∈ isort ltI l → y ∈ l
  | [], y, h => h
  | z :: l, y, h => by
    rcases ins_mem (show y ∈ insB ltI z (isort ltI l) from h) with e | h
    · rw [e]; exact List.mem_cons_self
    · exact List.mem_cons_of_mem _ (srt_mem h)
theorem srt_len : ∀ {l : List Int}, (isort ltI l).length = l.length
  | [] => rfl
  | z :: l => by
    show (insB ltI z (isort ltI l)).length = _
    rw [ins_len, srt_len]; rfl
theorem ints_iD {l : List Nat} : intsOf (l.map iD) = some (l.map fun (i : Nat) => (i : Int)) := by
  induction l with
  | nil => rfl
  | cons i l ih => show (intsOf _).map _ = _; rw [ih]; rfl
/-- whole numbers of ints that are whole -/
theorem nats : ∀ {l : List Int} {s : Nat}, (∀ x ∈ l, ∃ k : Nat, x = k ∧ k < s) → ∃ ns : List Nat, l.map D.int = ns.map iD ∧ ns.length = l.length ∧ ∀ k ∈ ns, k < s
  | [], s, _ => ⟨[], rfl, rfl, fun _ z => nomatch z⟩
  | x :: l, s, h => by
    obtain ⟨k, e, hk⟩ := h x List.mem_cons_self
    obtain ⟨ns, e1, e2, h3⟩ := nats fun y hy => h y (List.mem_cons_of_mem _ hy)
    exact ⟨k :: ns, by rw [List.map_cons, List.map_cons, e1, e], by simp [e2], fun j hj => (List.mem_cons.mp hj).elim (fun z => z ▸ hk) (h3 j)⟩
theorem blt_sorted {x : D} {st : Store} : bltD "sorted" [x] st = sortedD st x := by kernel_rfl
theorem sorted_c {ks : List Nat} {vs : List D} {s : Nat} {st : Store} (hl : ks.length < 64) (h : ∀ k ∈ ks, k < s) : ∃ ns : List Nat, bltD "sorted" [.dic (ks.map iD) vs] st = some (.lst (ns.map iD)) ∧ ns.length = ks.length ∧ ∀ k ∈ ns, k < s := by
  have e : bltD "sorted" [.dic (ks.map iD) vs] st = some (.lst ((isort ltI (ks.map fun (i : Nat) => (i : Int))).map .int)) := by
    rw [blt_sorted]
    show (if Nat.blt (ks.map iD).length 64 = true then (intsOf (ks.map iD)).map fun ns => D.lst ((isort ltI ns).map .int) else none) = _
    rw [if_pos (by rw [List.length_map]; exact Nat.blt_eq.mpr hl), ints_iD]; rfl
  obtain ⟨ns, e1, e2, h3⟩ := nats (l := isort ltI (ks.map fun (i : Nat) => (i : Int))) (s := s) fun x hx => by
    obtain ⟨k, hk, rfl⟩ := List.mem_map.mp (srt_mem hx)
    exact ⟨k, rfl, h k hk⟩
  exact ⟨ns, by rw [e, e1], by rw [e2, srt_len, List.length_map], h3⟩
/-! comprehensions -/
theorem each_sub {f : D → M (Option D)} {α β : Type} {u : α → D} {v : β → D} {g : α → β} {st : Store} : ∀ {xs : List α}, (∀ a ∈ xs, f (u a) st = some (.ok (some (v (g a))) st) ∨ f (u a) st = some (.ok none st)) → ∃ ys : List β, (∀ y ∈ ys, ∃ a ∈ xs, y = g a) ∧ ys.length ≤ xs.length ∧ eachM f (xs.map u) st = some (.ok (ys.map v) st)
  | [], _ => ⟨[], by simp, Nat.le_refl _, rfl⟩
  | a :: xs, h => by
    obtain ⟨ys, h1, h2, h3⟩ := each_sub (f := f) (u := u) (v := v) (g := g) (st := st) (xs := xs) fun b hb => h b (List.mem_cons_of_mem _ hb)
    rcases h a List.mem_cons_self with q | q
    · refine ⟨g a :: ys, fun y hy => ?_, by simp; omega, ?_⟩
      · rcases List.mem_cons.mp hy with e | hy
        · exact ⟨a, List.mem_cons_self, e⟩
        · obtain ⟨b, hb, e⟩ := h1 y hy; exact ⟨b, List.mem_cons_of_mem _ hb, e⟩
      · show M.bind (f (u a)) _ st = _
        rw [bind_ok q]; show M.bind (eachM f (xs.map u)) _ st = _
        rw [bind_ok h3]; rfl
    · refine ⟨ys, fun y hy => let ⟨b, hb, e⟩ := h1 y hy; ⟨b, List.mem_cons_of_mem _ hb, e⟩, by simp; omega, ?_⟩
      show M.bind (f (u a)) _ st = _
      rw [bind_ok q]; show M.bind (eachM f (xs.map u)) _ st = _
      rw [bind_ok h3]; rfl
theorem eachL_sub {f : D → M (List D)} {α β : Type} {u : α → D} {v : β → D} {P : β → Prop} {m : Nat} {st : Store} : ∀ {xs : List α}, (∀ a ∈ xs, ∃ ys : List β, (∀ y ∈ ys, P y) ∧ ys.length ≤ m ∧ f (u a) st = some (.ok (ys.map v) st)) → ∃ ys : List β, (∀ y ∈ ys, P y) ∧ ys.length ≤ xs.length * m ∧ eachL f (xs.map u) st = some (.ok (ys.map v) st)
  | [], _ => ⟨[], by simp, Nat.zero_le _, rfl⟩
  | a :: xs, h => by
    obtain ⟨ys, h1, h2, h3⟩ := eachL_sub (f := f) (u := u) (v := v) (P := P) (m := m) (st := st) (xs := xs) fun b hb => h b (List.mem_cons_of_mem _ hb)
    obtain ⟨zs, g1, g2, g3⟩ := h a List.mem_cons_self
    refine ⟨zs ++ ys, fun y hy => (List.mem_append.mp hy).elim (g1 y) (h1 y), by rw [List.length_append, List.length_cons, Nat.succ_mul]; omega, ?_⟩
    show M.bind (f (u a)) _ st = _
    rw [bind_ok g3]; show M.bind (eachL f (xs.map u)) _ st = _
    rw [bind_ok h3, List.map_append]; rfl
end Hd

end
section
open Wk PySem
set_option maxRecDepth 100000
set_option maxHeartbeats 2000000
namespace Hd
/-! what is in a list of numbers, of names -/
theorem eqv_int {i j : Int} : PyData.eqv (.int i) (.int j) = decide (i = j) := by
  have : PyData.eqv (.int i) (.int j) = (i == j) := by unfold PyData.eqv; rfl
  rw [this]; rfl
theorem eqv_str {x y : Str} : PyData.eqv (.str x) (.str y) = (x == y) := by unfold PyData.eqv; rfl
theorem dep_flat {α : Type} {f : α → PyData} (h : ∀ a, (f a).depth = 0) : ∀ {l : List α}, PyData.depthAll (l.map f) = 0
  | [] => rfl
  | a :: l => by show max (f a).depth (PyData.depthAll _) = 0; rw [dep_flat h, h a]; rfl
theorem lay_flat {α : Type} {f : α → PyData} : ∀ {l : List α}, (∀ a ∈ l, (f a).canLay0 = true) → PyData.canLayAll0 (l.map f) = true
  | [], _ => rfl
  | a :: l, h => by show ((f a).canLay0 && PyData.canLayAll0 _) = true; rw [h a List.mem_cons_self, lay_flat fun b hb => h b (List.mem_cons_of_mem _ hb)]; rfl
theorem toPs_flat {α : Type} {u : α → D} {f : α → PyData} (h : ∀ a, (u a).toP = some (f a)) : ∀ {l : List α}, D.toPs (l.map u) = some (l.map f)
  | [] => rfl
  | a :: l => by show ((u a).toP).bind _ = _; rw [h a]; show (D.toPs (l.map u)).map _ = _; rw [toPs_flat h]; rfl
theorem in_flat {α : Type} {u : α → D} {f : α → PyData} {x : D} {p : PyData} {st : Store} (h1 : ∀ a, (u a).toP = some (f a)) (h2 : ∀ a, (f a).depth = 0) {l : List α} (h3 : ∀ a ∈ l, (f a).canLay0 = true) (hx : x.toP = some p) (hp : SeqAt.shaped p = true) :
    (match x.toP, D.toPs (l.map u) with | some p, some qs => if SeqAt.shaped p && SeqAt.shaped (.list qs) then some (qs.any fun z => PyData.eqv z p) else none | _, _ => none) = some (l.any fun a => PyData.eqv (f a) p) := by
  have hl : SeqAt.shaped (.list (l.map f)) = true := by
    unfold SeqAt.shaped
    rw [Bool.and_eq_true]
    refine ⟨lay_flat h3, decide_eq_true ?_⟩
    show PyData.depthAll _ + 1 ≤ 64
    rw [dep_flat h2]; decide
  rw [hx, toPs_flat h1]
  show (if (SeqAt.shaped p && SeqAt.shaped (.list (l.map f))) = true then some ((l.map f).any fun z => PyData.eqv z p) else none) = _
  rw [hp, hl, List.any_map]; rfl
theorem any_in {α : Type} [DecidableEq α] {l : List α} {k : α} {g : α → Bool} (h : ∀ a, g a = decide (a = k)) : l.any g = decide (k ∈ l) := by
  induction l with
  | nil => rfl
  | cons a l ih =>
    rw [List.any_cons, ih, h a]
    by_cases e : a = k
    · simp [e]
    · have e2 : k ≠ a := fun z => e z.symm
      simp [e, e2]
theorem in_tn {k : Nat} {ns : List Nat} {st : Store} : cmpD .In (iD k) (tps ns) st = some (decide (k ∈ ns)) := by
  show (match (iD k).toP, D.toPs (ns.map iD) with | some p, some qs => if SeqAt.shaped p && SeqAt.shaped (.list qs) then some (qs.any fun z => PyData.eqv z p) else none | _, _ => none) = _
  rw [in_flat (f := fun (i : Nat) => PyData.int (i : Int)) (p := .int (k : Int)) (st := st) (fun a => rfl) (fun a => rfl) (fun a _ => rfl) rfl rfl]
  rw [any_in (k := k) fun a => by rw [eqv_int]; congr 1; exact propext ⟨fun z => by omega, fun z => by rw [z]⟩]
theorem in_ln {k : Nat} {ns : List Nat} {st : Store} : cmpD .In (iD k) (.lst (ns.map iD)) st = some (decide (k ∈ ns)) := by
  show (match (iD k).toP, D.toPs (ns.map iD) with | some p, some qs => if SeqAt.shaped p && SeqAt.shaped (.list qs) then some (qs.any fun z => PyData.eqv z p) else none | _, _ => none) = _
  rw [in_flat (f := fun (i : Nat) => PyData.int (i : Int)) (p := .int (k : Int)) (st := st) (fun a => rfl) (fun a => rfl) (fun a _ => rfl) rfl rfl]
  rw [any_in (k := k) fun a => by rw [eqv_int]; congr 1; exact propext ⟨fun z => by omega, fun z => by rw [z]⟩]
theorem shp_str {x : Str} (h : okS x) : SeqAt.shaped (.str x) = true := by
  unfold SeqAt.shaped
  rw [okS_lay h]; rfl
theorem in_ls {x : Str} {xs : List Str} {st : Store} (hx : okS x) (h : ∀ y ∈ xs, okS y) : cmpD .In (.str x) (.lst (xs.map .str)) st = some (decide (x ∈ xs)) := by
  show (match (D.str x).toP, D.toPs (xs.map .str) with | some p, some qs => if SeqAt.shaped p && SeqAt.shaped (.list qs) then some (qs.any fun z => PyData.eqv z p) else none | _, _ => none) = _
  rw [in_flat (f := PyData.str) (p := .str x) (st := st) (fun a => rfl) (fun a => rfl) (fun a ha => okS_lay (h a ha)) rfl (shp_str hx)]
  rw [any_in (k := x) fun a => by rw [eqv_str]; by_cases e : a = x <;> simp [e]]
theorem not_in {o : Bool} {x y : D} {st : Store} (h : cmpD .In x y st = some o) : cmpD .NotIn x y st = some (!o) := by
  show (inD st x y).map _ = _
  have h : inD st x y = some o := h
  rw [h]; rfl
/-- is a list of pairs empty? -/
theorem eq_nil_pairs {ps : List Stp} {st : Store} : cmpD .Eq (.lst (ps.map stp)) (.lst []) st = some ps.isEmpty := by
  let f : Stp → PyData := fun q => .tuple [.int (q.1 : Nat), .int (q.2 : Nat)]
  have e : D.toPs (ps.map stp) = some (ps.map f) := toPs_flat fun a => rfl
  have h1 : PyData.canLayAll0 (ps.map f) = true := lay_flat fun a _ => rfl
  have h3 : Nat.ble (min (PyData.list (ps.map f)).depth (PyData.list []).depth) most = true := Nat.ble_eq.mpr (Nat.le_trans (Nat.min_le_right _ _) (by decide))
  show (match (D.toPs (ps.map stp)).map PyData.list, (some (PyData.list []) : Option PyData) with
    | some p, some q => if p.canLay0 && q.canLay0 && Nat.ble (min p.depth q.depth) most then some (PyData.eqv p q) else none
    | _, _ => none) = _
  rw [e]
  show (if (PyData.canLayAll0 (ps.map f) && true && Nat.ble (min (PyData.list (ps.map f)).depth (PyData.list []).depth) most) = true then some (PyData.eqv (.list (ps.map f)) (.list [])) else none) = _
  rw [h1, h3]
  cases ps <;> rfl
end Hd

end
section
open Wk PySem
set_option maxRecDepth 100000
set_option maxHeartbeats 2000000
namespace Hd
local macro_rules
  | `(tactic| trivial) => `(tactic| first
    | exact Ev.cst
    | exact Ev.var rfl
    | exact EvA.nil
    | (apply EvA.cons <;> trivial)
    | (apply Ev.ix <;> trivial)
    | (apply Ev.isi' <;> trivial)
    | (apply Ev.not' <;> trivial)
    | (apply Ev.cmp <;> trivial)
    | (apply Ev.bin <;> trivial)
    | (apply Ev.blt <;> trivial)
    | (apply Ev.call <;> trivial)
    | (apply EvX.call <;> trivial)
    | (apply Ev.orF <;> trivial)
    | (apply Ev.orT <;> trivial)
    | (apply Ev.andT <;> trivial)
    | (apply Ev.andF <;> trivial)
    | (apply Es.ret <;> trivial)
    | (apply Es.exX <;> trivial)
    | (apply Es.ex <;> trivial)
    | (apply Es.set <;> trivial)
    | (apply Ess.er <;> trivial)
    | (apply Ess.nx <;> trivial)
    | (apply Ess.rt <;> trivial)
    | exact Ess.nil
    | (apply Es.iffF <;> trivial)
    | (apply Es.iffT <;> trivial)
    | assumption
    | rfl
    | (simp [cmpD]; done))
/-! numbers -/
theorem emod_lt {a m : Int} (h : 0 < m) : 0 ≤ a % m ∧ a % m < m := ⟨Int.emod_nonneg a (by omega), Int.emod_lt_of_pos a h⟩
theorem abs_lt {a : Int} {n : Nat} (h1 : 0 ≤ a) (h2 : a < (n : Int)) : a.natAbs < n := by omega
theorem mixed_c {n : Nat} {c k : Int} (h1 : 0 ≤ k) (h2 : k < 2 ^ 60) : ∃ v : Int, 0 ≤ v ∧ v < 2147483579 ∧ (Cn (n + 1)).call "_law_mixed" [.int c, .int k] [] = some (.ok (.int v) []) := by
  have p1 := emod_lt (a := c) (m := 2147483647) (by decide)
  let a : Int := ((c % 2147483647) * 48271 + k * 69621 + 1048583) % 2147483629
  have p2 : 0 ≤ a ∧ a < 2147483629 := emod_lt (by decide)
  let b : Int := (a * a) % 2147483587
  have p3 : 0 ≤ b ∧ b < 2147483587 := emod_lt (by decide)
  have p4 := emod_lt (a := b * (b + 2)) (m := 2147483579) (by decide)
  refine ⟨(b * (b + 2)) % 2147483579, p4.1, p4.2, ?_⟩
  rw [call_s (F := Hd.v__law_mixed) (by kernel_rfl)]
  have q1 : ∀ st, binD .Mod (.int c) (.int 2147483647) st = some (.int (c % 2147483647)) := fun st => modI (by decide)
  have q2 : ∀ st, binD .Mult (.int (c % 2147483647)) (.int 48271) st = some (.int ((c % 2147483647) * 48271)) := fun st => mulI (by omega) (by decide)
  have q3 : ∀ st, binD .Mult (.int k) (.int 69621) st = some (.int (k * 69621)) := fun st => mulI (by omega) (by decide)
  have q4 : ∀ st, binD .Mod (.int ((c % 2147483647) * 48271 + k * 69621 + 1048583)) (.int 2147483629) st = some (.int a) := fun st => modI (by decide)
  have q5 : ∀ st, binD .Mult (.int a) (.int a) st = some (.int (a * a)) := fun st => mulI (by omega) (by omega)
  have q6 : ∀ st, binD .Mod (.int (a * a)) (.int 2147483587) st = some (.int b) := fun st => modI (by decide)
  have q7 : ∀ st, binD .Mult (.int b) (.int (b + 2)) st = some (.int (b * (b + 2))) := fun st => mulI (by omega) (by omega)
  have q8 : ∀ st, binD .Mod (.int (b * (b + 2))) (.int 2147483579) st = some (.int ((b * (b + 2)) % 2147483579)) := fun st => modI (by decide)
  exact run_rt rfl (Ess.nx (Es.set (Ev.bin (Ev.blt (EvA.cons (Ev.bin (Ev.bin (Ev.bin (Ev.bin (Ev.blt (EvA.cons (Ev.var rfl) EvA.nil) rfl) Ev.cst (q1 _)) Ev.cst (q2 _)) (Ev.bin (Ev.var rfl) Ev.cst (q3 _)) rfl) Ev.cst rfl) EvA.nil) rfl) Ev.cst (q4 _)) (show (2 : Nat) < 3 by decide)) (Ess.nx (Es.set (Ev.bin (Ev.blt (EvA.cons (Ev.bin (Ev.var rfl) (Ev.var rfl) (q5 _)) EvA.nil) rfl) Ev.cst (q6 _)) (show (2 : Nat) < 3 by decide))
    (Ess.rt (Es.ret (Ev.bin (Ev.blt (EvA.cons (Ev.bin (Ev.var rfl) (Ev.bin (Ev.var rfl) Ev.cst rfl) (q7 _)) EvA.nil) rfl) Ev.cst (q8 _))))))
theorem big_c : ∃ M : Int, 0 < M ∧ ∀ (C : Wk.Ctx) (env : Wk.Env) (st : Store), Ev C env (.bin .Mult (.bin .Mult (.bin .Mult (.bin .Pow (.cst (.int 10)) (.cst (.int 60))) (.bin .Pow (.cst (.int 10)) (.cst (.int 60)))) (.bin .Pow (.cst (.int 10)) (.cst (.int 60)))) (.bin .Pow (.cst (.int 10)) (.cst (.int 60)))) st (.int M) st :=
  ⟨10 ^ 240, by decide +kernel, fun C env st => by
    show evE C _ env st = _
    kernel_rfl⟩
theorem pow18 : ∃ M : Int, ∀ (C : Wk.Ctx) (env : Wk.Env) (st : Store), Ev C env (.bin .Pow (.cst (.int 10)) (.cst (.int 18))) st (.int M) st :=
  ⟨10 ^ 18, fun C env st => by
    show evE C _ env st = _
    kernel_rfl⟩
theorem pile_c {n k : Nat} {ns : List Int} (hk : k < 1000) : ∃ a b : Int, (Cn (n + 1)).call "_law_pile" [.scr ns, .int (k : Nat)] [] = some (.ok (.loc 0) [.lst false [.int a, .int b, .int (1000 * (k : Nat))]]) := by
  have s1 : ∃ l : List Int, sliceD [] (.scr ns) none (some 1) = some (.lst (l.map D.int)) := by
    refine ⟨ns.take 1, ?_⟩
    show some (D.lst (cutD (ns.map D.int) none (some ((1 : Nat) : Int)))) = _
    unfold cutD
    rw [HT.sIx_none, HT.sIx_nat, List.map_take]
    congr 2
    rw [List.drop_zero, Nat.sub_zero, List.length_map]
    cases ns <;> simp
  obtain ⟨l, s1⟩ := s1
  have s2 : bltD "sum" [.lst (l.map D.int)] [] = some (.int l.sum) := by
    show ((some (l.map D.int)).bind intsOf).map _ = _
    rw [Option.bind_some, intsL]; rfl
  have s3 : ∀ st, binD .Mod (.int l.sum) (.int 1000003) st = some (.int (l.sum % 1000003)) := fun st => modI (by decide)
  obtain ⟨M, hM, big⟩ := big_c
  obtain ⟨T, p18⟩ := pow18
  have s5 : ∀ (b : Int) st, binD .Mod (.int b) (.int M) st = some (.int (b % M)) := fun b st => modI hM
  have s6 : ∀ st, binD .Mult (.int 1000) (.int (k : Nat)) st = some (.int (1000 * (k : Nat))) := fun st => mulI (by decide) (by omega)
  rw [call_s (F := Hd.v__law_pile) (by kernel_rfl)]
  by_cases hl : k < ns.length
  · have c1 : cmpD .Lt (.int (k : Nat)) (.int (ns.length : Nat)) [] = some true := by
      show some (decide ((k : Int) < (ns.length : Int))) = _
      congr 1; exact decide_eq_true (by omega)
    have c2 : ixD [] (.scr ns) (.int (k : Nat)) = some (.int ns[k]) := by
      show (L2.atI ns (k : Nat)).map D.int = _
      simp [L2.atI, L2.ixN, hl]
    exact ⟨_, _, run_rt rfl (Ess.nx (Es.set (Ev.bin (Ev.blt (EvA.cons (Ev.sl (Ev.var rfl) Ev.cst rfl Ev.cst rfl s1) EvA.nil) s2) Ev.cst (s3 _)) (show (2 : Nat) < 3 by decide)) (Ess.nx (Es.iffT (Ev.cmp (Ev.var rfl) (Ev.blt (EvA.cons (Ev.var rfl) EvA.nil) rfl) c1) (Ess.nx (Es.set (Ev.ix (Ev.var rfl) (Ev.var rfl) c2) (show (2 : Nat) < 3 by decide)) Ess.nil))
      (Ess.rt (Es.ret (Ev.lstA (EvA.cons (Ev.bin (Ev.blt (EvA.cons (Ev.blt (EvA.cons (Ev.bin (Ev.var rfl) (p18 _ _ _) rfl) (EvA.cons Ev.cst EvA.nil)) rfl) EvA.nil) rfl) (big _ _ _) (s5 _ _)) (EvA.cons (Ev.var rfl) (EvA.cons (Ev.bin Ev.cst (Ev.var rfl) (s6 _)) EvA.nil))) rfl)))))⟩
  · have c1 : cmpD .Lt (.int (k : Nat)) (.int (ns.length : Nat)) [] = some false := by
      show some (decide ((k : Int) < (ns.length : Int))) = _
      congr 1; exact decide_eq_false (by omega)
    exact ⟨_, _, run_rt rfl (Ess.nx (Es.set (Ev.bin (Ev.blt (EvA.cons (Ev.sl (Ev.var rfl) Ev.cst rfl Ev.cst rfl s1) EvA.nil) s2) Ev.cst (s3 _)) (show (2 : Nat) < 3 by decide)) (Ess.nx (Es.iffF (Ev.cmp (Ev.var rfl) (Ev.blt (EvA.cons (Ev.var rfl) EvA.nil) rfl) c1) Ess.nil)
      (Ess.rt (Es.ret (Ev.lstA (EvA.cons (Ev.bin (Ev.blt (EvA.cons (Ev.blt (EvA.cons (Ev.bin (Ev.var rfl) (p18 _ _ _) rfl) (EvA.cons Ev.cst EvA.nil)) rfl) EvA.nil) rfl) (big _ _ _) (s5 _ _)) (EvA.cons (Ev.var rfl) (EvA.cons (Ev.bin Ev.cst (Ev.var rfl) (s6 _)) EvA.nil))) rfl)))))⟩

theorem it_range {n : Nat} {st : Store} (h : n < 2 ^ 62) : itD .range1 [.int (n : Nat)] st = some ((List.range n).map fun (i : Nat) => .int (i : Int), none) := by
  unfold itD itR1
  have h1 : (decide (-(2 ^ 62 : Int) ≤ ((n : Nat) : Int)) && decide (((n : Nat) : Int) < 2 ^ 62)) = true := by
    rw [Bool.and_eq_true, decide_eq_true_eq, decide_eq_true_eq]; omega
  simp only [h1, if_true, Int.toNat_natCast]
abbrev pst (a b c : Int) : Store := [.lst false [.int a, .int b, .int c]]
theorem bits_c {C : Wk.Ctx} {x y z : Option D} {a b c : Int} {m : Nat} (hm : m = 1 ∨ m = 2 ∨ m = 3 ∨ m = 4 ∨ m = 5) : Ev C [x, some (.int (m : Nat)), y, z] (.bin .Add (.cst (.int 1)) (.bin .FloorDiv (.met "bit_length" (.var 1) .nil) (.cst (.int 28)))) (pst a b c) (.int 1) (pst a b c) := by
  show evE C _ _ _ = _
  rcases hm with rfl | rfl | rfl | rfl | rfl <;> kernel_rfl
theorem take_c {n m : Nat} (hm : m = 1 ∨ m = 2 ∨ m = 3 ∨ m = 4 ∨ m = 5) {a b c : Int} (h1 : 0 ≤ c) (h2 : c < 2 ^ 58) : ∃ (d : Nat) (a' c' : Int), d < m ∧ c ≤ c' ∧ c' ≤ c + 1 ∧ (Cn (n + 2)).call "_law_take" [.loc 0, .int (m : Nat)] (pst a b c) = some (.ok (iD d) (pst a' b c')) := by
  rw [call_s (F := Hd.v__law_take) (by kernel_rfl)]
  have m0 : (0 : Int) < (m : Nat) := by omega
  have m1 : ((m : Nat) : Int).natAbs < 2 ^ 64 := by omega
  by_cases ha : 0 < a
  · have c1 : cmpD .Gt (.int a) (.int 0) (pst a b c) = some true := by
      show some (decide ((0 : Int) < a)) = _
      congr 1; exact decide_eq_true ha
    have p := emod_lt (a := a) m0
    have e : ((a % (m : Nat)).toNat : Int) = a % (m : Nat) := Int.toNat_of_nonneg p.1
    have c2 : ∀ st, binD .Mod (.int a) (.int (m : Nat)) st = some (iD (a % (m : Nat)).toNat) := fun st => by rw [modI m0]; show _ = some (D.int ((a % (m : Nat)).toNat : Int)); rw [e]
    have c3 : ∀ st, binD .FloorDiv (.int a) (.int (m : Nat)) st = some (.int (a / (m : Nat))) := fun st => fdivI m0 m1
    exact ⟨(a % (m : Nat)).toNat, a / (m : Nat), c, by omega, Int.le_refl _, by omega, run_rt rfl (Ess.rt (Es.iffT (Ev.cmp (Ev.ix (Ev.var rfl) Ev.cst rfl) Ev.cst c1) (Ess.nx (Es.set (Ev.bin (Ev.blt (EvA.cons (Ev.ix (Ev.var rfl) Ev.cst rfl) EvA.nil) rfl) (Ev.var rfl) (c2 _)) (show (2 : Nat) < 4 by decide)) (Ess.nx (Es.six (Ev.bin (Ev.ix (Ev.var rfl) Ev.cst rfl) (Ev.var rfl) (c3 _)) (Ev.var rfl) Ev.cst rfl) (Ess.rt (Es.ret (Ev.var rfl)))))))⟩
  · have c1 : cmpD .Gt (.int a) (.int 0) (pst a b c) = some false := by
      show some (decide ((0 : Int) < a)) = _
      congr 1; exact decide_eq_false ha
    obtain ⟨v, v1, v2, hv⟩ := mixed_c (n := n) (c := b) (k := c + 1) (by omega) (by omega)
    have k1 : callD (Cn (n + 1)) false "_law_mixed" [.int b, .int (c + 1)] (pst a b (c + 1)) = some (Out.ok (.int v) (pst a b (c + 1))) := callD_p hv rfl rfl
    have p := emod_lt (a := 0 * 2147483579 + v) m0
    have e : (((0 * 2147483579 + v) % (m : Nat)).toNat : Int) = (0 * 2147483579 + v) % (m : Nat) := Int.toNat_of_nonneg p.1
    have c2 : ∀ st, binD .Mod (.int (0 * 2147483579 + v)) (.int (m : Nat)) st = some (iD ((0 * 2147483579 + v) % (m : Nat)).toNat) := fun st => by rw [modI m0]; show _ = some (D.int (((0 * 2147483579 + v) % (m : Nat)).toNat : Int)); rw [e]
    have c3 : ∀ st, binD .Mult (.int 0) (.int 2147483579) st = some (.int (0 * 2147483579)) := fun st => mulI (by decide) (by decide)
    have hw : loopM (loopF (Cn (n + 1)) (.nm 3) (v__law_take.body.at_ 2).body) ((List.range 1).map fun (i : Nat) => .int (i : Int)) [some (.loc 0), some (.int (m : Nat)), some (.int 0), none] (pst a b c) = some (.ok (.nx [some (.loc 0), some (.int (m : Nat)), some (.int (0 * 2147483579 + v)), some (.int 0)]) (pst a b (c + 1))) := by
      show loopM _ [D.int 0] _ _ = _
      refine (loop_cons (loopF_ok (env1 := [some (.loc 0), some (.int (m : Nat)), some (.int 0), some (.int 0)]) rfl (Ess.nx (Es.six (Ev.bin (Ev.ix (Ev.var rfl) Ev.cst rfl) Ev.cst rfl) (Ev.var rfl) Ev.cst rfl) (Ess.nx (Es.set (Ev.bin (Ev.bin (Ev.var rfl) Ev.cst (c3 _)) (Ev.call (EvA.cons (Ev.ix (Ev.var rfl) Ev.cst rfl) (EvA.cons (Ev.ix (Ev.var rfl) Ev.cst rfl) EvA.nil)) k1) rfl) (show (2 : Nat) < 4 by decide)) Ess.nil)) rfl)).trans ?_
      rfl
    exact ⟨((0 * 2147483579 + v) % (m : Nat)).toNat, a, c + 1, by omega, by omega, by omega, run_rt rfl (Ess.nx (Es.iffF (Ev.cmp (Ev.ix (Ev.var rfl) Ev.cst rfl) Ev.cst c1) Ess.nil) (Ess.nx (Es.set Ev.cst (show (2 : Nat) < 4 by decide)) (Ess.nx (Es.loopN (EvA.cons (bits_c hm) EvA.nil) (it_range (n := 1) (by decide)) hw) (Ess.rt (Es.ret (Ev.bin (Ev.blt (EvA.cons (Ev.var rfl) EvA.nil) rfl) (Ev.var rfl) (c2 _)))))))⟩
end Hd

end
section
open Wk PySem
set_option maxRecDepth 100000
set_option maxHeartbeats 2000000
namespace Hd
/-! each thing once -/
def kyS (q : Stp) : DK := .t (.tup [.num (q.1 : Int), .num (q.2 : Int)])
theorem stp_dk {q : Stp} : (stp q).toDK = some (kyS q) := by
  show (if Nat.ble (NestedKey.tup [.num (q.1 : Int), .num (q.2 : Int)]).depth 8 then some (kyS q) else none) = _
  rfl
theorem ky_inj {a b : Stp} (h : kyS a = kyS b) : a = b := by
  unfold kyS at h
  injection h with h
  injection h with h
  injection h with h1 h2
  injection h1 with h1
  injection h2 with h2
  injection h2 with h2
  obtain ⟨a1, a2⟩ := a
  obtain ⟨b1, b2⟩ := b
  simp only at h1 h2
  rw [show a1 = b1 by omega, show a2 = b2 by omega]
theorem kx_none {q : Stp} : ∀ {us : List Stp}, q ∉ us → kIx (us.map stp) (kyS q) = none
  | [], _ => rfl
  | a :: us, h => by
    show (if (stp a).toDK = some (kyS q) then some 0 else (kIx (us.map stp) (kyS q)).map (· + 1)) = none
    rw [if_neg (by rw [stp_dk]; intro z; exact h (by rw [ky_inj (Option.some.inj z)]; exact List.mem_cons_self)), kx_none fun z => h (List.mem_cons_of_mem _ z)]; rfl
theorem kx_some {q : Stp} : ∀ {us : List Stp}, q ∈ us → ∃ i, kIx (us.map stp) (kyS q) = some i
  | [], h => by cases h
  | a :: us, h => by
    show ∃ i, (if (stp a).toDK = some (kyS q) then some 0 else (kIx (us.map stp) (kyS q)).map (· + 1)) = some i
    by_cases e : (stp a).toDK = some (kyS q)
    · exact ⟨0, if_pos e⟩
    · rw [if_neg e]
      have hne : q ≠ a := fun z => e (by rw [z]; exact stp_dk)
      obtain ⟨i, hi⟩ := kx_some ((List.mem_cons.mp h).resolve_left hne)
      exact ⟨i + 1, by rw [hi]; rfl⟩
abbrev dst (us : List Stp) : Store := [.dic false (us.map stp) (List.replicate us.length (.bl true))]
theorem put_s {q : Stp} {us : List Stp} (hl : us.length < 1000) : setIxD (.loc 0) (stp q) (.bl true) (dst us) = some ((), dst (if q ∈ us then us else us ++ [q])) := by
  have hf : (flOk (us.map stp) (kyS q) && Nat.blt (us.map stp).length sizeLine) = true := by
    rw [Bool.and_eq_true]
    refine ⟨?_, by rw [List.length_map, sizeLine_eq]; exact Nat.blt_eq.mpr (by omega)⟩
    cases us with
    | nil => rfl
    | cons a us => show (match (stp a).toDK with | some q' => q'.fl == (kyS q).fl | none => false) = true; rw [stp_dk]; rfl
  show (stp q).toDK.bind (fun k => if flOk (us.map stp) k && Nat.blt (us.map stp).length sizeLine then some ((), (dst us).set 0 (.dic false (dput (us.map stp) (List.replicate us.length (.bl true)) (stp q) k (.bl true)).1 (dput (us.map stp) (List.replicate us.length (.bl true)) (stp q) k (.bl true)).2)) else none) = _
  rw [stp_dk]
  show (if (flOk (us.map stp) (kyS q) && Nat.blt (us.map stp).length sizeLine) = true then _ else none) = _
  rw [if_pos hf]
  by_cases h : q ∈ us
  · obtain ⟨i, hi⟩ := kx_some h
    rw [if_pos h]
    unfold dput
    rw [hi]
    simp
  · rw [if_neg h]
    unfold dput
    rw [kx_none h]
    simp [List.replicate_succ']
theorem once_l {C : Wk.Ctx} {t : D} : ∀ (ss us : List Stp) {x : Option D}, us.Nodup → us.length + ss.length < 1000 → ∃ vs : List Stp, ∃ y, loopM (loopF C (.nm 2) (v__law_once.body.at_ 1).body) (ss.map stp) [some t, some (.loc 0), x] (dst us) = some (.ok (.nx [some t, some (.loc 0), y]) (dst vs)) ∧ vs.Nodup ∧ (∀ q ∈ vs, q ∈ us ∨ q ∈ ss) ∧ vs.length ≤ us.length + ss.length
  | [], us, x, hn, hl => ⟨us, x, rfl, hn, fun q h => .inl h, by simp⟩
  | q :: ss, us, x, hn, hl => by
    rw [List.length_cons] at hl
    have hl2 : (if q ∈ us then us else us ++ [q]).length ≤ us.length + 1 := by split <;> simp
    have hn2 : (if q ∈ us then us else us ++ [q]).Nodup := by
      split
      · exact hn
      · rename_i h
        exact List.nodup_append.mpr ⟨hn, by simp, fun a ha b hb e => h (by rw [List.mem_singleton.mp hb] at e; rw [← e]; exact ha)⟩
    obtain ⟨vs, y, h1, h2, h3, h4⟩ := once_l (C := C) (t := t) ss (if q ∈ us then us else us ++ [q]) (x := some (stp q)) hn2 (by omega)
    refine ⟨vs, y, ?_, h2, fun r hr => ?_, by rw [List.length_cons]; omega⟩
    · rw [← h1]
      exact loop_cons (loopF_ok (env1 := [some t, some (.loc 0), some (stp q)]) rfl (Ess.nx (Es.six Ev.cst (Ev.var rfl) (Ev.var rfl) (put_s (by omega))) Ess.nil) rfl)
    · rcases h3 r hr with z | z
      · split at z
        · exact .inl z
        · rcases List.mem_append.mp z with z | z
          · exact .inl z
          · exact .inr (by rw [List.mem_singleton.mp z]; exact List.mem_cons_self)
      · exact .inr (List.mem_cons_of_mem _ z)
theorem wl_dic {α : Type} {m : M α} {st st2 : Store} {n : Nat} {ks vs ks' vs' : List D} {a : α} (h : st[n]? = some (.dic false ks vs)) (hm : m (st.set n (.dic true ks vs)) = some (.ok a st2)) (h2 : st2[n]? = some (.dic true ks' vs')) : withLock (some n) m st = some (.ok a (st2.set n (.dic false ks' vs'))) := by
  have e : withLock (some n) m st = (match m (st.set n (.dic true ks vs)) with
      | none => none
      | some (.ok a st') => (unlk n st').map fun s => .ok a s
      | some (.ex e st') => (unlk n st').map fun s => .ex e s) := by
    unfold withLock
    simp only [h]
    rfl
  have u : unlk n st2 = some (st2.set n (.dic false ks' vs')) := by
    unfold unlk
    rw [h2]; rfl
  rw [e, hm]
  show (unlk n st2).map _ = _
  rw [u]; rfl
theorem once_c {n : Nat} {ss : List Stp} (hl : ss.length < 900) : ∃ vs : List Stp, (Cn (n + 1)).call "_law_once" [.lst (ss.map stp)] [] = some (.ok (.lst (vs.map stp)) (dst vs)) ∧ vs.Nodup ∧ (∀ q ∈ vs, q ∈ ss) ∧ vs.length ≤ ss.length := by
  rw [call_s (F := v__law_once) (by kernel_rfl)]
  obtain ⟨vs, y, h1, h2, h3, h4⟩ := once_l (C := Cn n) (t := .lst (ss.map stp)) ss [] (x := none) List.nodup_nil (by simp; omega)
  have hvl : vs.length ≤ 900 := by simp at h4; omega
  have k2 : eachM (lcF (Cn n) (.var 2) (.nm 2) false (.cst .non) [2] [some (.lst (ss.map stp)), some (.loc 0), y]) (vs.map stp) [.dic true (vs.map stp) (List.replicate vs.length (.bl true))] = some (.ok (vs.map stp) [.dic true (vs.map stp) (List.replicate vs.length (.bl true))]) :=
    each_map fun q hq => lcF_ok (env' := [some (.lst (ss.map stp)), some (.loc 0), some (stp q)]) rfl (Ev.var rfl)
  have k3 : withLock (some 0) (eachM (lcF (Cn n) (.var 2) (.nm 2) false (.cst .non) [2] [some (.lst (ss.map stp)), some (.loc 0), y]) (vs.map stp)) (dst vs) = some (.ok (vs.map stp) (dst vs)) := by
    exact wl_dic (st := dst vs) (n := 0) rfl k2 rfl
  refine ⟨vs, run_rt rfl (Ess.nx (env' := [some (.lst (ss.map stp)), some (.loc 0), none]) (st1 := dst []) (by show evS _ _ _ _ = _; rfl) (Ess.nx (Es.loopN (EvA.cons (Ev.var rfl) EvA.nil) rfl h1) (Ess.rt (Es.ret (Ev.lc (n := some 0) (its := vs.map stp) (EvA.cons (Ev.var rfl) EvA.nil) rfl (fit_small (by rw [List.length_map]; omega)) k3 (fit_small (by rw [List.length_map]; omega))))))), h2, fun q hq => (h3 q hq).elim (fun z => nomatch z) id, by simpa using h4⟩
end Hd

end
section
open Wk PySem
set_option maxRecDepth 100000
set_option maxHeartbeats 2000000
namespace Hd
instance {a b : Stp} : Decidable (Less a b) := by unfold Less; exact inferInstance
theorem lt_any {a q : Stp} {st : Store} : cmpD .Lt (stp a) (stp q) st = some (decide (Less a q)) := by
  show some (HT.lexLt [(a.1 : Int), (a.2 : Int)] [(q.1 : Int), (q.2 : Int)]) = _
  rw [HT.lexLt_cons, HT.lexLt_cons, HT.lexLt_nil_nil]
  congr 1
  by_cases h : Less a q
  · rw [decide_eq_true h]
    rcases h with h | ⟨h1, h2⟩
    · rw [if_neg (by omega)]; exact decide_eq_true (by omega)
    · rw [if_pos (by omega), if_neg (by omega)]; exact decide_eq_true (by omega)
  · rw [decide_eq_false h]
    unfold Less at h
    by_cases e : (a.1 : Int) = (q.1 : Int)
    · rw [if_pos e]
      by_cases e2 : (a.2 : Int) = (q.2 : Int)
      · rw [if_pos e2]
      · rw [if_neg e2]; exact decide_eq_false (by omega)
    · rw [if_neg e]; exact decide_eq_false (by omega)
theorem less_tot {a b : Stp} (h : ¬ Less a b) (hn : a ≠ b) : Less b a := by
  unfold Less at *
  by_cases e : a.1 = b.1
  · refine .inr ⟨e.symm, ?_⟩
    have : a.2 ≠ b.2 := fun z => hn (by obtain ⟨a1, a2⟩ := a; obtain ⟨b1, b2⟩ := b; simp only at e z; rw [e, z])
    omega
  · exact .inl (by omega)
theorem less_tr {a b c : Stp} (h : Less a b) (h2 : Less b c) : Less a c := by
  unfold Less at *; omega
theorem less_as {a b : Stp} (h : Less a b) : ¬ Less b a := by
  unfold Less at *; omega
theorem each_flt {f : D → M (Option D)} {α : Type} {u v : α → D} {p : α → Bool} {st : Store} : ∀ {xs : List α}, (∀ a ∈ xs, f (u a) st = some (.ok (if p a then some (v a) else none) st)) → eachM f (xs.map u) st = some (.ok ((xs.filter p).map v) st)
  | [], _ => rfl
  | a :: xs, h => by
    have ih := each_flt (f := f) (u := u) (v := v) (p := p) (st := st) (xs := xs) fun b hb => h b (List.mem_cons_of_mem _ hb)
    have h0 := h a List.mem_cons_self
    show M.bind (f (u a)) _ st = _
    rw [bind_ok h0]; show M.bind (eachM f (xs.map u)) _ st = _
    rw [bind_ok ih]
    cases hp : p a with
    | true => rw [List.filter_cons_of_pos hp]; rfl
    | false => rw [List.filter_cons_of_neg (by rw [hp]; decide)]; rfl
theorem cut_at {q : Stp} : ∀ {L : List Stp}, L.Pairwise Less → q ∉ L → ∃ A B, L = A ++ B ∧ L.filter (fun a => decide (Less a q)) = A ∧ (∀ a ∈ A, Less a q) ∧ ∀ b ∈ B, Less q b
  | [], _, _ => ⟨[], [], rfl, rfl, by simp, by simp⟩
  | a :: L, hp, hn => by
    obtain ⟨h1, h2⟩ := List.pairwise_cons.mp hp
    by_cases h : Less a q
    · obtain ⟨A, B, e, f, g1, g2⟩ := cut_at (q := q) h2 fun z => hn (List.mem_cons_of_mem _ z)
      refine ⟨a :: A, B, by rw [e]; rfl, by rw [List.filter_cons_of_pos (by exact decide_eq_true h), f], fun b hb => (List.mem_cons.mp hb).elim (fun z => z ▸ h) (g1 b), g2⟩
    · have hq : Less q a := less_tot h fun z => hn (by rw [z]; exact List.mem_cons_self)
      have all : ∀ b ∈ a :: L, Less q b := fun b hb => (List.mem_cons.mp hb).elim (fun z => z ▸ hq) fun z => less_tr hq (h1 b z)
      refine ⟨[], a :: L, rfl, ?_, by simp, all⟩
      rw [List.filter_eq_nil_iff]
      exact fun b hb => by rw [decide_eq_true_eq]; exact less_as (all b hb)
theorem asc_l {C : Wk.Ctx} {t : D} : ∀ (us L : List Stp) {x : Option D}, us.Nodup → (∀ q ∈ us, q ∉ L) → L.Pairwise Less → L.length + us.length < 900 → ∃ L2 : List Stp, ∃ y, loopM (loopF C (.nm 2) (v__law_ascending.body.at_ 1).body) (us.map stp) [some t, some (.loc 0), x, none] [.lst false (L.map stp)] = some (.ok (.nx [some t, some (.loc 0), y, none]) [.lst false (L2.map stp)]) ∧ L2.Pairwise Less ∧ (∀ q ∈ L2, q ∈ L ∨ q ∈ us) ∧ L2.length = L.length + us.length
  | [], L, x, _, _, hp, hl => ⟨L, x, rfl, hp, fun q h => .inl h, by simp⟩
  | q :: us, L, x, hn, hd, hp, hl => by
    rw [List.length_cons] at hl
    obtain ⟨n1, n2⟩ := List.nodup_cons.mp hn
    have hq := hd q List.mem_cons_self
    obtain ⟨A, B, e, f, g1, g2⟩ := cut_at hp hq
    have hp2 : (A ++ q :: B).Pairwise Less := by
      rw [e] at hp
      obtain ⟨p1, p2, p3⟩ := List.pairwise_append.mp hp
      refine List.pairwise_append.mpr ⟨p1, List.pairwise_cons.mpr ⟨g2, p2⟩, fun a ha b hb => ?_⟩
      rcases List.mem_cons.mp hb with z | z
      · rw [z]; exact g1 a ha
      · exact p3 a ha b z
    have mem2 : ∀ r ∈ A ++ q :: B, r = q ∨ r ∈ L := fun r hr => by
      rw [e]
      rcases List.mem_append.mp hr with z | z
      · exact .inr (List.mem_append_left _ z)
      · exact (List.mem_cons.mp z).imp id fun z => List.mem_append_right _ z
    have len2 : (A ++ q :: B).length = L.length + 1 := by rw [e]; simp; omega
    obtain ⟨L2, y, h1, h2, h3, h4⟩ := asc_l (C := C) (t := t) us (A ++ q :: B) (x := some (stp q)) n2 (fun r hr z => by
      rcases mem2 r z with z | z
      · exact n1 (z ▸ hr)
      · exact hd r (List.mem_cons_of_mem _ hr) z) hp2 (by rw [len2]; omega)
    refine ⟨L2, y, ?_, h2, fun r hr => ?_, by rw [h4, len2, List.length_cons]; omega⟩
    · rw [← h1]
      let E : List (Option D) := [some t, some (.loc 0), some (stp q), none]
      have k1 : eachM (lcF C (.var 3) (.nm 3) true (.cmp .Lt (.var 3) (.var 2)) [3] E) (L.map stp) [.lst true (L.map stp)] = some (.ok ((L.filter fun a => decide (Less a q)).map stp) [.lst true (L.map stp)]) :=
        each_flt fun a ha => by
          have hc : Ev C [some t, some (.loc 0), some (stp q), some (stp a)] (.cmp .Lt (.var 3) (.var 2)) [.lst true (L.map stp)] (.bl (decide (Less a q))) [.lst true (L.map stp)] := Ev.cmp (Ev.var rfl) (Ev.var rfl) lt_any
          cases hb : decide (Less a q) with
          | true => rw [hb] at hc; exact lcF_t rfl hc (Ev.var rfl)
          | false => rw [hb] at hc; exact lcF_f rfl hc
      rw [f] at k1
      have hlL : L.length < 900 := by omega
      have hlA : A.length ≤ L.length := by rw [e]; simp
      have k2 : Ev C E (.lc false (.var 3) (.nm 3) .val (.cons false (.var 1) .nil) true (.cmp .Lt (.var 3) (.var 2)) [("_law_other", 3)]) [.lst false (L.map stp)] (.lst (A.map stp)) [.lst false (L.map stp)] :=
        Ev.lc (n := some 0) (its := L.map stp) (EvA.cons (Ev.var rfl) EvA.nil) rfl (fit_small (by rw [List.length_map]; omega)) (wl_eq (st := [.lst false (L.map stp)]) (n := 0) rfl k1 rfl) (fit_small (by rw [List.length_map]; omega))
      have k3 : bltD "len" [.lst (A.map stp)] [.lst false (L.map stp)] = some (.int (A.length : Nat)) := by
        show some (D.int ((A.map stp).length : Nat)) = _
        rw [List.length_map]
      have k4 : metD "insert" (.loc 0) [.int (A.length : Nat), stp q] [.lst false (L.map stp)] = some (.non, [.lst false ((A ++ q :: B).map stp)]) := by
        show (if (Nat.blt (L.map stp).length sizeLine && decide ((0 : Int) ≤ (A.length : Nat)) && decide (((A.length : Nat) : Int) ≤ ((L.map stp).length : Nat))) = true then some (D.non, ([.lst false (L.map stp)] : Store).set 0 (.lst false ((L.map stp).take ((A.length : Nat) : Int).toNat ++ stp q :: (L.map stp).drop ((A.length : Nat) : Int).toNat))) else none) = _
        have hc : (Nat.blt (L.map stp).length sizeLine && decide ((0 : Int) ≤ (A.length : Nat)) && decide (((A.length : Nat) : Int) ≤ ((L.map stp).length : Nat))) = true := by
          rw [Bool.and_eq_true, Bool.and_eq_true]
          exact ⟨⟨by rw [List.length_map, sizeLine_eq]; exact Nat.blt_eq.mpr (by omega), decide_eq_true (by omega)⟩, decide_eq_true (by rw [List.length_map]; omega)⟩
        rw [if_pos hc, Int.toNat_natCast, e, List.map_append, List.map_append, List.take_left' (by rw [List.length_map]), List.drop_left' (by rw [List.length_map])]
        rfl
      exact loop_cons (loopF_ok (env1 := E) rfl (Ess.nx (Es.ex (Ev.met (Ev.var rfl) rfl (EvA.cons (Ev.blt (EvA.cons k2 EvA.nil) k3) (EvA.cons (Ev.var rfl) EvA.nil)) k4)) Ess.nil) rfl)
    · rcases h3 r hr with z | z
      · exact (mem2 r z).elim (fun z => .inr (by rw [z]; exact List.mem_cons_self)) .inl
      · exact .inr (List.mem_cons_of_mem _ z)
theorem ascend_c {n : Nat} {us : List Stp} (hn : us.Nodup) (hl : us.length < 900) : ∃ L : List Stp, (Cn (n + 1)).call "_law_ascending" [.lst (us.map stp)] [] = some (.ok (.loc 0) [.lst false (L.map stp)]) ∧ L.Pairwise Less ∧ (∀ q ∈ L, q ∈ us) ∧ L.length = us.length := by
  rw [call_s (F := v__law_ascending) (by kernel_rfl)]
  obtain ⟨L, y, h1, h2, h3, h4⟩ := asc_l (C := Cn n) (t := .lst (us.map stp)) us [] (x := none) hn (by simp) List.Pairwise.nil (by simp; omega)
  exact ⟨L, run_rt rfl (Ess.nx (Es.set (Ev.lstA EvA.nil rfl) (show 1 < 4 by decide)) (Ess.nx (Es.loopN (EvA.cons (Ev.var rfl) EvA.nil) rfl h1) (Ess.rt (Es.ret (Ev.var rfl))))), h2, fun q hq => (h3 q hq).elim (fun z => nomatch z) id, by simpa using h4⟩
end Hd

end
section
open Wk PySem
set_option maxRecDepth 100000
set_option maxHeartbeats 2000000
namespace Hd
def Sm (m : Nat) : Prop := m = 1 ∨ m = 2 ∨ m = 3 ∨ m = 4 ∨ m = 5
theorem pw_zip : ∀ {L : List Stp}, L.Pairwise Less → ∀ p ∈ L.zip (L.drop 1), Less p.1 p.2
  | [], _, p, h => by simp at h
  | [a], _, p, h => by simp at h
  | a :: b :: L, hp, p, h => by
    obtain ⟨h1, h2⟩ := List.pairwise_cons.mp hp
    have h : p ∈ (a, b) :: (b :: L).zip ((b :: L).drop 1) := h
    rcases List.mem_cons.mp h with z | z
    · rw [z]; exact h1 b List.mem_cons_self
    · exact pw_zip h2 p z
theorem take_d {n m : Nat} (hm : Sm m) {a b c : Int} (h1 : 0 ≤ c) (h2 : c < 2 ^ 58) : ∃ (d : Nat) (a' c' : Int), d < m ∧ c ≤ c' ∧ c' ≤ c + 1 ∧ callD (Cn (n + 2)) false "_law_take" [.loc 0, .int (m : Nat)] (pst a b c) = some (.ok (iD d) (pst a' b c')) := by
  obtain ⟨d, a', c', g1, g2, g3, g4⟩ := take_c (n := n) hm (a := a) (b := b) h1 h2
  exact ⟨d, a', c', g1, g2, g3, callD_mi (st := pst a b c) (m := 0) rfl rfl g4 rfl rfl⟩
theorem draw_l {f : D → M (Option D)} {many size : Nat} {b : Int} (hf : ∀ (x : D) (a c : Int), 0 ≤ c → c < 2 ^ 57 → ∃ (q : Stp) (a' c' : Int), q.1 < many ∧ q.2 < size ∧ c ≤ c' ∧ c' ≤ c + 2 ∧ f x (pst a b c) = some (.ok (some (stp q)) (pst a' b c'))) :
    ∀ (xs : List D) (a c : Int), 0 ≤ c → c + 2 * xs.length < 2 ^ 57 → ∃ (ss : List Stp) (a' c' : Int), ss.length = xs.length ∧ (∀ q ∈ ss, q.1 < many ∧ q.2 < size) ∧ c ≤ c' ∧ c' ≤ c + 2 * xs.length ∧ eachM f xs (pst a b c) = some (.ok (ss.map stp) (pst a' b c'))
  | [], a, c, _, _ => ⟨[], a, c, rfl, by simp, Int.le_refl _, by simp, rfl⟩
  | x :: xs, a, c, h1, h2 => by
    simp only [List.length_cons] at h2
    obtain ⟨q, a1, c1, g1, g2, g3, g4, g5⟩ := hf x a c h1 (by omega)
    obtain ⟨ss, a2, c2, k1, k2, k3, k4, k5⟩ := draw_l hf xs a1 c1 (by omega) (by omega)
    refine ⟨q :: ss, a2, c2, by simp [k1], fun r hr => (List.mem_cons.mp hr).elim (fun z => z ▸ ⟨g1, g2⟩) (k2 r), by omega, by simp only [List.length_cons]; omega, ?_⟩
    show M.bind (f x) _ _ = _
    rw [bind_ok g5]; show M.bind (eachM f xs) _ _ = _
    rw [bind_ok k5]; rfl
theorem steps_c {n many size count : Nat} (hm : Sm many) (hs : Sm size) (hc : count ≤ 3) {a b c : Int} (h1 : 0 ≤ c) (h2 : c < 2 ^ 56) : ∃ (ss : List Stp) (a' c' : Int), StpsOk many size ss ∧ c ≤ c' ∧ c' ≤ c + 6 ∧
    (Cn (n + 3)).call "_law_steps" [.loc 0, .int (many : Nat), .int (size : Nat), .int (count : Nat)] (pst a b c) = some (.ok (.tup (ss.map stp)) (pst a' b c')) := by
  rw [call_s (F := v__law_steps) (by kernel_rfl)]
  let E : List (Option D) := [some (.loc 0), some (.int (many : Nat)), some (.int (size : Nat)), some (.int (count : Nat)), none, none]
  obtain ⟨ss, a1, c1, k1, k2, k3, k4, k5⟩ := draw_l (many := many) (size := size) (b := b) (f := lcF (Cn (n + 2)) (.tup (.cons false (.call false "_law_take" (.cons false (.var 0) (.cons false (.var 1) .nil))) (.cons false (.call false "_law_take" (.cons false (.var 0) (.cons false (.var 2) .nil))) .nil))) (.nm 5) false (.cst .non) [5] E) (fun x a c g1 g2 => by
    obtain ⟨d, a1, c1, p1, p2, p3, p4⟩ := take_d (n := n) hm (a := a) (b := b) g1 (by omega)
    obtain ⟨e, a2, c2, q1, q2, q3, q4⟩ := take_d (n := n) hs (a := a1) (b := b) (c := c1) (by omega) (by omega)
    refine ⟨(d, e), a2, c2, p1, q1, by omega, by omega, lcF_ok (env' := [some (.loc 0), some (.int (many : Nat)), some (.int (size : Nat)), some (.int (count : Nat)), none, some x]) rfl (Ev.tup (EvA.cons (Ev.call (EvA.cons (Ev.var rfl) (EvA.cons (Ev.var rfl) EvA.nil)) p4) (EvA.cons (Ev.call (EvA.cons (Ev.var rfl) (EvA.cons (Ev.var rfl) EvA.nil)) q4) EvA.nil)) rfl)⟩) ((List.range count).map fun (i : Nat) => .int (i : Int)) a c h1 (by simp; omega)
  have hl : ss.length ≤ 3 := by rw [k1]; simp; exact hc
  have c6 : c1 ≤ c + 6 := by simp at k4; omega
  obtain ⟨vs, o1, o2, o3, o4⟩ := once_c (n := n + 1) (ss := ss) (by omega)
  obtain ⟨L, l1, l2, l3, l4⟩ := ascend_c (n := n + 1) (us := vs) o2 (by omega)
  have d1 : callD (Cn (n + 2)) false "_law_once" [.lst (ss.map stp)] (pst a1 b c1) = some (.ok (.lst (vs.map stp)) (pst a1 b c1)) := callD_p o1 (pu1 stps_pure) stps_pure
  have d2 : callD (Cn (n + 2)) false "_law_ascending" [.lst (vs.map stp)] (pst a1 b c1) = some (.ok (.lst (L.map stp)) (pst a1 b c1)) := callD_l l1 (pu1 stps_pure) stps_pure
  have d3 : bltD "tuple" [.lst (L.map stp)] (pst a1 b c1) = some (.tup (L.map stp)) := by kernel_rfl
  refine ⟨L, a1, c1, ⟨by omega, fun q hq => k2 q (o3 q (l3 q hq)), pw_zip l2⟩, k3, c6, ?_⟩
  exact run_rt rfl (Ess.nx (Es.set (Ev.lc (n := none) (its := (List.range count).map fun (i : Nat) => .int (i : Int)) (EvA.cons (Ev.var rfl) EvA.nil) (it_range (by omega)) (fit_small (by simp; omega)) k5 (fit_small (by rw [List.length_map]; omega))) (show 4 < 6 by decide))
    (Ess.rt (Es.ret (Ev.blt (EvA.cons (Ev.call (EvA.cons (Ev.call (EvA.cons (Ev.var rfl) EvA.nil) d1) EvA.nil) d2) EvA.nil) d3))))
end Hd

end
section
open Wk PySem
set_option maxRecDepth 100000
set_option maxHeartbeats 2000000
namespace Hd
theorem callD_mp {C : Wk.Ctx} {f : Str} {m : Nat} {ws xs xs' : List D} {d : D} {st : Store} (hm : st[m]? = some (.lst false xs)) (hx : D.pures xs = true) (hw : D.pures ws = true) (h : C.call f (.loc 0 :: ws) [.lst false xs] = some (.ok d [.lst false xs'])) (hd : d.pure = true) (hx' : D.pures xs' = true) : callD C false f (.loc m :: ws) st = some (.ok d (st.set m (.lst false xs'))) := by
  obtain ⟨w1, w2, w3⟩ := locs_pure hw
  have el : locs (.loc m :: ws) = [m] := by show m :: locs ws = _; rw [w1]
  have h1 : ((D.loc m :: ws).all argOk && decide (locs (.loc m :: ws)).Nodup) = true := by
    rw [el, List.all_cons, w3]
    simp [argOk]
  have h2 : obsAt st (locs (.loc m :: ws)) = some [.lst false xs] := by
    rw [el]
    show (st[m]?).bind _ = _
    rw [hm]; rfl
  have h3 : ([Ob.lst false xs] : List Ob).all Ob.pure = true := by
    show ((Ob.lst false xs).pure && true) = true
    rw [Bool.and_true]; exact hx
  have e : renum 0 (.loc m :: ws) = .loc 0 :: ws := by show D.loc 0 :: renum 1 ws = _; rw [w2]
  have hb : backD false (locs (.loc m :: ws)) d [.lst false xs'] st = some (d, st.set m (.lst false xs')) := by
    rw [el]
    unfold backD
    have hf : frzs [.lst false xs'] ([m] : List Nat).length (([.lst false xs'] : Store).take ([m] : List Nat).length) = some [.lst false xs'] := by
      show (Ob.frz [.lst false xs'] 1 (.lst false xs')).bind _ = _
      have := Ob.frz_pure (st := [.lst false xs']) (o := .lst false xs') (n0 := 1) hx'
      rw [this]; rfl
    rw [hf]
    cases d with
    | loc n => cases hd
    | _ => exact congrArg (Option.map fun e => (e, st.set m (.lst false xs'))) (D.sub_pure (ρ := deepAt [.lst false xs'] 1 1) _ hd)
  unfold callD
  rw [if_pos h1, h2]
  show (if (([Ob.lst false xs] : List Ob).all Ob.pure) = true then _ else none) = _
  rw [if_pos h3, e, h]
  simp only [hb]
/-- behind a turn: what was laid in it goes -/
theorem loopF_tr {C : Wk.Ctx} {tg : Tg} {body : Sxs} {d : D} {env env1 env' : Wk.Env} {st st1 : Store} (h : tgSet tg d env = some env1) (hb : Ess C env1 body st (.nx env') st1) (hl : Nat.ble st1.length st.length = false) (hk : ((st1.take st.length).all (Ob.under st.length) && keepE st.length env env') = true) : loopF C tg body d env st = some (.ok (.nx (trimE st.length env')) (st1.take st.length)) := by
  have : (M.of (tgSet tg d env) >>= fun env' => evSs C body env') st = some (.ok (.nx env') st1) := by
    rw [h]; exact hb
  unfold loopF trimM
  rw [this]
  show trimR st.length env env' st1 = _
  unfold trimR
  rw [hl, if_neg Bool.false_ne_true, if_pos hk]
/-- the pile and more -/
abbrev pr (a b c : Int) (R : Store) : Store := .lst false [.int a, .int b, .int c] :: R
theorem take_g {n m : Nat} (hm : Sm m) {a b c : Int} {R : Store} (h1 : 0 ≤ c) (h2 : c < 2 ^ 58) : ∃ (d : Nat) (a' c' : Int), d < m ∧ c ≤ c' ∧ c' ≤ c + 1 ∧ callD (Cn (n + 2)) false "_law_take" [.loc 0, .int (m : Nat)] (pr a b c R) = some (.ok (iD d) (pr a' b c' R)) := by
  obtain ⟨d, a', c', g1, g2, g3, g4⟩ := take_c (n := n) hm (a := a) (b := b) h1 h2
  exact ⟨d, a', c', g1, g2, g3, callD_mi (st := pr a b c R) (m := 0) rfl rfl g4 rfl rfl⟩
theorem steps_g {n many size count : Nat} (hm : Sm many) (hs : Sm size) (hc : count ≤ 3) {a b c : Int} {R : Store} (h1 : 0 ≤ c) (h2 : c < 2 ^ 56) : ∃ (ss : List Stp) (a' c' : Int), StpsOk many size ss ∧ c ≤ c' ∧ c' ≤ c + 6 ∧
    callD (Cn (n + 3)) false "_law_steps" [.loc 0, .int (many : Nat), .int (size : Nat), .int (count : Nat)] (pr a b c R) = some (.ok (.tup (ss.map stp)) (pr a' b c' R)) := by
  obtain ⟨ss, a', c', g1, g2, g3, g4⟩ := steps_c (n := n) hm hs hc (a := a) (b := b) h1 h2
  exact ⟨ss, a', c', g1, g2, g3, callD_mp (st := pr a b c R) (m := 0) (ws := [.int (many : Nat), .int (size : Nat), .int (count : Nat)]) rfl rfl rfl g4 stps_pure rfl⟩
/-! names -/
def letters (ls : List Str) : D := .lst (ls.map .str)
def nA : Str := "a"
def nB : Str := "b"
def nC : Str := "cc"
def LsOk (ls : List Str) : Prop := ls = [nA, nB] ∨ ls = [nA] ∨ ls = [nA, nB, nC]
theorem letters_c {n : Nat} {a b c : Int} (h1 : 0 ≤ c) (h2 : c < 2 ^ 56) : ∃ (ls : List Str) (a' c' : Int), LsOk ls ∧ c ≤ c' ∧ c' ≤ c + 1 ∧ (Cn (n + 3)).call "_law_letters" [.loc 0] (pst a b c) = some (.ok (letters ls) (pst a' b c')) := by
  rw [call_s (F := v__law_letters) (by kernel_rfl)]
  obtain ⟨d, a', c', g1, g2, g3, g4⟩ := take_g (n := n) (m := 4) (.inr (.inr (.inr (.inl rfl)))) (a := a) (b := b) (c := c) (R := []) h1 (by omega)
  have hd : d = 0 ∨ d = 1 ∨ d = 2 ∨ d = 3 := by omega
  have ix : ∃ ls, LsOk ls ∧ ixD (pst a' b c') (.lst [.lst [.str "a", .str "b"], .lst [.str "a", .str "b"], .lst [.str "a"], .lst [.str "a", .str "b", .str "cc"]]) (iD d) = some (letters ls) := by
    rcases hd with rfl | rfl | rfl | rfl
    · exact ⟨[nA, nB], .inl rfl, rfl⟩
    · exact ⟨[nA, nB], .inl rfl, rfl⟩
    · exact ⟨[nA], .inr (.inl rfl), rfl⟩
    · exact ⟨[nA, nB, nC], .inr (.inr rfl), rfl⟩
  obtain ⟨ls, hls, ix⟩ := ix
  exact ⟨ls, a', c', hls, g2, g3, run_rt rfl (Ess.rt (Es.ret (Ev.ix (Ev.lst (EvA.cons (Ev.lst (EvA.cons Ev.cst (EvA.cons Ev.cst EvA.nil)) rfl) (EvA.cons (Ev.lst (EvA.cons Ev.cst (EvA.cons Ev.cst EvA.nil)) rfl) (EvA.cons (Ev.lst (EvA.cons Ev.cst EvA.nil) rfl) (EvA.cons (Ev.lst (EvA.cons Ev.cst (EvA.cons Ev.cst (EvA.cons Ev.cst EvA.nil))) rfl) EvA.nil)))) rfl) (Ev.call (EvA.cons (Ev.var rfl) (EvA.cons Ev.cst EvA.nil)) g4) ix)))⟩
end Hd

end
section
open Wk PySem
set_option maxRecDepth 100000
set_option maxHeartbeats 2000000
namespace Hd
def obd : Sxs := (v__law_schema.body.at_ 2).body
def ibd : Sxs := (obd.at_ 2).body
theorem gt0 {d : Nat} {st : Store} : cmpD .Gt (iD d) (.int 0) st = some (decide (0 < d)) := by
  show some (decide ((0 : Int) < (d : Nat))) = _
  congr 1
  by_cases h : 0 < d
  · rw [decide_eq_true h, decide_eq_true (by omega)]
  · rw [decide_eq_false h, decide_eq_false (by omega)]
theorem states_l {n many size : Nat} (hm : Sm many) (hs : Sm size) {b : Int} {v1 v2 v5 v10 : Option D} {K : Ob} : ∀ (xs : List D) (S : List Stt) (a c : Int) (x9 : Option D), (∀ x ∈ xs, x.under 2 = true) → (∀ d, x9 = some d → d.under 2 = true) → (∀ s ∈ S, StpsOk many size s.2) → S.length + xs.length < 100 → 0 ≤ c → c + 8 * xs.length < 2 ^ 55 →
    ∃ (S2 : List Stt) (a' c' : Int) (y9 : Option D), (∀ d, y9 = some d → d.under 2 = true) ∧ (∀ s ∈ S2, StpsOk many size s.2) ∧ S2.length = S.length + xs.length ∧ c ≤ c' ∧ c' ≤ c + 8 * xs.length ∧
      loopM (loopF (Cn (n + 3)) (.nm 9) ibd) xs [some (.loc 0), v1, v2, some (.int (many : Nat)), some (.loc 1), v5, none, some (.int (size : Nat)), some (.loc 2), x9, v10, none] (pr a b c [K, .lst false (S.map stt)]) =
        some (.ok (.nx [some (.loc 0), v1, v2, some (.int (many : Nat)), some (.loc 1), v5, none, some (.int (size : Nat)), some (.loc 2), y9, v10, none]) (pr a' b c' [K, .lst false (S2.map stt)]))
  | [], S, a, c, x9, _, hu, hS, _, _, _ => ⟨S, a, c, x9, hu, hS, rfl, Int.le_refl _, by simp, rfl⟩
  | x :: xs, S, a, c, x9, hx, hu, hS, hl, h1, h2 => by
    simp only [List.length_cons] at hl h2
    obtain ⟨d, a1, c1, p1, p2, p3, p4⟩ := take_g (n := n + 1) (m := 3) (.inr (.inr (.inl rfl))) (a := a) (b := b) (c := c) (R := [K, .lst false (S.map stt)]) h1 (by omega)
    obtain ⟨e, a2, c2, q1, q2, q3, q4⟩ := take_g (n := n + 1) (m := 4) (.inr (.inr (.inr (.inl rfl)))) (a := a1) (b := b) (c := c1) (R := [K, .lst false (S.map stt)]) (by omega) (by omega)
    obtain ⟨ss, a3, c3, r1, r2, r3, r4⟩ := steps_g (n := n) hm hs (count := e) (by omega) (a := a2) (b := b) (c := c2) (R := [K, .lst false (S.map stt)]) (by omega) (by omega)
    let S1 : List Stt := S ++ [(decide (0 < d), ss)]
    obtain ⟨S2, a4, c4, y9, s0, s1, s2, s3, s4, s5⟩ := states_l (n := n) hm hs (b := b) (v1 := v1) (v2 := v2) (v5 := v5) (v10 := v10) (K := K) xs S1 a3 c3 (some x) (fun z hz => hx z (List.mem_cons_of_mem _ hz)) (fun d e => by cases e; exact hx x List.mem_cons_self) (fun s h => (List.mem_append.mp h).elim (hS s) fun z => by rw [List.mem_singleton.mp z]; exact r1) (by simp [S1]; omega) (by omega) (by omega)
    have k4 : metD "append" (.loc 2) [stt (decide (0 < d), ss)] (pr a3 b c3 [K, .lst false (S.map stt)]) = some (.non, pr a3 b c3 [K, .lst false (S1.map stt)]) := by
      show (if Nat.blt (S.map stt).length sizeLine = true then some (D.non, (pr a3 b c3 [K, .lst false (S.map stt)]).set 2 (.lst false (S.map stt ++ [stt (decide (0 < d), ss)]))) else none) = _
      rw [if_pos (by rw [List.length_map, sizeLine_eq]; exact Nat.blt_eq.mpr (by omega))]
      simp [S1]
    refine ⟨S2, a4, c4, y9, s0, s1, by rw [s2]; simp [S1]; omega, by omega, by simp only [List.length_cons]; omega, ?_⟩
    rw [← s5]
    exact loop_cons (loopF_ok (env1 := [some (.loc 0), v1, v2, some (.int (many : Nat)), some (.loc 1), v5, none, some (.int (size : Nat)), some (.loc 2), some x, v10, none]) rfl (Ess.nx (Es.ex (Ev.met (Ev.var rfl) rfl (EvA.cons (Ev.tup (EvA.cons (Ev.cmp (Ev.call (EvA.cons (Ev.var rfl) (EvA.cons Ev.cst EvA.nil)) p4) Ev.cst gt0) (EvA.cons (Ev.call (EvA.cons (Ev.var rfl) (EvA.cons (Ev.var rfl) (EvA.cons (Ev.var rfl) (EvA.cons (Ev.call (EvA.cons (Ev.var rfl) (EvA.cons Ev.cst EvA.nil)) q4) EvA.nil)))) r4) EvA.nil)) rfl) EvA.nil) k4)) Ess.nil) rfl)
end Hd

end
section
open Wk PySem
set_option maxRecDepth 100000
set_option maxHeartbeats 2000000
namespace Hd
theorem nm_of {ls : List Str} (h : LsOk ls) : ∀ x ∈ ls, NmOk x := by
  intro x hx
  rcases h with rfl | rfl | rfl
  · simp only [List.mem_cons, List.not_mem_nil, or_false] at hx
    rcases hx with rfl | rfl
    · exact .inl rfl
    · exact .inr (.inl rfl)
  · rw [List.mem_singleton.mp hx]; exact .inl rfl
  · simp only [List.mem_cons, List.not_mem_nil, or_false] at hx
    rcases hx with rfl | rfl | rfl
    · exact .inl rfl
    · exact .inr (.inl rfl)
    · exact .inr (.inr rfl)
theorem ls_len {ls : List Str} (h : LsOk ls) : Sm ls.length ∧ ls.length ≤ 3 ∧ 0 < ls.length := by
  rcases h with rfl | rfl | rfl
  · exact ⟨.inr (.inl rfl), by decide, by decide⟩
  · exact ⟨.inl rfl, by decide, by decide⟩
  · exact ⟨.inr (.inr (.inl rfl)), by decide, by decide⟩
theorem toPs_str : ∀ {xs : List Str}, D.toPs (xs.map .str) = some (xs.map PyData.str)
  | [] => rfl
  | x :: xs => by show (D.toP _).bind _ = _; show (D.toPs _).map _ = _; rw [toPs_str]; rfl
theorem lay_strs : ∀ {xs : List Str}, (∀ x ∈ xs, NmOk x) → PyData.canLayAll0 (xs.map PyData.str) = true
  | [], _ => rfl
  | x :: xs, h => by
    show ((PyData.str x).canLay0 && PyData.canLayAll0 (xs.map PyData.str)) = true
    rw [okS_lay (okS_nm (h x List.mem_cons_self)), lay_strs fun y hy => h y (List.mem_cons_of_mem _ hy)]; rfl
theorem count_c {xs : List Str} {x : Str} {st : Store} (h : ∀ y ∈ xs, NmOk y) (hx : NmOk x) : ∃ j : Nat, metD "count" (.lst (xs.map .str)) [.str x] st = some (.int (j : Nat), st) := by
  refine ⟨(xs.map PyData.str).countP fun z => PyData.eqv z (.str x), ?_⟩
  have e : metD "count" (.lst (xs.map .str)) [.str x] st = (countD st (.lst (xs.map .str)) (.str x)).map fun d => (d, st) := by kernel_rfl
  rw [e]
  have e2 : countD st (.lst (xs.map .str)) (.str x) = some (.int ((xs.map PyData.str).countP fun z => PyData.eqv z (.str x) : Nat)) := by
    unfold countD
    show (match D.toPs (xs.map .str), (some (PyData.str x) : Option PyData) with
      | some ps, some q => if PyData.canLayAll0 ps && q.canLay0 && Nat.ble q.depth most then some (D.int (ps.countP fun z => PyData.eqv z q : Nat)) else none
      | _, _ => none) = _
    rw [toPs_str]
    show (if (PyData.canLayAll0 (xs.map PyData.str) && (PyData.str x).canLay0 && Nat.ble (PyData.str x).depth most) = true then _ else none) = _
    rw [lay_strs h, okS_lay (okS_nm hx)]; rfl
  rw [e2]; rfl
theorem size_c {d : Nat} (h : d < 5) : ∃ s : Nat, Sm s ∧ 1 ≤ s ∧ s ≤ 3 ∧ ∀ st, ixD st (.lst [.int 1, .int 1, .int 2, .int 2, .int 3]) (iD d) = some (.int (s : Nat)) := by
  have : d = 0 ∨ d = 1 ∨ d = 2 ∨ d = 3 ∨ d = 4 := by omega
  rcases this with rfl | rfl | rfl | rfl | rfl
  · exact ⟨1, .inl rfl, by decide, by decide, fun _ => rfl⟩
  · exact ⟨1, .inl rfl, by decide, by decide, fun _ => rfl⟩
  · exact ⟨2, .inr (.inl rfl), by decide, by decide, fun _ => rfl⟩
  · exact ⟨2, .inr (.inl rfl), by decide, by decide, fun _ => rfl⟩
  · exact ⟨3, .inr (.inr (.inl rfl)), by decide, by decide, fun _ => rfl⟩
end Hd

end
section
open Wk PySem
set_option maxRecDepth 100000
set_option maxHeartbeats 2000000
namespace Hd
theorem strs_under : ∀ {ls : List Str}, D.unders 2 (ls.map .str) = true
  | [] => rfl
  | x :: ls => by show (true && D.unders 2 (ls.map .str)) = true; rw [strs_under]; rfl
theorem pure_under : ∀ (d : D), d.pure = true → d.under 2 = true := by
  intro d
  exact D.rec (motive_1 := fun d => d.pure = true → d.under 2 = true) (motive_2 := fun ds => D.pures ds = true → D.unders 2 ds = true)
    (fun _ => rfl) (fun _ _ => rfl) (fun _ _ => rfl) (fun _ _ => rfl) (fun _ ih h => ih h) (fun _ ih h => ih h)
    (fun ks vs i1 i2 h => by
      have h : (D.pures ks && D.pures vs) = true := h
      rw [Bool.and_eq_true] at h
      show (D.unders 2 ks && D.unders 2 vs) = true
      rw [i1 h.1, i2 h.2]; rfl)
    (fun _ h => by cases h) (fun _ _ => rfl) (fun _ _ ih h => ih h) (fun _ => rfl)
    (fun d ds i1 i2 h => by
      have h : (d.pure && D.pures ds) = true := h
      rw [Bool.and_eq_true] at h
      show (d.under 2 && D.unders 2 ds) = true
      rw [i1 h.1, i2 h.2]; rfl) d
theorem knds_under {K : List Knd} : D.unders 2 (K.map knd) = true := by
  have h : D.pures (K.map knd) = true := knds_pure
  exact pure_under (.lst (K.map knd)) h
end Hd

end
section
open Wk PySem
set_option maxRecDepth 100000
set_option maxHeartbeats 2000000
namespace Hd
def dropU (o : Option D) : Option D := match o with
  | some d => if d.under 2 then some d else none
  | none => none
theorem dropU_id {o : Option D} (h : ∀ d, o = some d → d.under 2 = true) : dropU o = o := by
  cases o with
  | none => rfl
  | some d => unfold dropU; simp only [h d rfl, if_true]
def Un2 (o : Option D) : Prop := ∀ d, o = some d → d.under 2 = true
theorem un_i {i : Int} : Un2 (some (.int i)) := fun d e => by cases e; rfl
abbrev kst (a b c : Int) (K : List Knd) : Store := pr a b c [.lst false (K.map knd)]
theorem keep_ok {o o' : Option D} (h : Un2 o') : (match (o, o') with
  | (some _, some d) => d.under 2
  | _ => true) = true := by
  cases o with
  | none => rfl
  | some d => cases o' with
    | none => rfl
    | some e => exact h e rfl
theorem ix_ls {ls : List Str} {w : Nat} (h : w < ls.length) {st : Store} : ixD st (letters ls) (iD w) = some (.str ls[w]) := by
  show L2.atI (ls.map D.str) (w : Nat) = _
  exact at_nat (by simp [h])
theorem len_ls {ls : List Str} {st : Store} : bltD "len" [letters ls] st = some (.int (ls.length : Nat)) := by
  have e : bltD "len" [letters ls] st = some (.int ((ls.map D.str).length : Nat)) := by kernel_rfl
  rw [e, List.length_map]
/-- one turn of the outer loop -/
theorem kinds_1 {mo : Int} {n many : Nat} (hm : Sm many) {ls : List Str} (hls : LsOk ls) {b : Int} (i : Nat) (K : List Knd) (a c : Int) (x5 x7 x9 x10 : Option D) (u9 : Un2 x9) (hK : ∀ k ∈ K, KndOk many k) (hl : K.length < 90) (h1 : 0 ≤ c) (h2 : c < 2 ^ 54) :
    ∃ (k : Knd) (a' c' : Int) (y7 y9 y10 : Option D), KndOk many k ∧ Un2 y9 ∧ c ≤ c' ∧ c' ≤ c + 40 ∧
      loopF (Cn (n + 3)) (.nm 5) obd (iD i) [some (.loc 0), some (letters ls), some (.int mo), some (.int (many : Nat)), some (.loc 1), x5, none, x7, none, x9, x10, none] (kst a b c K) =
        some (.ok (.nx [some (.loc 0), some (letters ls), some (.int mo), some (.int (many : Nat)), some (.loc 1), some (iD i), none, y7, none, y9, y10, none]) (kst a' b c' (K ++ [k]))) := by
  obtain ⟨l1, l2, l3⟩ := ls_len hls
  let R1 : Store := [.lst false (K.map knd)]
  obtain ⟨d, a1, c1, p1, p2, p3, p4⟩ := take_g (n := n + 1) (m := 5) (.inr (.inr (.inr (.inr rfl)))) (a := a) (b := b) (c := c) (R := R1) h1 (by omega)
  obtain ⟨size, hs, s1, s3, six⟩ := size_c p1
  obtain ⟨S, a2, c2, y9, q0, q1, q2, q3, q4, q5⟩ := states_l (n := n) hm hs (b := b) (v1 := some (letters ls)) (v2 := some (.int mo)) (v5 := some (iD i)) (v10 := x10) (K := .lst false (K.map knd)) ((List.range size).map fun (i : Nat) => .int (i : Int)) [] a1 c1 x9 (fun x hx => by obtain ⟨j, _, rfl⟩ := List.mem_map.mp hx; rfl) u9 (by simp) (by simp; omega) (by omega) (by simp; omega)
  simp only [List.length_map, List.length_range, List.length_nil] at q2 q4
  let R2 : Store := [.lst false (K.map knd), .lst false (S.map stt)]
  obtain ⟨w, a3, c3, r1, r2, r3, r4⟩ := take_g (n := n + 1) l1 (a := a2) (b := b) (c := c2) (R := R2) (by omega) (by omega)
  let k : Nat → Knd := fun w => (ls[w]?.getD nA, S)
  let E (w : Nat) : List (Option D) := [some (.loc 0), some (letters ls), some (.int mo), some (.int (many : Nat)), some (.loc 1), some (iD i), none, some (.int (size : Nat)), some (.loc 2), y9, some (iD w), none]
  let st3 : Store := pr a3 b c3 R2
  -- the end of the turn
  have fin : ∀ w', w' < ls.length → Ess (Cn (n + 3)) (E w') (.cons (obd.at_ 5) .nil) st3 (.nx (E w')) (pr a3 b c3 [.lst false ((K ++ [k w']).map knd), .lst false (S.map stt)]) := fun w' hw => by
    have e1 : bltD "tuple" [.loc 2] st3 = some (.tup (S.map stt)) := by kernel_rfl
    have e2 : metD "append" (.loc 1) [knd (k w')] st3 = some (.non, pr a3 b c3 [.lst false ((K ++ [k w']).map knd), .lst false (S.map stt)]) := by
      show (if Nat.blt (K.map knd).length sizeLine = true then some (D.non, st3.set 1 (.lst false (K.map knd ++ [knd (k w')]))) else none) = _
      rw [if_pos (by rw [List.length_map, sizeLine_eq]; exact Nat.blt_eq.mpr (by omega))]
      simp [st3, R2]
    have e3 : knd (k w') = .tup [.str ls[w'], .tup (S.map stt)] := by simp [k, knd, hw]
    rw [e3] at e2
    exact Ess.nx (Es.ex (Ev.met (Ev.var rfl) rfl (EvA.cons (Ev.tup (EvA.cons (Ev.ix (Ev.var rfl) (Ev.var rfl) (ix_ls hw)) (EvA.cons (Ev.blt (EvA.cons (Ev.var rfl) EvA.nil) e1) EvA.nil)) rfl) EvA.nil) e2)) Ess.nil
  have hk : ∀ w', w' < ls.length → KndOk many (k w') := fun w' hw => by
    have : (k w').1 = ls[w'] := by simp [k, hw]
    exact ⟨by rw [this]; exact nm_of hls _ (List.getElem_mem hw), by show 1 ≤ S.length; omega, by show S.length ≤ 3; omega, fun s hs' => by
      have := q1 s hs'
      have e : S.length = size := by omega
      show StpsOk many S.length s.2
      rw [e]; exact this⟩
  -- the count
  have kl : eachM (lcF (Cn (n + 3)) (.ix (.var 11) (.cst (.int 0))) (.nm 11) false (.cst .non) [11] (E w)) (K.map knd) (st3.set 1 (.lst true (K.map knd))) = some (.ok (K.map fun k => .str k.1) (st3.set 1 (.lst true (K.map knd)))) :=
    each_map fun k hk => lcF_ok (env' := [some (.loc 0), some (letters ls), some (.int mo), some (.int (many : Nat)), some (.loc 1), some (iD i), none, some (.int (size : Nat)), some (.loc 2), y9, some (iD w), some (knd k)]) rfl (Ev.ix (Ev.var rfl) Ev.cst rfl)
  have e0 : (K.map fun k => D.str k.1) = (K.map (·.1)).map .str := by rw [List.map_map]; rfl
  rw [e0] at kl
  have kc : Ev (Cn (n + 3)) (E w) (.lc false (.ix (.var 11) (.cst (.int 0))) (.nm 11) .val (.cons false (.var 4) .nil) false (.cst .non) [("_law_kind", 11)]) st3 (.lst ((K.map (·.1)).map .str)) st3 :=
    Ev.lc (n := some 1) (its := K.map knd) (EvA.cons (Ev.var rfl) EvA.nil) rfl (fit_small (by rw [List.length_map]; omega)) (wl_eq (st := st3) (n := 1) rfl kl rfl) (fit_small (by simp; omega))
  obtain ⟨j, hj⟩ := count_c (xs := K.map (·.1)) (x := ls[w]) (st := st3) (fun y hy => by obtain ⟨k, hk', rfl⟩ := List.mem_map.mp hy; exact (hK k hk').1) (nm_of hls _ (List.getElem_mem r1))
  have kg : Ev (Cn (n + 3)) (E w) (.cmp .Gt (.met "count" (.lc false (.ix (.var 11) (.cst (.int 0))) (.nm 11) .val (.cons false (.var 4) .nil) false (.cst .non) [("_law_kind", 11)]) (.cons false (.ix (.var 1) (.var 10)) .nil)) (.cst (.int 2))) st3 (.bl (decide ((2 : Int) < (j : Nat)))) st3 :=
    Ev.cmp (Ev.met kc rfl (EvA.cons (Ev.ix (Ev.var rfl) (Ev.var rfl) (ix_ls r1)) EvA.nil) hj) Ev.cst rfl
  have rest : ∃ w', w' < ls.length ∧ Ess (Cn (n + 3)) (E w) (.cons (obd.at_ 4) (.cons (obd.at_ 5) .nil)) st3 (.nx (E w')) (pr a3 b c3 [.lst false ((K ++ [k w']).map knd), .lst false (S.map stt)]) := by
    cases hb : decide ((2 : Int) < (j : Nat)) with
    | false => rw [hb] at kg; exact ⟨w, r1, Ess.nx (Es.iffF kg Ess.nil) (fin w r1)⟩
    | true =>
      rw [hb] at kg
      have hmod : binD .Mod (.int ((w : Nat) + 1)) (.int (ls.length : Nat)) st3 = some (iD ((w + 1) % ls.length)) := by
        rw [modI (by omega)]; rfl
      have hlt : (w + 1) % ls.length < ls.length := Nat.mod_lt _ l3
      exact ⟨(w + 1) % ls.length, hlt, Ess.nx (Es.iffT kg (Ess.nx (Es.set (Ev.bin (Ev.blt (EvA.cons (Ev.bin (Ev.var rfl) Ev.cst rfl) EvA.nil) rfl) (Ev.blt (EvA.cons (Ev.var rfl) EvA.nil) len_ls) hmod) (show 10 < 12 by decide)) Ess.nil)) (fin _ hlt)⟩
  obtain ⟨w', hw', rest⟩ := rest
  refine ⟨k w', a3, c3, some (.int (size : Nat)), y9, some (iD w'), hk w' hw', q0, by omega, by omega, ?_⟩
  have body : Ess (Cn (n + 3)) [some (.loc 0), some (letters ls), some (.int mo), some (.int (many : Nat)), some (.loc 1), some (iD i), none, x7, none, x9, x10, none] obd (kst a b c K) (.nx (E w')) (pr a3 b c3 [.lst false ((K ++ [k w']).map knd), .lst false (S.map stt)]) :=
    Ess.nx (Es.set (Ev.ix (Ev.lst (EvA.cons Ev.cst (EvA.cons Ev.cst (EvA.cons Ev.cst (EvA.cons Ev.cst (EvA.cons Ev.cst EvA.nil))))) rfl) (Ev.call (EvA.cons (Ev.var rfl) (EvA.cons Ev.cst EvA.nil)) p4) (six _)) (show 7 < 12 by decide))
      (Ess.nx (Es.set (Ev.lstA EvA.nil rfl) (show 8 < 12 by decide)) (Ess.nx (Es.loopN (EvA.cons (Ev.var rfl) EvA.nil) (it_range (by omega)) q5) (Ess.nx (Es.set (Ev.call (EvA.cons (Ev.var rfl) (EvA.cons (Ev.blt (EvA.cons (Ev.var rfl) EvA.nil) len_ls) EvA.nil)) r4) (show 10 < 12 by decide)) rest)))
  have ul : (letters ls).under 2 = true := strs_under
  have keep : keepE 2 [some (.loc 0), some (letters ls), some (.int mo), some (.int (many : Nat)), some (.loc 1), x5, none, x7, none, x9, x10, none] (E w') = true := by
    unfold keepE
    rw [List.all_eq_true]
    intro p hp
    simp only [E, List.zip_cons_cons, List.zip_nil_right, List.mem_cons, List.not_mem_nil, or_false] at hp
    rcases hp with rfl | rfl | rfl | rfl | rfl | rfl | rfl | rfl | rfl | rfl | rfl | rfl
    · rfl
    · exact ul
    · rfl
    · rfl
    · rfl
    · exact keep_ok un_i
    · rfl
    · exact keep_ok un_i
    · rfl
    · exact keep_ok q0
    · exact keep_ok un_i
    · rfl
  have unds : ((pr a3 b c3 [.lst false ((K ++ [k w']).map knd), .lst false (S.map stt)]).take 2).all (Ob.under 2) = true := by
    show (true && (D.unders 2 ((K ++ [k w']).map knd) && true)) = true
    rw [knds_under]; rfl
  have tr := loopF_tr (C := Cn (n + 3)) (tg := .nm 5) (d := iD i) (env := [some (.loc 0), some (letters ls), some (.int mo), some (.int (many : Nat)), some (.loc 1), x5, none, x7, none, x9, x10, none]) rfl body rfl (by rw [Bool.and_eq_true]; exact ⟨unds, keep⟩)
  rw [tr]
  have te : trimE 2 (E w') = [some (.loc 0), some (letters ls), some (.int mo), some (.int (many : Nat)), some (.loc 1), some (iD i), none, some (.int (size : Nat)), none, y9, some (iD w'), none] := by
    have h9 : dropU y9 = y9 := dropU_id q0
    show [some (D.loc 0), dropU (some (letters ls)), some (D.int mo), some (D.int (many : Nat)), some (D.loc 1), some (iD i), none, some (D.int (size : Nat)), none, dropU y9, some (iD w'), none] = _
    rw [h9, dropU_id (o := some (letters ls)) fun d e => by cases e; exact ul]
  show some (Out.ok (Fl.nx (trimE 2 (E w'))) _) = _
  rw [te]; rfl
end Hd

end
section
open Wk PySem
set_option maxRecDepth 100000
set_option maxHeartbeats 2000000
namespace Hd
theorem kinds_l {mo : Int} {n many : Nat} (hm : Sm many) {ls : List Str} (hls : LsOk ls) {b : Int} : ∀ (is : List Nat) (K : List Knd) (a c : Int) (x5 x7 x9 x10 : Option D), Un2 x9 → (∀ k ∈ K, KndOk many k) → K.length + is.length < 90 → 0 ≤ c → c + 40 * is.length < 2 ^ 54 →
    ∃ (K2 : List Knd) (a' c' : Int) (y5 y7 y9 y10 : Option D), (∀ k ∈ K2, KndOk many k) ∧ K2.length = K.length + is.length ∧ c ≤ c' ∧ c' ≤ c + 40 * is.length ∧
      loopM (loopF (Cn (n + 3)) (.nm 5) obd) (is.map iD) [some (.loc 0), some (letters ls), some (.int mo), some (.int (many : Nat)), some (.loc 1), x5, none, x7, none, x9, x10, none] (kst a b c K) =
        some (.ok (.nx [some (.loc 0), some (letters ls), some (.int mo), some (.int (many : Nat)), some (.loc 1), y5, none, y7, none, y9, y10, none]) (kst a' b c' K2))
  | [], K, a, c, x5, x7, x9, x10, _, hK, _, _, _ => ⟨K, a, c, x5, x7, x9, x10, hK, rfl, Int.le_refl _, by simp, rfl⟩
  | i :: is, K, a, c, x5, x7, x9, x10, u9, hK, hl, h1, h2 => by
    simp only [List.length_cons] at hl h2
    obtain ⟨k, a1, c1, y7, y9, y10, g1, g2, g3, g4, g5⟩ := kinds_1 (mo := mo) (n := n) hm hls (b := b) i K a c x5 x7 x9 x10 u9 hK (by omega) h1 (by omega)
    obtain ⟨K2, a2, c2, z5, z7, z9, z10, k1, k2, k3, k4, k5⟩ := kinds_l (mo := mo) (n := n) hm hls (b := b) is (K ++ [k]) a1 c1 (some (iD i)) y7 y9 y10 g2 (fun r hr => (List.mem_append.mp hr).elim (hK r) fun z => by rw [List.mem_singleton.mp z]; exact g1) (by simp; omega) (by omega) (by omega)
    refine ⟨K2, a2, c2, z5, z7, z9, z10, k1, by rw [k2]; simp; omega, by omega, by simp only [List.length_cons]; omega, ?_⟩
    rw [← k5]
    exact loop_cons g5
end Hd

end
section
open Wk PySem
set_option maxRecDepth 100000
set_option maxHeartbeats 2000000
namespace Hd
def tcond : Ex := .or (.cmp .Eq (.var 5) (.cst (.int 0))) (.cmp .Eq (.call false "_law_take" (.cons false (.var 0) (.cons false (.cst (.int 3)) .nil))) (.cst (.int 0)))
theorem eq_i {i j : Int} {st : Store} : cmpD .Eq (.int i) (.int j) st = some (decide (i = j)) := by
  show eqD st (.int i) (.int j) = some _
  rw [eqD_int]
theorem tops_l {n : Nat} {b : Int} {R : Store} {v1 v2 v3 v4 v5 v7 v9 v10 : Option D} : ∀ (is : List Nat) (a c : Int), 0 ≤ c → c + is.length < 2 ^ 56 →
    ∃ (ts : List Nat) (a' c' : Int), List.Sublist ts is ∧ c ≤ c' ∧ c' ≤ c + is.length ∧
      eachM (lcF (Cn (n + 2)) (.var 5) (.nm 5) true tcond [5] [some (.loc 0), v1, v2, v3, v4, v5, none, v7, none, v9, v10, none]) (is.map iD) (pr a b c R) = some (.ok (ts.map iD) (pr a' b c' R))
  | [], a, c, _, _ => ⟨[], a, c, List.Sublist.slnil, Int.le_refl _, by simp, rfl⟩
  | i :: is, a, c, h1, h2 => by
    simp only [List.length_cons] at h2
    have key : ∃ (a1 c1 : Int) (r : Bool), c ≤ c1 ∧ c1 ≤ c + 1 ∧ lcF (Cn (n + 2)) (.var 5) (.nm 5) true tcond [5] [some (.loc 0), v1, v2, v3, v4, v5, none, v7, none, v9, v10, none] (iD i) (pr a b c R) = some (.ok (if r then some (iD i) else none) (pr a1 b c1 R)) := by
      cases h0 : decide ((i : Int) = 0) with
      | true =>
        refine ⟨a, c, true, Int.le_refl _, by omega, lcF_t rfl (Ev.orT ?_) (Ev.var rfl)⟩
        rw [← h0]
        exact Ev.cmp (Ev.var rfl) Ev.cst eq_i
      | false =>
        obtain ⟨d, a1, c1, p1, p2, p3, p4⟩ := take_g (n := n) (m := 3) (.inr (.inr (.inl rfl))) (a := a) (b := b) (c := c) (R := R) h1 (by omega)
        have hc : Ev (Cn (n + 2)) [some (.loc 0), v1, v2, v3, v4, some (iD i), none, v7, none, v9, v10, none] tcond (pr a b c R) (.bl (decide ((d : Int) = 0))) (pr a1 b c1 R) :=
          Ev.orF (st1 := pr a b c R) (by rw [← h0]; exact Ev.cmp (Ev.var rfl) Ev.cst eq_i) (Ev.cmp (Ev.call (EvA.cons (Ev.var rfl) (EvA.cons Ev.cst EvA.nil)) p4) Ev.cst eq_i)
        cases hd : decide ((d : Int) = 0) with
        | true => rw [hd] at hc; exact ⟨a1, c1, true, p2, p3, lcF_t rfl hc (Ev.var rfl)⟩
        | false => rw [hd] at hc; exact ⟨a1, c1, false, p2, p3, lcF_f rfl hc⟩
    obtain ⟨a1, c1, r, g1, g2, g3⟩ := key
    obtain ⟨ts, a2, c2, k1, k2, k3, k4⟩ := tops_l (n := n) (b := b) (R := R) (v1 := v1) (v2 := v2) (v3 := v3) (v4 := v4) (v5 := v5) (v7 := v7) (v9 := v9) (v10 := v10) is a1 c1 (by omega) (by omega)
    refine ⟨if r then i :: ts else ts, a2, c2, ?_, by omega, by simp only [List.length_cons]; omega, ?_⟩
    · cases r with
      | true => exact k1.cons₂ i
      | false => exact k1.cons i
    · show M.bind (lcF _ _ _ _ _ _ _ (iD i)) _ _ = _
      rw [bind_ok g3]; show M.bind (eachM _ (is.map iD)) _ _ = _
      rw [bind_ok k4]
      cases r <;> rfl
end Hd

end
section
open Wk PySem
set_option maxRecDepth 100000
set_option maxHeartbeats 2000000
namespace Hd
theorem pwn_zip : ∀ {L : List Nat}, L.Pairwise (· < ·) → ∀ p ∈ L.zip (L.drop 1), p.1 < p.2
  | [], _, p, h => by simp at h
  | [a], _, p, h => by simp at h
  | a :: b :: L, hp, p, h => by
    obtain ⟨h1, h2⟩ := List.pairwise_cons.mp hp
    have h : p ∈ (a, b) :: (b :: L).zip ((b :: L).drop 1) := h
    rcases List.mem_cons.mp h with z | z
    · rw [z]; exact h1 b List.mem_cons_self
    · exact pwn_zip h2 p z
theorem schema_c {n mo : Nat} (hmo : Sm mo) {ls : List Str} (hls : LsOk ls) {a b c : Int} (h1 : 0 ≤ c) (h2 : c < 2 ^ 50) : ∃ (ts : List Nat) (ks : List Knd) (a' c' : Int), SchOk ts ks ∧ c ≤ c' ∧ c' ≤ c + 1000 ∧
    (Cn (n + 4)).call "_law_schema" [.loc 0, letters ls, .int (mo : Nat)] (pst a b c) = some (.ok (sch ts ks) (kst a' b c' ks)) := by
  rw [call_s (F := v__law_schema) (by kernel_rfl)]
  obtain ⟨l1, l2, l3⟩ := ls_len hls
  obtain ⟨d, a1, c1, p1, p2, p3, p4⟩ := take_g (n := n + 1) (m := mo) hmo (a := a) (b := b) (c := c) (R := []) h1 (by omega)
  obtain ⟨many, hmin, m1, m2⟩ : ∃ many : Nat, bltD "min" [.int (1 + (d : Nat)), .int (2 + (ls.length : Nat))] (pst a1 b c1) = some (.int (many : Nat)) ∧ 1 ≤ many ∧ many ≤ 5 := by
    have e : bltD "min" [.int (1 + (d : Nat)), .int (2 + (ls.length : Nat))] (pst a1 b c1) = some (.int (if (2 + (ls.length : Nat) : Int) < 1 + (d : Nat) then 2 + (ls.length : Nat) else 1 + (d : Nat))) := by kernel_rfl
    rw [e]
    by_cases hlt : (2 + (ls.length : Nat) : Int) < 1 + (d : Nat)
    · exact ⟨2 + ls.length, by rw [if_pos hlt]; rfl, by omega, by have := hmo; unfold Sm at this; omega⟩
    · exact ⟨1 + d, by rw [if_neg hlt]; rfl, by omega, by have := hmo; unfold Sm at this; omega⟩
  have hm : Sm many := by unfold Sm; omega
  obtain ⟨ks, a2, c2, y5, y7, y9, y10, k1, k2, k3, k4, k5⟩ := kinds_l (mo := (mo : Nat)) (n := n) hm hls (b := b) (List.range many) [] a1 c1 none none none none (fun _ z => nomatch z) (by simp) (by simp; omega) (by omega) (by simp; omega)
  simp only [List.length_range, List.length_nil, Nat.zero_add] at k2 k4
  obtain ⟨ts, a3, c3, t1, t2, t3, t4⟩ := tops_l (n := n + 1) (b := b) (R := [.lst false (ks.map knd)]) (v1 := some (letters ls)) (v2 := some (.int (mo : Nat))) (v3 := some (.int (many : Nat))) (v4 := some (.loc 1)) (v5 := none) (v7 := y7) (v9 := y9) (v10 := y10) (List.range many) a2 c2 (by omega) (by simp; omega)
  simp only [List.length_range] at t3
  have tl : ts.length ≤ many := by have := t1.length_le; simpa using this
  have ok : SchOk ts ks := ⟨by omega, by omega, by omega, fun t ht => by rw [k2]; have := t1.subset ht; simpa using this, pwn_zip (List.Pairwise.sublist t1 List.pairwise_lt_range), fun k hk => by rw [k2]; exact k1 k hk⟩
  have e1 : bltD "tuple" [.lst (ts.map iD)] (kst a3 b c3 ks) = some (tps ts) := by kernel_rfl
  have e2 : bltD "tuple" [.loc 1] (kst a3 b c3 ks) = some (.tup (ks.map knd)) := by kernel_rfl
  refine ⟨ts, ks, a3, c3, ok, by omega, by omega, ?_⟩
  exact run_rt rfl (Ess.nx (Es.set (Ev.blt (EvA.cons (Ev.bin Ev.cst (Ev.call (EvA.cons (Ev.var rfl) (EvA.cons (Ev.var rfl) EvA.nil)) p4) rfl) (EvA.cons (Ev.bin Ev.cst (Ev.blt (EvA.cons (Ev.var rfl) EvA.nil) len_ls) rfl) EvA.nil)) hmin) (show 3 < 12 by decide))
    (Ess.nx (Es.set (Ev.lstA EvA.nil rfl) (show 4 < 12 by decide)) (Ess.nx (Es.loopN (EvA.cons (Ev.var rfl) EvA.nil) (it_range (by omega)) k5)
    (Ess.nx (Es.set (Ev.lc (n := none) (its := (List.range many).map iD) (EvA.cons (Ev.var rfl) EvA.nil) (it_range (by omega)) (fit_small (by simp; omega)) t4 (fit_small (by rw [List.length_map]; omega))) (show 6 < 12 by decide))
    (Ess.rt (Es.ret (Ev.tup (EvA.cons (Ev.blt (EvA.cons (Ev.var rfl) EvA.nil) e1) (EvA.cons (Ev.blt (EvA.cons (Ev.var rfl) EvA.nil) e2) EvA.nil)) rfl)))))))
end Hd

end
section
open Wk PySem
set_option maxRecDepth 100000
set_option maxHeartbeats 2000000
namespace Hd
theorem callD_mx {C : Wk.Ctx} {f : Str} {m : Nat} {ws xs xs' : List D} {d : D} {st more : Store} (hm : st[m]? = some (.lst false xs)) (hx : D.pures xs = true) (hw : D.pures ws = true) (h : C.call f (.loc 0 :: ws) [.lst false xs] = some (.ok d (.lst false xs' :: more))) (hd : d.pure = true) (hx' : D.pures xs' = true) : callD C false f (.loc m :: ws) st = some (.ok d (st.set m (.lst false xs'))) := by
  obtain ⟨w1, w2, w3⟩ := locs_pure hw
  have el : locs (.loc m :: ws) = [m] := by show m :: locs ws = _; rw [w1]
  have h1 : ((D.loc m :: ws).all argOk && decide (locs (.loc m :: ws)).Nodup) = true := by
    rw [el, List.all_cons, w3]
    simp [argOk]
  have h2 : obsAt st (locs (.loc m :: ws)) = some [.lst false xs] := by
    rw [el]
    show (st[m]?).bind _ = _
    rw [hm]; rfl
  have h3 : ([Ob.lst false xs] : List Ob).all Ob.pure = true := by
    show ((Ob.lst false xs).pure && true) = true
    rw [Bool.and_true]; exact hx
  have e : renum 0 (.loc m :: ws) = .loc 0 :: ws := by show D.loc 0 :: renum 1 ws = _; rw [w2]
  have hb : backD false (locs (.loc m :: ws)) d (.lst false xs' :: more) st = some (d, st.set m (.lst false xs')) := by
    rw [el]
    unfold backD
    have hf : frzs (.lst false xs' :: more) ([m] : List Nat).length ((.lst false xs' :: more : Store).take ([m] : List Nat).length) = some [.lst false xs'] := by
      show (Ob.frz (.lst false xs' :: more) 1 (.lst false xs')).bind _ = _
      have := Ob.frz_pure (st := .lst false xs' :: more) (o := .lst false xs') (n0 := 1) hx'
      rw [this]; rfl
    rw [hf]
    cases d with
    | loc n => cases hd
    | _ => exact congrArg (Option.map fun e => (e, st.set m (.lst false xs'))) (D.sub_pure (ρ := deepAt (.lst false xs' :: more) 1 (.lst false xs' :: more).length) _ hd)
  unfold callD
  rw [if_pos h1, h2]
  show (if (([Ob.lst false xs] : List Ob).all Ob.pure) = true then _ else none) = _
  rw [if_pos h3, e, h]
  simp only [hb]
theorem schema_d {n mo : Nat} (hmo : Sm mo) {ls : List Str} (hls : LsOk ls) {a b c : Int} {R : Store} (h1 : 0 ≤ c) (h2 : c < 2 ^ 50) : ∃ (ts : List Nat) (ks : List Knd) (a' c' : Int), SchOk ts ks ∧ c ≤ c' ∧ c' ≤ c + 1000 ∧ callD (Cn (n + 4)) false "_law_schema" [.loc 0, letters ls, .int (mo : Nat)] (pr a b c R) = some (.ok (sch ts ks) (pr a' b c' R)) := by
  obtain ⟨ts, ks, a', c', g1, g2, g3, g4⟩ := schema_c (n := n) hmo hls (a := a) (b := b) h1 h2
  have lp : (letters ls).pure = true := by rcases hls with rfl | rfl | rfl <;> rfl
  exact ⟨ts, ks, a', c', g1, g2, g3, callD_mx (st := pr a b c R) (m := 0) (ws := [letters ls, .int (mo : Nat)]) rfl rfl (pu2 lp rfl) g4 sch_pure rfl⟩
end Hd

end
section
open Wk PySem
set_option maxRecDepth 100000
set_option maxHeartbeats 2000000
namespace Hd
/-- some pure thing comes of each -/
theorem each_pu {f : D → M (Option D)} {st : Store} (P : D → Prop) : ∀ (xs : List D), (∀ x ∈ xs, W (f x) st fun o s => s = st ∧ ∀ y, o = some y → P y) → W (eachM f xs) st fun ys s => s = st ∧ ys.length ≤ xs.length ∧ ∀ y ∈ ys, P y
  | [], _ => ⟨[], st, rfl, rfl, Nat.le_refl _, by simp⟩
  | x :: xs, h => by
    refine W_bind ((h x List.mem_cons_self).mono fun o s ⟨e, p⟩ => ?_)
    subst e
    refine W_bind ((each_pu P xs fun z hz => h z (List.mem_cons_of_mem _ hz)).mono fun ys s2 ⟨e2, l, q⟩ => ?_)
    subst e2
    cases o with
    | none => exact ⟨_, _, rfl, rfl, Nat.le_succ_of_le l, q⟩
    | some y => exact ⟨_, _, rfl, rfl, Nat.succ_le_succ l, fun z hz => (List.mem_cons.mp hz).elim (fun e => e ▸ p y rfl) (q z)⟩
theorem fit5 {n : Nat} (h : n ≤ 100) : fit n = true := fit_small (by omega)
theorem pur {ys : List D} (h : ∀ y ∈ ys, y.pure = true) : D.pures ys = true := pures_of h
theorem put2 {a b : D} (h1 : a.pure = true) (h2 : b.pure = true) : (D.tup [a, b]).pure = true := pu2 h1 h2
theorem app_le {xs : List D} {y : D} {st : Store} {n : Nat} (h : st[n]? = some (.lst false xs)) (hl : xs.length < 1000) : metD "append" (.loc n) [y] st = some (.non, st.set n (.lst false (xs ++ [y]))) := by
  show (match st[n]? with
      | some (.lst false xs) => if Nat.blt xs.length sizeLine then some (D.non, st.set n (.lst false (xs ++ [y]))) else none
      | _ => none) = _
  rw [h]
  show (if Nat.blt xs.length sizeLine = true then _ else none) = _
  rw [if_pos (by rw [sizeLine_eq]; exact Nat.blt_eq.mpr (by omega))]
theorem pure_in : ∀ {ds : List D} {z : D}, D.pures ds = true → z ∈ ds → z.pure = true
  | d :: ds, z, h, hz => by
    have h : (d.pure && D.pures ds) = true := h
    rw [Bool.and_eq_true] at h
    rcases List.mem_cons.mp hz with e | e
    · rw [e]; exact h.1
    · exact pure_in h.2 e
theorem eachL_pu {f : D → M (List D)} {st : Store} (P : D → Prop) (m : Nat) : ∀ (xs : List D), (∀ x ∈ xs, W (f x) st fun ys s => s = st ∧ ys.length ≤ m ∧ ∀ y ∈ ys, P y) → W (eachL f xs) st fun ys s => s = st ∧ ys.length ≤ m * xs.length ∧ ∀ y ∈ ys, P y
  | [], _ => ⟨[], st, rfl, rfl, Nat.zero_le _, by simp⟩
  | x :: xs, h => by
    refine W_bind ((h x List.mem_cons_self).mono fun o s ⟨e, l, p⟩ => ?_)
    subst e
    refine W_bind ((eachL_pu P m xs fun z hz => h z (List.mem_cons_of_mem _ hz)).mono fun ys s2 ⟨e2, l2, q⟩ => ?_)
    subst e2
    refine ⟨_, _, rfl, rfl, ?_, fun z hz => (List.mem_append.mp hz).elim (p z) (q z)⟩
    rw [List.length_append, List.length_cons, Nat.mul_succ]; omega
theorem fl_s {us : List Stp} {q : Stp} : flOk (us.map stp) (kyS q) = true := by
  cases us with
  | nil => rfl
  | cons a us => show (match (stp a).toDK with | some q' => q'.fl == (kyS q).fl | none => false) = true; rw [stp_dk]; rfl
theorem kix_lt : ∀ {ks : List D} {k : DK} {i : Nat}, kIx ks k = some i → i < ks.length
  | [], k, i, h => by cases h
  | d :: ds, k, i, h => by
    have h : (if d.toDK = some k then some 0 else (kIx ds k).map (· + 1)) = some i := h
    split at h
    · cases h; exact Nat.succ_pos _
    · cases e : kIx ds k with
      | none => rw [e] at h; cases h
      | some j => rw [e] at h; cases h; exact Nat.succ_lt_succ (kix_lt e)
theorem eachL_one {α : Type} {f : D → M (List D)} {st : Store} {u v : α → D} : ∀ {xs : List α}, (∀ a ∈ xs, W (f (u a)) st fun ys s => s = st ∧ ys = [v a]) → W (eachL f (xs.map u)) st fun ys s => s = st ∧ ys = xs.map v
  | [], _ => ⟨[], st, rfl, rfl, rfl⟩
  | x :: xs, h => by
    refine W_bind ((h x List.mem_cons_self).mono fun o s ⟨e, p⟩ => ?_)
    subst e p
    refine W_bind ((eachL_one fun z hz => h z (List.mem_cons_of_mem _ hz)).mono fun ys s2 ⟨e2, p2⟩ => ?_)
    subst e2 p2
    exact ⟨_, _, rfl, rfl, rfl⟩
theorem stps_of {P : Stp → Prop} : ∀ {ys : List D}, (∀ y ∈ ys, ∃ q : Stp, y = stp q ∧ P q) → ∃ ps : List Stp, ys = ps.map stp ∧ ∀ q ∈ ps, P q
  | [], _ => ⟨[], rfl, by simp⟩
  | y :: ys, ep => by
    obtain ⟨q, rfl, hq⟩ := ep y List.mem_cons_self
    obtain ⟨ps, rfl, hp⟩ := stps_of fun z hz => ep z (List.mem_cons_of_mem _ hz)
    exact ⟨q :: ps, rfl, fun r hr => (List.mem_cons.mp hr).elim (fun e => e ▸ hq) (hp r)⟩
theorem kx_lt : ∀ {us : List Stp} {q : Stp} {i : Nat}, kIx (us.map stp) (kyS q) = some i → i < us.length
  | us, q, i, h => by have := kix_lt (ks := us.map stp) h; rwa [List.length_map] at this
theorem ix_map {α : Type} {f : α → D} {l : List α} {i : Nat} (h : i < l.length) {st : Store} : ixD st (.tup (l.map f)) (iD i) = some (f l[i]) := at_nat (ps := l.map f) (by simp [h])
theorem zip_enum {α : Type} {f : α → D} {l : List α} : ((l.map f).zipIdx.map fun p => D.tup [.int p.2, p.1]) = l.zipIdx.map fun p => D.tup [iD p.2, f p.1] := by
  rw [List.zipIdx_map, List.map_map]; rfl
/-- one comes of each -/
theorem each_eq {α : Type} {f : D → M (Option D)} {st : Store} {u v : α → D} : ∀ {xs : List α}, (∀ a ∈ xs, W (f (u a)) st fun o s => s = st ∧ o = some (v a)) → W (eachM f (xs.map u)) st fun ys s => s = st ∧ ys = xs.map v
  | [], _ => ⟨[], st, rfl, rfl, rfl⟩
  | x :: xs, h => by
    refine W_bind ((h x List.mem_cons_self).mono fun o s ⟨e, p⟩ => ?_)
    subst e p
    refine W_bind ((each_eq fun z hz => h z (List.mem_cons_of_mem _ hz)).mono fun ys s2 ⟨e2, p2⟩ => ?_)
    subst e2 p2
    exact ⟨_, _, rfl, rfl, rfl⟩
theorem W_cs {n : Nat} {f : Str} {F : Fn} {vs : List D} {st : Store} {Q : D → Store → Prop} (h : fnsOf Hd.ts f = some F) (k : W (runF (Cn n) F vs) st Q) : W ((Cn (n + 1)).call f vs) st Q := by
  obtain ⟨a, s, e, q⟩ := k
  exact ⟨a, s, by rw [call_s h]; exact e, q⟩
/-! ### what stays behind a turn -/
theorem pure_un {n : Nat} : ∀ (d : D), d.pure = true → d.under n = true := by
  intro d
  exact D.rec (motive_1 := fun d => d.pure = true → d.under n = true) (motive_2 := fun ds => D.pures ds = true → D.unders n ds = true)
    (fun _ => rfl) (fun _ _ => rfl) (fun _ _ => rfl) (fun _ _ => rfl) (fun _ ih h => ih h) (fun _ ih h => ih h)
    (fun ks vs i1 i2 h => by
      have h : (D.pures ks && D.pures vs) = true := h
      rw [Bool.and_eq_true] at h
      show (D.unders n ks && D.unders n vs) = true
      rw [i1 h.1, i2 h.2]; rfl)
    (fun _ h => by cases h) (fun _ _ => rfl) (fun _ _ ih h => ih h) (fun _ => rfl)
    (fun d ds i1 i2 h => by
      have h : (d.pure && D.pures ds) = true := h
      rw [Bool.and_eq_true] at h
      show (d.under n && D.unders n ds) = true
      rw [i1 h.1, i2 h.2]; rfl) d
/-- nothing, or pure -/
def Pu (o : Option D) : Prop := ∀ d, o = some d → d.pure = true
theorem Pu.some {d : D} (h : d.pure = true) : Pu (some d) := fun _ e => by cases e; exact h
theorem Pu.none : Pu none := fun _ e => by cases e
def tr1 (n : Nat) (o : Option D) : Option D := match o with
  | some d => if d.under n then some d else none
  | none => none
theorem tr1_pu {n : Nat} {o : Option D} (h : Pu o) : tr1 n o = o := by
  cases o with
  | none => rfl
  | some d => show (if d.under n = true then some d else none) = _; rw [if_pos (pure_un d (h d rfl))]
def kp1 (n : Nat) (p : Option D × Option D) : Bool := match p with
  | (some _, some d) => d.under n
  | _ => true
theorem kp1_pu {n : Nat} {a o : Option D} (h : Pu o) : kp1 n (a, o) = true := by
  cases a with
  | none => rfl
  | some a =>
    cases o with
    | none => rfl
    | some d => exact pure_un d (h d rfl)
theorem kp1_n {n : Nat} {o : Option D} : kp1 n (none, o) = true := rfl
theorem keep_all {n : Nat} {e0 e1 : Wk.Env} (h : (e0.zip e1).all (kp1 n) = true) : keepE n e0 e1 = true := by
  have : keepE n e0 e1 = (e0.zip e1).all (kp1 n) := by
    unfold keepE; congr 1
  rw [this]; exact h
theorem W_each1 {f : D → M (Option D)} {x : D} {xs : List D} {st : Store} {Q : List D → Store → Prop} (h : W (f x) st fun o s => W (eachM f xs) s fun ys s2 => Q (o.toList ++ ys) s2) : W (eachM f (x :: xs)) st Q := by
  refine W_bind (h.mono fun o s q => W_bind (q.mono fun ys s2 q => ?_))
  cases o <;> exact ⟨_, _, rfl, q⟩
theorem loop_pu {f : D → Wk.Env → M Fl} {g : Option D → Wk.Env} {st : Store} : ∀ (L : List D) (y : Option D), Pu y → (∀ x ∈ L, x.pure = true) → (∀ x ∈ L, ∀ y, Pu y → f x (g y) st = some (.ok (.nx (g (some x))) st)) → ∃ y', Pu y' ∧ loopM f L (g y) st = some (.ok (.nx (g y')) st)
  | [], y, hy, _, _ => ⟨y, hy, rfl⟩
  | x :: L, y, hy, hp, h => by
    obtain ⟨y', h1, h2⟩ := loop_pu L (some x) (Pu.some (hp x List.mem_cons_self)) (fun z hz => hp z (List.mem_cons_of_mem _ hz)) fun z hz => h z (List.mem_cons_of_mem _ hz)
    exact ⟨y', h1, by rw [loop_cons (h x List.mem_cons_self y hy)]; exact h2⟩
theorem all_pu {L : List D} (h : L.all D.pure = true) : ∀ x ∈ L, x.pure = true := fun x hx => List.all_eq_true.mp h x hx
/-! ### the pile -/
/-- the pile stands first, and gives N digits more -/
def Pl (N : Nat) (st R : Store) : Prop := ∃ a b c : Int, st = pr a b c R ∧ 0 ≤ c ∧ c + (N : Nat) < 2 ^ 50
theorem Pl.less {N M : Nat} {st R : Store} (h : Pl N st R) (l : M ≤ N) : Pl M st R := by
  obtain ⟨a, b, c, e, h1, h2⟩ := h
  exact ⟨a, b, c, e, h1, by omega⟩
theorem take_w {n m N : Nat} (hm : Sm m) {st R : Store} {Q : D → Store → Prop} (h : Pl (N + 1) st R) (k : ∀ (d : Nat) (s : Store), d < m → Pl N s R → Q (iD d) s) : W (callD (Cn (n + 2)) false "_law_take" [.loc 0, .int (m : Nat)]) st Q := by
  obtain ⟨a, b, c, rfl, h1, h2⟩ := h
  obtain ⟨d, a', c', g1, g2, g3, g4⟩ := take_g (n := n) hm (a := a) (b := b) (R := R) h1 (by omega)
  exact W_eq g4 (k d _ g1 ⟨a', b, c', rfl, by omega, by omega⟩)
theorem pl_call {C : Wk.Ctx} {f : Str} {ws : List D} {N k : Nat} {P : D → Prop} (hw : D.pures ws = true) (h : ∀ st, Pl (N + k) st [] → W (C.call f (.loc 0 :: ws)) st fun d s => P d ∧ d.pure = true ∧ ∃ R, Pl N s R) {st R : Store} (p : Pl (N + k) st R) : W (callD C false f (.loc 0 :: ws)) st fun d s => P d ∧ Pl N s R := by
  obtain ⟨a, b, c, rfl, h1, h2⟩ := p
  obtain ⟨d, s, e, hP, hd, R', a', b', c', rfl, g1, g2⟩ := h (pr a b c []) ⟨a, b, c, rfl, h1, h2⟩
  exact W_eq (callD_mx (st := pr a b c R) (m := 0) (xs := [.int a, .int b, .int c]) (xs' := [.int a', .int b', .int c']) rfl rfl hw e hd rfl) ⟨hP, a', b', c', rfl, g1, g2⟩
/-- drawn one by one -/
theorem each_draw {f : D → M (Option D)} {P : D → Prop} {R : Store} (m : Nat) : ∀ (xs : List D) (N : Nat) (st : Store), Pl (N + m * xs.length) st R → (∀ x ∈ xs, ∀ (N : Nat) (st : Store), Pl (N + m) st R → W (f x) st fun o s => Pl N s R ∧ ∀ y, o = some y → P y) → W (eachM f xs) st fun ys s => Pl N s R ∧ ys.length ≤ xs.length ∧ ∀ y ∈ ys, P y
  | [], N, st, h, _ => ⟨[], st, rfl, h, Nat.le_refl _, by simp⟩
  | x :: xs, N, st, h, k => by
    refine W_bind ((k x List.mem_cons_self (N + m * xs.length) st (h.less (by rw [List.length_cons, Nat.mul_succ]; omega))).mono fun o s ⟨e, p⟩ => ?_)
    refine W_bind ((each_draw m xs N s e fun z hz => k z (List.mem_cons_of_mem _ hz)).mono fun ys s2 ⟨e2, l2, p2⟩ => ?_)
    cases o with
    | none => exact ⟨_, _, rfl, e2, Nat.le_succ_of_le l2, p2⟩
    | some y => exact ⟨_, _, rfl, e2, Nat.succ_le_succ l2, fun z hz => (List.mem_cons.mp hz).elim (fun e => e ▸ p y rfl) (p2 z)⟩
theorem each_drawn {f : D → M (Option D)} {P : D → Prop} {R : Store} (m : Nat) : ∀ (xs : List D) (N : Nat) (st : Store), Pl (N + m * xs.length) st R → (∀ x ∈ xs, ∀ (N : Nat) (st : Store), Pl (N + m) st R → W (f x) st fun o s => Pl N s R ∧ ∃ y, o = some y ∧ P y) → W (eachM f xs) st fun ys s => Pl N s R ∧ ys.length = xs.length ∧ ∀ y ∈ ys, P y
  | [], N, st, h, _ => ⟨[], st, rfl, h, rfl, by simp⟩
  | x :: xs, N, st, h, k => by
    refine W_bind ((k x List.mem_cons_self (N + m * xs.length) st (h.less (by rw [List.length_cons, Nat.mul_succ]; omega))).mono fun o s ⟨e, y, ey, p⟩ => ?_)
    subst ey
    refine W_bind ((each_drawn m xs N s e fun z hz => k z (List.mem_cons_of_mem _ hz)).mono fun ys s2 ⟨e2, l2, p2⟩ => ?_)
    exact ⟨_, _, rfl, e2, congrArg (· + 1) l2, fun z hz => (List.mem_cons.mp hz).elim (fun e => e ▸ p) (p2 z)⟩
theorem each_keep {f : D → M (Option D)} {R : Store} (m : Nat) : ∀ (is : List Nat) (N : Nat) (st : Store), Pl (N + m * is.length) st R → (∀ i ∈ is, ∀ (N : Nat) (st : Store), Pl (N + m) st R → W (f (iD i)) st fun o s => Pl N s R ∧ (o = none ∨ o = some (iD i))) → W (eachM f (is.map iD)) st fun ys s => Pl N s R ∧ ∃ ts : List Nat, ys = ts.map iD ∧ ts.Sublist is
  | [], N, st, h, _ => ⟨[], st, rfl, h, [], rfl, List.Sublist.slnil⟩
  | x :: xs, N, st, h, k => by
    refine W_bind ((k x List.mem_cons_self (N + m * xs.length) st (h.less (by rw [List.length_cons, Nat.mul_succ]; omega))).mono fun o s ⟨e, p⟩ => ?_)
    refine W_bind ((each_keep m xs N s e fun z hz => k z (List.mem_cons_of_mem _ hz)).mono fun ys s2 ⟨e2, ts, et, p2⟩ => ?_)
    subst et
    rcases p with rfl | rfl
    · exact ⟨_, _, rfl, e2, ts, rfl, p2.cons x⟩
    · exact ⟨_, _, rfl, e2, x :: ts, rfl, p2.cons₂ x⟩
theorem of_all {α : Type} {u : α → D} {P : α → Prop} : ∀ {ys : List D}, (∀ y ∈ ys, ∃ q : α, y = u q ∧ P q) → ∃ ps : List α, ys = ps.map u ∧ ∀ q ∈ ps, P q
  | [], _ => ⟨[], rfl, by simp⟩
  | y :: ys, ep => by
    obtain ⟨q, rfl, hq⟩ := ep y List.mem_cons_self
    obtain ⟨ps, rfl, hp⟩ := of_all fun z hz => ep z (List.mem_cons_of_mem _ hz)
    exact ⟨q :: ps, rfl, fun r hr => (List.mem_cons.mp hr).elim (fun e => e ▸ hq) (hp r)⟩
end Hd

end
section
open Wk PySem
set_option maxRecDepth 100000
set_option maxHeartbeats 2000000
namespace Hd
local macro_rules
  | `(tactic| infer_instance) => `(tactic| first
    | with_reducible refine W_scons ?_
    | with_reducible refine W_snil ?_
    | with_reducible refine W_cst ?_
    | with_reducible refine W_cons ?_
    | with_reducible refine W_nil ?_
    | with_reducible refine W_star ?_
    | with_reducible refine W_set ?_
    | with_reducible refine W_ret ?_
    | with_reducible refine W_ex ?_
    | with_reducible refine W_iff ?_
    | with_reducible refine W_call ?_
    | with_reducible refine W_blt ?_
    | with_reducible refine W_ix ?_
    | with_reducible refine W_cmp ?_
    | with_reducible refine W_bin ?_
    | with_reducible refine W_tup ?_
    | with_reducible refine W_lst ?_
    | with_reducible refine W_lstA ?_
    | with_reducible refine W_and ?_
    | with_reducible refine W_or ?_
    | with_reducible refine W_not ?_
    | with_reducible refine W_ife ?_
    | with_reducible refine W_met ?_
    | with_reducible refine W_isi ?_
    | with_reducible refine W_lcR ?_
    | with_reducible refine W_lcRA ?_
    | with_reducible refine W_loopR ?_
    | with_reducible refine W_lc ?_
    | with_reducible refine W_lcA ?_
    | with_reducible refine W_loop ?_
    | with_reducible refine W_unp ?_
    | with_reducible refine W_sl ?_
    | with_reducible refine W_cat ?_
    | with_reducible refine W_six ?_
    | with_reducible refine W_lc2 ?_
    | with_reducible refine W_dc ?_
    | with_reducible refine W_dc2 ?_
    | with_reducible refine W_dct ?_
    | with_reducible refine W_rev ?_
    | with_reducible refine W_neg ?_
    | with_reducible refine W_cmp2 ?_
    | with_reducible refine W_lsa ?_
    | with_reducible refine W_noN ?_
    | with_reducible refine W_lkN ?_
    | with_reducible refine W_pass ?_
    | with_reducible refine W_brk ?_
    | with_reducible refine W_cnt ?_
    | with_reducible refine W_raise ?_
    | with_reducible refine W_tst0 ?_
    | with_reducible refine W_tst1 ?_
    | with_reducible refine W_inner ?_
    | with_reducible refine seq_nx ?_
    | with_reducible refine W_bnd ?_
    | with_reducible refine W_pure ?_
    | (with_reducible refine W_var ?hx ?_; (case hx => exact rfl))
    | (with_reducible refine W_gst ?hx ?_; (case hx => exact rfl))
    | (with_reducible refine W_aug ?hx ?_; (case hx => exact rfl))
    | refine ⟨fun _ => ?_, fun h => Bool.noConfusion h⟩
    | refine ⟨fun h => Bool.noConfusion h, fun _ => ?_⟩
    | refine ⟨_, rfl, ?_⟩
    | refine ⟨rfl, ?_⟩
    | refine ⟨_, _, rfl, ?_⟩)
theorem add1 {d : Nat} {st : Store} : binD .Add (.int 1) (iD d) st = some (iD (1 + d)) := by
  have e : ((1 + d : Nat) : Int) = 1 + (d : Int) := by omega
  show some (D.int (1 + (d : Int))) = some (D.int ((1 + d : Nat) : Int))
  rw [e]
theorem cut_take {xs : List D} (n : Nat) (h : n ≤ xs.length) : cutD xs none (some (n : Int)) = xs.take n := by
  unfold cutD
  rw [HT.sIx_none, HT.sIx_nat, List.drop_zero, Nat.sub_zero, Nat.min_eq_left h]
/-- one of some -/
theorem pick_w {n m N : Nat} (hm : Sm m) {xs : List D} (hl : xs.length = m) (hp : ∀ x ∈ xs, x.pure = true) {st R : Store} (h : Pl (N + 1) st R) : W (callD (Cn (n + 3)) false "_law_pick" [.loc 0, .lst xs]) st fun d s => d ∈ xs ∧ Pl N s R := by
  refine pl_call (k := 1) (ws := [.lst xs]) (pu1 (a := .lst xs) (pur hp)) (fun st p => ?_) h
  refine W_cs (F := v__law_pick) (by kernel_rfl) ?_
  refine W_run (E := [some (.loc 0), some (.lst xs)]) rfl rfl ?_
  show W (evSs _ (.cons _ _) _) _ _
  repeat infer_instance
  subst hl
  refine take_w (m := xs.length) hm p fun d s hd q => ?_
  have hx : d < xs.length := by omega
  have hi : ixD s (.lst xs) (iD d) = some xs[d] := at_nat (ps := xs) (by simp [hx])
  refine ⟨_, hi, List.getElem_mem hx, hp _ (List.getElem_mem hx), [], q⟩
theorem once_w {n : Nat} {ss : List Stp} (hl : ss.length < 900) {st : Store} : W (callD (Cn (n + 1)) false "_law_once" [.lst (ss.map stp)]) st fun d s => s = st ∧ ∃ vs : List Stp, d = .lst (vs.map stp) ∧ vs.Nodup ∧ (∀ q ∈ vs, q ∈ ss) ∧ vs.length ≤ ss.length := by
  obtain ⟨vs, o1, o2, o3, o4⟩ := once_c (n := n) hl
  exact W_eq (callD_p o1 (pu1 (a := .lst _) stps_pure) stps_pure) ⟨rfl, vs, rfl, o2, o3, o4⟩
theorem asc_w {n : Nat} {us : List Stp} (hn : us.Nodup) (hl : us.length < 900) {st : Store} : W (callD (Cn (n + 1)) false "_law_ascending" [.lst (us.map stp)]) st fun d s => s = st ∧ ∃ L : List Stp, d = .lst (L.map stp) ∧ (∀ p ∈ L.zip (L.drop 1), Less p.1 p.2) ∧ (∀ q ∈ L, q ∈ us) ∧ L.length = us.length := by
  obtain ⟨L, l1, l2, l3, l4⟩ := ascend_c (n := n) hn hl
  exact W_eq (callD_l l1 (pu1 (a := .lst _) stps_pure) stps_pure) ⟨rfl, L, rfl, pw_zip l2, l3, l4⟩
theorem wayed_w {n mo N : Nat} (hmo : Sm mo) {ls : List Str} (hls : LsOk ls) {st R : Store} (h : Pl (N + 500) st R) : W (callD (Cn (n + 4)) false "_law_wayed" [.loc 0, letters ls, iD mo]) st fun d s => (∃ ts ks, SchOk ts ks ∧ d = sch ts ks) ∧ Pl N s R := by
  have lp : (letters ls).pure = true := by rcases hls with rfl | rfl | rfl <;> rfl
  obtain ⟨l1, l2, l3⟩ := ls_len hls
  refine pl_call (k := 500) (ws := [letters ls, iD mo]) (pu2 lp rfl) (fun st p => ?_) h
  refine W_cs (F := v__law_wayed) (by kernel_rfl) ?_
  refine W_run (E := [some (.loc 0), some (letters ls), some (iD mo), none, none, none, none, none, none, none, none, none, none, none, none, none]) rfl rfl ?_
  show W (evSs _ (.cons _ _) _) _ _
  repeat infer_instance
  refine take_w hmo (N := N + 499) p fun d s hd q => ?_
  refine ⟨_, add1, ?_⟩
  obtain ⟨many, em⟩ : ∃ many, many = 1 + d := ⟨_, rfl⟩
  rw [← em]
  have hm : Sm many := by unfold Sm at hmo ⊢; omega
  have m5 : many ≤ 5 := by unfold Sm at hm; omega
  repeat infer_instance
  refine ⟨by omega, ?_⟩
  refine (each_drawn (P := fun y => ∃ x : Str, y = .str x ∧ NmOk x) 1 _ (N + 490) s (q.less (by simp; omega)) fun x hx N st p => ?_).mono fun ys s2 ⟨q2, yl, yp⟩ => ?_
  · obtain ⟨k, _, rfl⟩ := List.mem_map.mp hx
    refine W_item (env' := [some (.loc 0), some (letters ls), some (iD mo), some (iD many), none, none, some (iD k), none, none, none, none, none, none, none, none, none]) rfl ?_
    repeat infer_instance
    simp only [List.length_map]
    refine take_w (m := ls.length) l1 p fun w s hw q => ?_
    refine ⟨_, ix_ls hw, ?_⟩
    exact ⟨q, _, rfl, _, rfl, nm_of hls _ (List.getElem_mem hw)⟩
  · obtain ⟨nms, rfl, hn⟩ := of_all yp
    simp only [List.length_map, List.length_range] at yl
    have hnm : ∀ {i : Nat} (h : i < many) (st : Store), ixD st (.lst (nms.map .str)) (iD i) = some (.str (nms[i]'(by omega))) := fun {i} h st => at_nat (ps := nms.map D.str) (by simp [yl, h])
    have hok : ∀ {i : Nat} (h : i < nms.length), okS nms[i] := fun h => okS_nm (hn _ (List.getElem_mem h))
    refine ⟨fit5 (by simp; omega), ?_⟩
    repeat infer_instance
    refine ⟨by omega, ?_⟩
    obtain ⟨a2, b2, c2, rfl, c3, c4⟩ := q2
    let NS : D := .lst (nms.map .str)
    refine W_loopM (fun L env st => ∃ (is : List Nat) (K : List Knd) (x6 x8 x9 x10 x12 x13 : Option D), L = is.map iD ∧ (∀ i ∈ is, i < many) ∧ K.length + is.length = many ∧ Pu x6 ∧ Pu x8 ∧ Pu x9 ∧ Pu x10 ∧ Pu x12 ∧ Pu x13 ∧ (∀ k ∈ K, KndOk many k) ∧
      env = [some (.loc 0), some (letters ls), some (iD mo), some (iD many), some NS, some (.loc 1), x6, none, x8, x9, x10, none, x12, x13, none, none] ∧ Pl (N + 100 + 40 * is.length) st [.lst false (K.map knd)]) _ ⟨List.range many, [], none, none, none, none, none, none, rfl, fun i hi => List.mem_range.mp hi, by simp, Pu.none, Pu.none, Pu.none, Pu.none, Pu.none, Pu.none, by simp, rfl, a2, b2, c2, rfl, c3, by simp; omega⟩ ?_ ?_
    · rintro x r env st ⟨is, K, x6, x8, x9, x10, x12, x13, e, hi, hl, p6, p8, p9, p10, p12, p13, hK, rfl, q⟩
      cases is with
      | nil => exact nomatch e
      | cons i is =>
        obtain ⟨rfl, rfl⟩ := List.cons.inj e
        rw [List.length_cons] at hl q
        have q' := q
        obtain ⟨a0, b0, c0, rfl, _, _⟩ := q'
        refine W_loopF (env1 := [some (.loc 0), some (letters ls), some (iD mo), some (iD many), some NS, some (.loc 1), some (iD i), none, x8, x9, x10, none, x12, x13, none, none]) rfl ?_
        repeat infer_instance
        refine take_w (m := 3) (.inr (.inr (.inl rfl))) (N := N + 100 + 40 * is.length + 39) q fun d s hd q => ?_
        refine ⟨_, add1, ?_⟩
        obtain ⟨size, es⟩ : ∃ size, size = 1 + d := ⟨_, rfl⟩
        rw [← es]
        have hsz : Sm size := by unfold Sm; omega
        repeat infer_instance
        have hi0 : i < many := hi i List.mem_cons_self
        refine ⟨by decide, ?_⟩
        refine (each_drawn (P := fun y => ∃ c : Nat, y = iD c ∧ c < many) 1 _ (N + 100 + 40 * is.length + 37) s (q.less (by simp)) fun x hx N st p => ?_).mono fun ys s2 ⟨q2, yl2, yp⟩ => ?_
        · obtain ⟨k, _, rfl⟩ := List.mem_map.mp hx
          refine W_item (env' := [some (.loc 0), some (letters ls), some (iD mo), some (iD many), some NS, some (.loc 1), some (iD i), none, some (iD size), x9, x10, none, x12, x13, some (iD k), none]) rfl ?_
          repeat infer_instance
          exact take_w hm p fun w s hw q => ⟨q, _, rfl, w, rfl, hw⟩
        · obtain ⟨cs, rfl, hc⟩ := of_all yp
          obtain ⟨u, w, rfl⟩ : ∃ u w, cs = [u, w] := by
            match cs, yl2 with
            | [u, w], _ => exact ⟨u, w, rfl⟩
          have hu := hc u (by simp)
          have hw := hc w (by simp)
          repeat infer_instance
          refine ⟨by decide, ?_⟩
          let CH : D := .lst [iD u, iD w]
          let G : Nat → Option D → Option D → Wk.Env := fun j z15 x10 => [some (.loc 0), some (letters ls), some (iD mo), some (iD many), some NS, some (.loc 1), some (iD i), none, some (iD size), some CH, x10, none, x12, x13, some (iD j), z15]
          have some_c : W (eachM (lcF (Cn (n + 3)) (.ix (.var 9) (.var 14)) (.nm 14) true (.cmp .NotIn (.ix (.var 4) (.ix (.var 9) (.var 14))) (.lc false (.ix (.var 4) (.var 15)) (.nm 15) .val (.cons false (.sl (.var 9) (.cst .non) (.var 14)) .nil) false (.cst .non) [("_law_other", 15)])) [14] [some (.loc 0), some (letters ls), some (iD mo), some (iD many), some NS, some (.loc 1), some (iD i), none, some (iD size), some CH, x10, none, x12, x13, none, none]) [iD 0, iD 1]) s2 fun ys s => s = s2 ∧ (ys = [iD u] ∨ ys = [iD u, iD w]) := by
            refine W_each1 (W_item (env' := G 0 none x10) rfl ?_)
            repeat infer_instance
            refine ⟨_, hnm hu _, ?_⟩
            repeat infer_instance
            refine ⟨_, not_in (in_ls (xs := []) (hok _) (by simp)), ?_⟩
            refine ⟨true, by simp, fun _ => ?_, fun z => Bool.noConfusion z⟩
            repeat infer_instance
            refine W_each1 (W_item (env' := G 1 none x10) rfl ?_)
            repeat infer_instance
            refine ⟨_, hnm hw _, ?_⟩
            repeat infer_instance
            refine W_each1 (W_item (env' := G 1 (some (iD u)) x10) rfl ?_)
            repeat infer_instance
            refine ⟨_, hnm hu _, ?_⟩
            repeat infer_instance
            refine ⟨_, not_in (in_ls (xs := [nms[u]]) (hok _) (by simpa using hok _)), ?_⟩
            cases hq : !decide (nms[w] ∈ [nms[u]]) with
            | true =>
              refine ⟨true, rfl, fun _ => ?_, fun z => Bool.noConfusion z⟩
              repeat infer_instance
              exact .inr rfl
            | false =>
              refine ⟨false, rfl, fun z => Bool.noConfusion z, fun _ => ?_⟩
              repeat infer_instance
              exact .inl rfl
          have some_d : W (eachM (lcF (Cn (n + 3)) (.ix (.var 9) (.var 14)) (.nm 14) true (.cmp .NotIn (.ix (.var 4) (.ix (.var 9) (.var 14))) (.lc false (.ix (.var 4) (.var 15)) (.nm 15) .val (.cons false (.sl (.var 9) (.cst .non) (.var 14)) .nil) false (.cst .non) [("_law_other", 15)])) [14] [some (.loc 0), some (letters ls), some (iD mo), some (iD many), some NS, some (.loc 1), some (iD i), none, some (iD size), some CH, x10, none, x12, x13, none, none]) [iD 0, iD 1]) s2 fun ys s => s = s2 ∧ ∃ es : List Nat, ys = es.map iD ∧ Sm es.length ∧ ∀ e ∈ es, e < many :=
            some_c.mono fun ys s ⟨es, h⟩ => ⟨es, h.elim (fun z => ⟨[u], z, .inl rfl, by simpa using hu⟩) fun z => ⟨[u, w], z, .inr (.inl rfl), by simpa using ⟨hu, hw⟩⟩⟩
          refine some_d.mono fun ys s3 ⟨es3, es, ey, el, ee⟩ => ?_
          subst es3 ey
          have el5 : es.length ≤ 5 := by unfold Sm at el; omega
          refine ⟨fit5 (by simp; omega), ?_⟩
          repeat infer_instance
          obtain ⟨a3, b3, c3', rfl, c5, c6⟩ := q2
          refine ⟨by unfold Sm at hsz; omega, ?_⟩
          let KO : Ob := .lst false (K.map knd)
          let T : Nat := N + 100 + 40 * is.length
          let ES : D := .lst (es.map iD)
          have pES : ES.pure = true := pur fun y hy => by obtain ⟨e, _, rfl⟩ := List.mem_map.mp hy; rfl
          refine W_loopM (fun L env st => ∃ (js : List Nat) (S : List Stt) (x12 x13 : Option D), L = js.map iD ∧ S.length + js.length = size ∧ Pu x12 ∧ Pu x13 ∧ (∀ s ∈ S, StpsOk many size s.2) ∧
            env = [some (.loc 0), some (letters ls), some (iD mo), some (iD many), some NS, some (.loc 1), some (iD i), none, some (iD size), some CH, some ES, some (.loc 2), x12, x13, none, none] ∧ Pl (T + 10 * js.length) st [KO, .lst false (S.map stt)]) _ ⟨List.range size, [], x12, x13, rfl, by simp, p12, p13, by simp, rfl, a3, b3, c3', rfl, c5, by simp [T]; omega⟩ ?_ ?_
          · rintro x r env st ⟨js, S, x12, x13, e, hl2, p12, p13, hS, rfl, q⟩
            cases js with
            | nil => exact nomatch e
            | cons j js =>
              obtain ⟨rfl, rfl⟩ := List.cons.inj e
              rw [List.length_cons] at hl2 q
              have q' := q
              obtain ⟨a7, b7, c7', rfl, _, _⟩ := q'
              refine W_loopF (env1 := [some (.loc 0), some (letters ls), some (iD mo), some (iD many), some NS, some (.loc 1), some (iD i), none, some (iD size), some CH, some ES, some (.loc 2), some (iD j), x13, none, none]) rfl ?_
              repeat infer_instance
              refine take_w (m := 3) (.inr (.inr (.inl rfl))) (N := T + 10 * js.length + 9) q fun d s hd q => ?_
              repeat infer_instance
              refine ⟨by omega, ?_⟩
              refine (each_drawn (P := fun y => ∃ q : Stp, y = stp q ∧ q.1 < many ∧ q.2 < size) 2 _ (T + 10 * js.length + 5) s (q.less (by simp; omega)) fun x hx N st p => ?_).mono fun ys s2 ⟨q2, yl2, yp⟩ => ?_
              · obtain ⟨k, _, rfl⟩ := List.mem_map.mp hx
                refine W_item (env' := [some (.loc 0), some (letters ls), some (iD mo), some (iD many), some NS, some (.loc 1), some (iD i), none, some (iD size), some CH, some ES, some (.loc 2), some (iD j), x13, some (iD k), none]) rfl ?_
                repeat infer_instance
                refine (pick_w (N := N + 1) el (by simp) (fun x hx => by obtain ⟨e, _, rfl⟩ := List.mem_map.mp hx; rfl) p).mono fun d s2 ⟨hd, q2⟩ => ?_
                obtain ⟨e, he, rfl⟩ := List.mem_map.mp hd
                repeat infer_instance
                refine take_w hsz q2 fun w s3 hw q3 => ?_
                repeat infer_instance
                exact ⟨q3, _, rfl, (e, w), rfl, ee e he, hw⟩
              · obtain ⟨ss, rfl, hss⟩ := of_all yp
                simp only [List.length_map, List.length_range] at yl2
                refine ⟨fit5 (by simp; omega), ?_⟩
                have q2' := q2
                obtain ⟨a5, b5, c5', rfl, _, _⟩ := q2'
                repeat infer_instance
                refine take_w (m := 3) (.inr (.inr (.inl rfl))) (N := T + 10 * js.length) (q2.less (by omega)) fun f s3 hf q3 => ?_
                repeat infer_instance
                refine (once_w (by omega)).mono fun d s4 ⟨e4, vs, ed, o1, o2, o3⟩ => ?_
                subst e4 ed
                repeat infer_instance
                refine (asc_w o1 (by omega)).mono fun d s5 ⟨e5, L, ed, m1, m2, m3⟩ => ?_
                subst e5 ed
                repeat infer_instance
                obtain ⟨a4, b4, c4', rfl, c7, c8⟩ := q3
                refine ⟨_, _, app_le (xs := S.map stt) rfl (by unfold Sm at hsz; simp; omega), ?_⟩
                repeat infer_instance
                refine ⟨js, S ++ [(decide ((0 : Int) < (f : Int)), L)], _, _, rfl, by simp; omega, Pu.some rfl, Pu.some (d := .lst _) stps_pure, fun s hs => ?_, rfl, a4, b4, c4', ?_, c7, c8⟩
                · rcases List.mem_append.mp hs with hs | hs
                  · exact hS s hs
                  · rw [List.mem_singleton.mp hs]
                    exact ⟨by show L.length ≤ 3; omega, fun q hq => hss q (o2 q (m2 q hq)), m1⟩
                · simp [stt]
          · rintro env st ⟨js, S, x12, x13, e, hl2, p12, p13, hS, rfl, q⟩
            cases js with
            | cons j js => exact nomatch e
            | nil =>
              obtain ⟨a6, b6, c6, rfl, c7, c8⟩ := q
              have hS2 : S.length = size := by simpa using hl2
              repeat infer_instance
              refine ⟨_, hnm hi0 _, ?_⟩
              repeat infer_instance
              refine ⟨_, _, app_le (xs := K.map knd) rfl (by simp; omega), ?_⟩
              repeat infer_instance
              have hkn : KndOk many (nms[i]'(by omega), S) := ⟨hn _ (List.getElem_mem _), by show 1 ≤ S.length; omega, by show S.length ≤ 3; omega, fun s hs => by show StpsOk many S.length s.2; rw [hS2]; exact hS s hs⟩
              refine trim_gt rfl ?_ (keep_all ?_) ?_
              · show (true && (D.unders 2 (K.map knd ++ [knd (nms[i]'(by omega), S)]) && true)) = true
                have : D.unders 2 ((K ++ [(nms[i]'(by omega), S)]).map knd) = true := knds_under
                rw [List.map_append] at this
                rw [show D.unders 2 (K.map knd ++ [knd (nms[i]'(by omega), S)]) = true from this]; rfl
              · have pI : Pu (some (iD i)) := Pu.some rfl
                have pZ : Pu (some (iD size)) := Pu.some rfl
                have pC : Pu (some CH) := Pu.some rfl
                have pE : Pu (some ES) := Pu.some pES
                have pN : Pu (some NS) := Pu.some (d := .lst (nms.map .str)) (pures_of fun y hy => by obtain ⟨e, _, rfl⟩ := List.mem_map.mp hy; rfl)
                have pL : Pu (some (letters ls)) := Pu.some lp
                show (kp1 2 (some (D.loc 0), some (D.loc 0)) && (kp1 2 (some (letters ls), some (letters ls)) && (kp1 2 (some (iD mo), some (iD mo)) && (kp1 2 (some (iD many), some (iD many)) && (kp1 2 (some NS, some NS) && (kp1 2 (some (D.loc 1), some (D.loc 1)) && (kp1 2 (x6, some (iD i)) && (true && (kp1 2 (x8, some (iD size)) && (kp1 2 (x9, some CH) && (kp1 2 (x10, some ES) && (true && (kp1 2 (_, x12) && (kp1 2 (_, x13) && (true && (true && true)))))))))))))))) = true
                rw [kp1_pu pI, kp1_pu pZ, kp1_pu pC, kp1_pu pE, kp1_pu pN, kp1_pu pL, kp1_pu p12, kp1_pu p13]; rfl
              · have pE : Pu (some ES) := Pu.some pES
                have pN : Pu (some NS) := Pu.some (d := .lst (nms.map .str)) (pures_of fun y hy => by obtain ⟨e, _, rfl⟩ := List.mem_map.mp hy; rfl)
                have pL : Pu (some (letters ls)) := Pu.some lp
                refine ⟨is, K ++ [(nms[i]'(by omega), S)], some (iD i), some (iD size), some CH, some ES, x12, x13, rfl, fun j hj => hi j (List.mem_cons_of_mem _ hj), by simp; omega, Pu.some rfl, Pu.some rfl, Pu.some rfl, Pu.some pES, p12, p13, fun k hk => ?_, ?_, a6, b6, c6, ?_, c7, c8⟩
                · rcases List.mem_append.mp hk with hk | hk
                  · exact hK k hk
                  · rw [List.mem_singleton.mp hk]; exact hkn
                · show [some (D.loc 0), tr1 2 (some (letters ls)), some (iD mo), some (iD many), tr1 2 (some NS), some (D.loc 1), some (iD i), none, some (iD size), some CH, tr1 2 (some ES), none, tr1 2 x12, tr1 2 x13, none, none] = _
                  rw [tr1_pu pE, tr1_pu pN, tr1_pu pL, tr1_pu p12, tr1_pu p13]
                · simp [knd]
    · rintro env st ⟨is, K, x6, x8, x9, x10, x12, x13, e, hi, hl, p6, p8, p9, p10, p12, p13, hK, rfl, q⟩
      cases is with
      | cons i is => exact nomatch e
      | nil =>
        obtain ⟨a8, b8, c8, rfl, c9, c10⟩ := q
        have hKl : K.length = many := by simpa using hl
        repeat infer_instance
        refine ⟨by omega, ?_⟩
        refine (each_keep 1 (List.range many) N _ ⟨a8, b8, c8, rfl, c9, by simp at c10 ⊢; omega⟩ fun k hk N st p => ?_).mono fun ys s ⟨q, ts, ey, tsub⟩ => ?_
        · have hk := List.mem_range.mp hk
          refine W_item (env' := [some (.loc 0), some (letters ls), some (iD mo), some (iD many), some NS, some (.loc 1), some (iD k), none, x8, x9, x10, none, x12, x13, none, none]) rfl ?_
          repeat infer_instance
          refine ⟨_, hnm hk _, ?_⟩
          repeat infer_instance
          have ec : ((fun xs => D.lst (cutD xs none (some (k : Int)))) (nms.map D.str)) = .lst ((nms.take k).map .str) := by
            show D.lst (cutD (nms.map D.str) none (some (k : Int))) = _
            rw [cut_take k (by simp; omega), List.map_take]
          rw [ec]
          refine ⟨_, not_in (in_ls (hok _) fun y hy => okS_nm (hn y (List.mem_of_mem_take hy))), ?_⟩
          refine ⟨_, rfl, fun h0 => ?_, fun h0 => ?_⟩
          · refine ⟨_, rfl, fun z => Bool.noConfusion z, fun _ => ⟨p.less (by omega), .inl rfl⟩⟩
          · repeat infer_instance
            refine ⟨fun h1 => ?_, fun h1 => ?_⟩
            · repeat infer_instance
              exact ⟨p.less (by omega), .inr rfl⟩
            · repeat infer_instance
              refine take_w (m := 2) (.inr (.inl rfl)) p fun d s hd q => ?_
              repeat infer_instance
              refine ⟨fun h2 => ?_, fun h2 => ⟨q, .inl rfl⟩⟩
              repeat infer_instance
              exact ⟨q, .inr rfl⟩
        · subst ey
          obtain ⟨a9, b9, c11, rfl, c12, c13⟩ := q
          have tl := tsub.length_le
          simp at tl
          refine ⟨fit5 (by simp; omega), ?_⟩
          repeat infer_instance
          refine ⟨⟨ts, K, ⟨by omega, by omega, by omega, fun t ht => by rw [hKl]; have := tsub.subset ht; simpa using this, pwn_zip (List.Pairwise.sublist tsub List.pairwise_lt_range), fun k hk => by rw [hKl]; exact hK k hk⟩, rfl⟩, ?_, _, a9, b9, c11, rfl, c12, c13⟩
          exact sch_pure (ts := ts) (ks := K)
end Hd

end
section
open Wk PySem
set_option maxRecDepth 100000
set_option maxHeartbeats 2000000
namespace Hd
local macro_rules
  | `(tactic| infer_instance) => `(tactic| first
    | with_reducible refine W_scons ?_
    | with_reducible refine W_snil ?_
    | with_reducible refine W_cst ?_
    | with_reducible refine W_cons ?_
    | with_reducible refine W_nil ?_
    | with_reducible refine W_star ?_
    | with_reducible refine W_set ?_
    | with_reducible refine W_ret ?_
    | with_reducible refine W_ex ?_
    | with_reducible refine W_iff ?_
    | with_reducible refine W_call ?_
    | with_reducible refine W_blt ?_
    | with_reducible refine W_ix ?_
    | with_reducible refine W_cmp ?_
    | with_reducible refine W_bin ?_
    | with_reducible refine W_tup ?_
    | with_reducible refine W_lst ?_
    | with_reducible refine W_lstA ?_
    | with_reducible refine W_and ?_
    | with_reducible refine W_or ?_
    | with_reducible refine W_not ?_
    | with_reducible refine W_ife ?_
    | with_reducible refine W_met ?_
    | with_reducible refine W_isi ?_
    | with_reducible refine W_lcR ?_
    | with_reducible refine W_lcRA ?_
    | with_reducible refine W_loopR ?_
    | with_reducible refine W_lc ?_
    | with_reducible refine W_lcA ?_
    | with_reducible refine W_loop ?_
    | with_reducible refine W_unp ?_
    | with_reducible refine W_sl ?_
    | with_reducible refine W_cat ?_
    | with_reducible refine W_six ?_
    | with_reducible refine W_lc2 ?_
    | with_reducible refine W_dc ?_
    | with_reducible refine W_dc2 ?_
    | with_reducible refine W_dct ?_
    | with_reducible refine W_rev ?_
    | with_reducible refine W_neg ?_
    | with_reducible refine W_cmp2 ?_
    | with_reducible refine W_lsa ?_
    | with_reducible refine W_noN ?_
    | with_reducible refine W_lkN ?_
    | with_reducible refine W_pass ?_
    | with_reducible refine W_brk ?_
    | with_reducible refine W_cnt ?_
    | with_reducible refine W_raise ?_
    | with_reducible refine W_tst0 ?_
    | with_reducible refine W_tst1 ?_
    | with_reducible refine W_inner ?_
    | with_reducible refine seq_nx ?_
    | with_reducible refine W_bnd ?_
    | with_reducible refine W_pure ?_
    | (with_reducible refine W_var ?hx ?_; (case hx => exact rfl))
    | (with_reducible refine W_gst ?hx ?_; (case hx => exact rfl))
    | (with_reducible refine W_aug ?hx ?_; (case hx => exact rfl))
    | refine ⟨fun _ => ?_, fun h => Bool.noConfusion h⟩
    | refine ⟨fun h => Bool.noConfusion h, fun _ => ?_⟩
    | refine ⟨_, rfl, ?_⟩
    | refine ⟨rfl, ?_⟩
    | refine ⟨_, _, rfl, ?_⟩)
/-- a kind's sizes -/
def Small (ks : List Knd) : Prop := ks.length ≤ 5 ∧ ∀ k ∈ ks, k.2.length ≤ 3 ∧ ∀ s ∈ k.2, s.2.length ≤ 3
theorem small_of {ts : List Nat} {ks : List Knd} (h : SchOk ts ks) : Small ks := ⟨h.2.1, fun k hk => ⟨(h.2.2.2.2.2 k hk).2.2.1, fun s hs => ((h.2.2.2.2.2 k hk).2.2.2 s hs).1⟩⟩
theorem moved_c {n by' : Nat} {ks : List Knd} (hs : Small ks) : ∃ ds sx, (Cn (n + 1)).call "moved" [.tup (ks.map knd), .int (by' : Nat)] [] = some (.ok (.tup ds) sx) ∧ D.pures ds = true ∧ ds.length ≤ 5 := by
  rw [call_s (F := v_moved) (by kernel_rfl)]
  have key : W (runF (Cn n) v_moved [.tup (ks.map knd), .int (by' : Nat)]) [] fun d s => ∃ ds, d = .tup ds ∧ D.pures ds = true ∧ ds.length ≤ 5 := by
    refine W_run (E := [some (.tup (ks.map knd)), some (.int (by' : Nat)), none, none, none, none, none, none, none]) rfl rfl ?_
    show W (evSs _ (.cons _ _) _) _ _
    repeat infer_instance
    refine W_loopM (fun L env st => ∃ (xs : List Knd) (acc : List D) (x3 x4 : Option D), L = xs.map knd ∧ env = [some (.tup (ks.map knd)), some (.int (by' : Nat)), some (.loc 0), x3, x4, none, none, none, none] ∧ st = [.lst false acc] ∧ (∀ y ∈ acc, y.pure = true) ∧ acc.length + xs.length ≤ 5 ∧ Small xs) _ ⟨ks, [], none, none, rfl, rfl, rfl, by simp, by simpa using hs.1, hs⟩ ?_ ?_
    · rintro x r env st ⟨xs, acc, x3, x4, e, rfl, rfl, p, l, h⟩
      cases xs with
      | nil => cases e
      | cons k xs =>
        obtain ⟨rfl, rfl⟩ := List.cons.inj e
        have hk := h.2 k List.mem_cons_self
        refine W_loopF (env1 := [some (.tup (ks.map knd)), some (.int (by' : Nat)), some (.loc 0), some (.str k.1), some (.tup (k.2.map stt)), none, none, none, none]) rfl ?_
        repeat infer_instance
        refine ⟨fit5 (by simp; omega), ?_⟩
        repeat infer_instance
        refine (each_pu (fun y => y.pure = true) _ fun y hy => ?_).mono fun ys s ⟨es, el, ep⟩ => ?_
        · obtain ⟨t, ht, rfl⟩ := List.mem_map.mp hy
          refine W_item (env' := [some (.tup (ks.map knd)), some (.int (by' : Nat)), some (.loc 0), some (.str k.1), some (.tup (k.2.map stt)), some (.bl t.1), some (.tup (t.2.map stp)), none, none]) rfl ?_
          repeat infer_instance
          have hq := hk.2 t ht
          refine ⟨fit5 (by simp; omega), ?_⟩
          repeat infer_instance
          refine (each_pu (fun y => y.pure = true) _ fun y hy => ?_).mono fun ys s ⟨es, el, ep⟩ => ?_
          · obtain ⟨q, _, rfl⟩ := List.mem_map.mp hy
            refine W_item (env' := [some (.tup (ks.map knd)), some (.int (by' : Nat)), some (.loc 0), some (.str k.1), some (.tup (k.2.map stt)), some (.bl t.1), some (.tup (t.2.map stp)), some (.int (q.1 : Nat)), some (.int (q.2 : Nat))]) rfl ?_
            repeat infer_instance
            exact fun y e => by cases e; rfl
          · subst es
            rw [List.length_map] at el
            refine ⟨fit5 (by omega), ?_⟩
            repeat infer_instance
            exact fun y e => by cases e; exact put2 rfl (pur ep)
        · subst es
          rw [List.length_map] at el
          refine ⟨fit5 (by omega), ?_⟩
          repeat infer_instance
          refine ⟨_, _, app_le (xs := acc) rfl (by simp at l; omega), ?_⟩
          repeat infer_instance
          refine ⟨xs, _, _, _, rfl, rfl, rfl, fun z hz => ?_, by simp at l ⊢; omega, ⟨by have := h.1; simp at this; omega, fun k hk => h.2 k (List.mem_cons_of_mem _ hk)⟩⟩
          rcases List.mem_append.mp hz with hz | hz
          · exact p z hz
          · rw [List.mem_singleton.mp hz]; exact put2 rfl (pur ep)
    · rintro env st ⟨xs, acc, x3, x4, e, rfl, rfl, p, l, h⟩
      repeat infer_instance
      exact ⟨pur p, by omega⟩
  obtain ⟨d, s, e, ds, rfl, p, l⟩ := key
  exact ⟨ds, s, e, p, l⟩
theorem joined_c {n : Nat} {ts us : List Nat} {ks ls : List Knd} (h1 : SchOk ts ks) (h2 : SchOk us ls) : ∃ d sx, (Cn (n + 7)).call "joined" [sch ts ks, sch us ls] [] = some (.ok d sx) ∧ d.pure = true := by
  rw [call_s (F := v_joined) (by kernel_rfl)]
  have k1 : ∀ st, callD (Cn (n + 6)) false "look_at_schema" [sch ts ks] st = some (.ok .non st) := fun st => callD_p (look_sch_c (n := n) h1) (pu1 sch_pure) rfl
  have k2 : ∀ st, callD (Cn (n + 6)) false "look_at_schema" [sch us ls] st = some (.ok .non st) := fun st => callD_p (look_sch_c (n := n) h2) (pu1 sch_pure) rfl
  obtain ⟨ds, sx, m1, m2, m3⟩ := moved_c (n := n + 5) (by' := ks.length) (small_of h2)
  have k3 : ∀ st, callD (Cn (n + 6)) false "moved" [.tup (ls.map knd), .int (ks.length : Nat)] st = some (.ok (.tup ds) st) := fun st => callD_p m1 (pu2 (a := .tup (ls.map knd)) knds_pure rfl) m2
  have key : W (runF (Cn (n + 6)) v_joined [sch ts ks, sch us ls]) [] fun d s => d.pure = true := by
    refine W_run (E := [some (sch ts ks), some (sch us ls), none, none]) rfl rfl ?_
    show W (evSs _ (.cons _ _) _) _ _
    repeat infer_instance
    refine W_eq (k1 _) ?_
    repeat infer_instance
    refine W_eq (k2 _) ?_
    repeat infer_instance
    have ul := h2.2.2.1
    have tl := h1.2.2.1
    have kl := h1.2.1
    simp only [List.length_map]
    refine ⟨fit5 (by omega), ?_⟩
    repeat infer_instance
    refine (each_pu (fun y => y.pure = true) _ fun y hy => ?_).mono fun ys s ⟨es, el, ep⟩ => ?_
    · obtain ⟨q, _, rfl⟩ := List.mem_map.mp hy
      refine W_item (env' := [some (sch ts ks), some (sch us ls), some (.int (ks.length : Nat)), some (.int (q : Nat))]) rfl ?_
      repeat infer_instance
      exact fun y e => by cases e; rfl
    · subst es
      rw [List.length_map] at el
      refine ⟨fit5 (by omega), ?_⟩
      repeat infer_instance
      refine ⟨fit5 (by simp; omega), ?_⟩
      repeat infer_instance
      refine W_eq (k3 _) ?_
      have hb : binD .Add (.tup (ks.map knd)) (.tup ds) [] = some (.tup (ks.map knd ++ ds)) := by
        show (if fit ((ks.map knd).length + ds.length) = true then some (D.tup (ks.map knd ++ ds)) else none) = _
        rw [if_pos (fit5 (by simp; omega))]
      refine ⟨_, hb, ?_⟩
      repeat infer_instance
      have a1 : D.pures (ts.map (fun (i : Nat) => D.int i) ++ (ys ++ [])) = true := pur fun z hz => by
        rcases List.mem_append.mp hz with hz | hz
        · obtain ⟨i, _, rfl⟩ := List.mem_map.mp hz; rfl
        · exact ep z (by simpa using hz)
      have a2 : D.pures (ks.map knd ++ ds) = true := pur fun z hz => by
        rcases List.mem_append.mp hz with hz | hz
        · obtain ⟨i, _, rfl⟩ := List.mem_map.mp hz; exact knd_pure
        · exact pure_in m2 hz
      exact pu2 (a := .tup _) (b := .tup _) a1 a2
  obtain ⟨d, s, e, p⟩ := key
  exact ⟨d, s, e, p⟩
end Hd

end
section
open Wk PySem
set_option maxRecDepth 100000
set_option maxHeartbeats 2000000
namespace Hd
local macro_rules
  | `(tactic| infer_instance) => `(tactic| first
    | with_reducible refine W_scons ?_
    | with_reducible refine W_snil ?_
    | with_reducible refine W_cst ?_
    | with_reducible refine W_cons ?_
    | with_reducible refine W_nil ?_
    | with_reducible refine W_star ?_
    | with_reducible refine W_set ?_
    | with_reducible refine W_ret ?_
    | with_reducible refine W_ex ?_
    | with_reducible refine W_iff ?_
    | with_reducible refine W_call ?_
    | with_reducible refine W_blt ?_
    | with_reducible refine W_ix ?_
    | with_reducible refine W_cmp ?_
    | with_reducible refine W_bin ?_
    | with_reducible refine W_tup ?_
    | with_reducible refine W_lst ?_
    | with_reducible refine W_lstA ?_
    | with_reducible refine W_and ?_
    | with_reducible refine W_or ?_
    | with_reducible refine W_not ?_
    | with_reducible refine W_ife ?_
    | with_reducible refine W_met ?_
    | with_reducible refine W_isi ?_
    | with_reducible refine W_lcR ?_
    | with_reducible refine W_lcRA ?_
    | with_reducible refine W_loopR ?_
    | with_reducible refine W_lc ?_
    | with_reducible refine W_lcA ?_
    | with_reducible refine W_loop ?_
    | with_reducible refine W_unp ?_
    | with_reducible refine W_sl ?_
    | with_reducible refine W_cat ?_
    | with_reducible refine W_six ?_
    | with_reducible refine W_lc2 ?_
    | with_reducible refine W_dc ?_
    | with_reducible refine W_dc2 ?_
    | with_reducible refine W_dct ?_
    | with_reducible refine W_rev ?_
    | with_reducible refine W_neg ?_
    | with_reducible refine W_cmp2 ?_
    | with_reducible refine W_lsa ?_
    | with_reducible refine W_noN ?_
    | with_reducible refine W_lkN ?_
    | with_reducible refine W_pass ?_
    | with_reducible refine W_brk ?_
    | with_reducible refine W_cnt ?_
    | with_reducible refine W_raise ?_
    | with_reducible refine W_tst0 ?_
    | with_reducible refine W_tst1 ?_
    | with_reducible refine W_inner ?_
    | with_reducible refine seq_nx ?_
    | with_reducible refine W_bnd ?_
    | with_reducible refine W_pure ?_
    | (with_reducible refine W_var ?hx ?_; (case hx => exact rfl))
    | (with_reducible refine W_gst ?hx ?_; (case hx => exact rfl))
    | (with_reducible refine W_aug ?hx ?_; (case hx => exact rfl))
    | refine ⟨fun _ => ?_, fun h => Bool.noConfusion h⟩
    | refine ⟨fun h => Bool.noConfusion h, fun _ => ?_⟩
    | refine ⟨_, rfl, ?_⟩
    | refine ⟨rfl, ?_⟩
    | refine ⟨_, _, rfl, ?_⟩)
/-- pairs by numbers -/
def NumOk (d : D) : Prop := ∃ (us : List Stp) (vs : List Int), d = .dic (us.map stp) (vs.map .int) ∧ us ≠ [] ∧ us.length = vs.length
theorem find_n {d : D} (h : NumOk d) (q : Stp) : ∃ o : Option D, (∀ st, dfind st d (stp q) = some o) ∧ ∀ v, o = some v → ∃ i : Int, v = .int i := by
  obtain ⟨us, vs, rfl, h1, h2⟩ := h
  refine ⟨dget (us.map stp) (vs.map .int) (kyS q), fun st => ?_, fun v hv => ?_⟩
  · show (stp q).toDK.bind (fun k => if flOk (us.map stp) k = true then some (dget (us.map stp) (vs.map .int) k) else none) = _
    rw [stp_dk]
    show (if flOk (us.map stp) (kyS q) = true then _ else _) = _
    rw [if_pos fl_s]
  · unfold dget at hv
    cases e : kIx (us.map stp) (kyS q) with
    | none => rw [e] at hv; cases hv
    | some i =>
      rw [e] at hv
      have hv : (vs.map D.int)[i]? = some v := hv
      rw [List.getElem?_map] at hv
      cases e2 : vs[i]? with
      | none => rw [e2] at hv; cases hv
      | some j => rw [e2] at hv; cases hv; exact ⟨j, rfl⟩
theorem num_pure {d : D} (h : NumOk d) : d.pure = true := by
  obtain ⟨us, vs, rfl, _, _⟩ := h
  show (D.pures (us.map stp) && D.pures (vs.map .int)) = true
  rw [stps_pure, pures_of (by simp [D.pure])]; rfl
theorem prs_of : ∀ {ys : List D}, (∀ y ∈ ys, ∃ p, y = prD p) → ∃ ps : List (Int × Int), ys = ps.map prD
  | [], _ => ⟨[], rfl⟩
  | y :: ys, h => by
    obtain ⟨p, rfl⟩ := h y List.mem_cons_self
    obtain ⟨ps, rfl⟩ := prs_of (ys := ys) fun z hz => h z (List.mem_cons_of_mem _ hz)
    exact ⟨p :: ps, rfl⟩
theorem prsOf_map : ∀ {ps : List (Int × Int)}, prsOf (ps.map prD) = some ps
  | [] => rfl
  | p :: ps => by show (prOf (prD p)).bind _ = _; show Option.map _ (prsOf (ps.map prD)) = _; rw [prsOf_map]; rfl
theorem insB_len {α : Type} {lt : α → α → Bool} {x : α} : ∀ {l : List α}, (insB lt x l).length = l.length + 1
  | [] => rfl
  | y :: ys => by
    unfold insB
    split
    · rw [List.length_cons, insB_len, List.length_cons]
    · rfl
theorem isort_len {α : Type} {lt : α → α → Bool} : ∀ {l : List α}, (isort lt l).length = l.length
  | [] => rfl
  | x :: l => by show (insB lt x (isort lt l)).length = _; rw [insB_len, isort_len]; rfl
theorem sort_pr {ps : List (Int × Int)} : ∃ qs : List (Int × Int), qs.length = ps.length ∧ ∀ st, bltD "sorted" [.lst (ps.map prD)] st = some (.lst (qs.map prD)) := by
  cases ps with
  | nil => exact ⟨[], rfl, fun st => rfl⟩
  | cons p ps =>
    refine ⟨isort ltPr (p :: ps), isort_len, fun st => ?_⟩
    show (match intsOf (prD p :: ps.map prD) with
      | some ns => some (D.lst ((isort ltI ns).map .int))
      | none => (prsOf ((p :: ps).map prD)).map fun (zs : List (Int × Int)) => D.lst ((isort ltPr zs).map prD)) = _
    rw [prsOf_map]; rfl
theorem cut_states_c {n : Nat} {ss us : List Stt} {d : D} (h1 : ss.length ≤ 3 ∧ ∀ s ∈ ss, StpsOk 5 3 s.2) (h2 : us.length ≤ 3 ∧ ∀ s ∈ us, StpsOk 5 3 s.2) (hd : NumOk d) : ∃ ds sx, (Cn (n + 1)).call "cut_states" [.tup (ss.map stt), .tup (us.map stt), d] [] = some (.ok (.tup ds) sx) ∧ D.pures ds = true ∧ ds.length ≤ 9 := by
  rw [call_s (F := v_cut_states) (by kernel_rfl)]
  have key : W (runF (Cn n) v_cut_states [.tup (ss.map stt), .tup (us.map stt), d]) [] fun d s => ∃ ds, d = .tup ds ∧ D.pures ds = true ∧ ds.length ≤ 9 := by
    let A : D := .tup (ss.map stt)
    let B : D := .tup (us.map stt)
    refine W_run (E := [some A, some B, some d, none, none, none, none, none, none, none, none, none, none, none]) rfl rfl ?_
    show W (evSs _ (.cons _ _) _) _ _
    repeat infer_instance
    simp only [List.length_map]
    refine W_loopM (fun L env st => ∃ (xs : List Stt) (acc : List D) (x5 x6 x7 x8 x9 : Option D), L = xs.map stt ∧ env = [some A, some B, some d, some (.int (us.length : Nat)), some (.loc 0), x5, x6, x7, x8, x9, none, none, none, none] ∧ st = [.lst false acc] ∧ (∀ y ∈ acc, y.pure = true) ∧ acc.length + us.length * xs.length ≤ 9 ∧ ∀ s ∈ xs, StpsOk 5 3 s.2) _ ⟨ss, [], none, none, none, none, none, rfl, rfl, rfl, by simp, ?_, h1.2⟩ ?_ ?_
    · have := h1.1; have := h2.1
      have : us.length * ss.length ≤ 3 * 3 := Nat.mul_le_mul h2.1 h1.1
      simpa using this
    · rintro x r env st ⟨xs, acc, x5, x6, x7, x8, x9, e, rfl, rfl, p, l, h⟩
      cases xs with
      | nil => cases e
      | cons t xs =>
        obtain ⟨rfl, rfl⟩ := List.cons.inj e
        have ht := h t List.mem_cons_self
        rw [List.length_cons, Nat.mul_succ] at l
        refine W_loopF (env1 := [some A, some B, some d, some (.int (us.length : Nat)), some (.loc 0), some (.bl t.1), some (.tup (t.2.map stp)), x7, x8, x9, none, none, none, none]) rfl ?_
        repeat infer_instance
        refine W_loopM (fun L env st => ∃ (zs : List Stt) (acc2 : List D) (x7 x8 x9 : Option D), L = zs.map stt ∧ env = [some A, some B, some d, some (.int (us.length : Nat)), some (.loc 0), some (.bl t.1), some (.tup (t.2.map stp)), x7, x8, x9, none, none, none, none] ∧ st = [.lst false acc2] ∧ (∀ y ∈ acc2, y.pure = true) ∧ acc2.length + zs.length ≤ acc.length + us.length ∧ ∀ s ∈ zs, StpsOk 5 3 s.2) _ ⟨us, acc, x7, x8, x9, rfl, rfl, rfl, p, Nat.le_refl _, h2.2⟩ ?_ ?_
        · rintro y r2 env st ⟨zs, acc2, x7, x8, x9, e, rfl, rfl, p2, l2, g⟩
          cases zs with
          | nil => cases e
          | cons u zs =>
            obtain ⟨rfl, rfl⟩ := List.cons.inj e
            have hu := g u List.mem_cons_self
            rw [List.length_cons] at l2
            refine W_loopF (env1 := [some A, some B, some d, some (.int (us.length : Nat)), some (.loc 0), some (.bl t.1), some (.tup (t.2.map stp)), some (.bl u.1), some (.tup (u.2.map stp)), x9, none, none, none, none]) rfl ?_
            repeat infer_instance
            refine (eachL_pu (fun y => ∃ p, y = prD p) 3 _ fun y hy => ?_).mono fun ys s ⟨es, el, ep⟩ => ?_
            · obtain ⟨q, hq, rfl⟩ := List.mem_map.mp hy
              have bq := ht.2.1 q hq
              refine W_itemL (env' := [some A, some B, some d, some (.int (us.length : Nat)), some (.loc 0), some (.bl t.1), some (.tup (t.2.map stp)), some (.bl u.1), some (.tup (u.2.map stp)), x9, some (.int (q.1 : Nat)), some (.int (q.2 : Nat)), none, none]) rfl ?_
              repeat infer_instance
              refine (eachL_pu (fun y => ∃ p, y = prD p) 1 _ fun y hy => ?_).mono fun ys s ⟨es, el, ep⟩ => ⟨es, ?_, ep⟩
              · obtain ⟨w, hw, rfl⟩ := List.mem_map.mp hy
                obtain ⟨o, ho, hv⟩ := find_n hd (q.1, w.1)
                refine W_itemL (env' := [some A, some B, some d, some (.int (us.length : Nat)), some (.loc 0), some (.bl t.1), some (.tup (t.2.map stp)), some (.bl u.1), some (.tup (u.2.map stp)), x9, some (.int (q.1 : Nat)), some (.int (q.2 : Nat)), some (.int (w.1 : Nat)), some (.int (w.2 : Nat))]) rfl ?_
                have hin : ∀ st, cmpD .In (.tup [.int (q.1 : Nat), .int (w.1 : Nat)]) d st = some o.isSome := fun st => by
                  have e := ho st
                  obtain ⟨vs, ws, rfl, _, _⟩ := hd
                  show (dfind st (.dic (vs.map stp) (ws.map .int)) (stp (q.1, w.1))).map Option.isSome = _
                  rw [e]; rfl
                have hix : ∀ st, ixD st d (.tup [.int (q.1 : Nat), .int (w.1 : Nat)]) = o := fun st => by
                  have e := ho st
                  obtain ⟨vs, ws, rfl, _, _⟩ := hd
                  show (dfind st (.dic (vs.map stp) (ws.map .int)) (stp (q.1, w.1))).join = _
                  rw [e]; rfl
                repeat infer_instance
                refine ⟨_, hin _, ?_⟩
                refine ⟨_, rfl, fun hr => ?_, fun hr => ⟨rfl, Nat.zero_le _, by simp⟩⟩
                cases o with
                | none => cases hr
                | some v =>
                  obtain ⟨i, rfl⟩ := hv v rfl
                  repeat infer_instance
                  refine ⟨_, hix _, ?_⟩
                  repeat infer_instance
                  refine ⟨_, mulI (by omega) (by have := h2.1; omega), ?_⟩
                  repeat infer_instance
                  exact ⟨Nat.le_refl _, fun y hy => by rw [List.mem_singleton.mp hy]; exact ⟨(i, _), rfl⟩⟩
              · have := hu.1
                simp at el; omega
            · subst es
              have := ht.1
              simp at el
              obtain ⟨ps, rfl⟩ := prs_of ep
              obtain ⟨qs, ql, hq⟩ := sort_pr (ps := ps)
              refine ⟨fit5 (by omega), ?_⟩
              repeat infer_instance
              refine ⟨fun h0 => ?_, fun h0 => ?_⟩ <;>
              · repeat infer_instance
                refine ⟨_, hq _, ?_⟩
                repeat infer_instance
                refine ⟨_, _, app_le (xs := acc2) rfl (by have := h2.1; omega), ?_⟩
                repeat infer_instance
                refine ⟨zs, _, _, _, _, rfl, rfl, rfl, fun z hz => ?_, by simp; omega, fun s hs => g s (List.mem_cons_of_mem _ hs)⟩
                rcases List.mem_append.mp hz with hz | hz
                · exact p2 z hz
                · rw [List.mem_singleton.mp hz]
                  exact pu2 (b := .tup _) rfl (pur fun y hy => by obtain ⟨p, _, rfl⟩ := List.mem_map.mp hy; rfl)
        · rintro env st ⟨zs, acc2, x7, x8, x9, e, rfl, rfl, p2, l2, g⟩
          cases zs with
          | cons a b => exact nomatch e
          | nil =>
            repeat infer_instance
            refine ⟨xs, _, _, _, _, _, _, rfl, rfl, rfl, p2, by simp at l2; omega, fun s hs => h s (List.mem_cons_of_mem _ hs)⟩
    · rintro env st ⟨xs, acc, x5, x6, x7, x8, x9, e, rfl, rfl, p, l, h⟩
      repeat infer_instance
      exact ⟨pur p, by omega⟩
  obtain ⟨d, s, e, ds, rfl, p, l⟩ := key
  exact ⟨ds, s, e, p, l⟩
end Hd

end
section
open Wk PySem
set_option maxRecDepth 100000
set_option maxHeartbeats 2000000
namespace Hd
local macro_rules
  | `(tactic| infer_instance) => `(tactic| first
    | with_reducible refine W_scons ?_
    | with_reducible refine W_snil ?_
    | with_reducible refine W_cst ?_
    | with_reducible refine W_cons ?_
    | with_reducible refine W_nil ?_
    | with_reducible refine W_star ?_
    | with_reducible refine W_set ?_
    | with_reducible refine W_ret ?_
    | with_reducible refine W_ex ?_
    | with_reducible refine W_iff ?_
    | with_reducible refine W_call ?_
    | with_reducible refine W_blt ?_
    | with_reducible refine W_ix ?_
    | with_reducible refine W_cmp ?_
    | with_reducible refine W_bin ?_
    | with_reducible refine W_tup ?_
    | with_reducible refine W_lst ?_
    | with_reducible refine W_lstA ?_
    | with_reducible refine W_and ?_
    | with_reducible refine W_or ?_
    | with_reducible refine W_not ?_
    | with_reducible refine W_ife ?_
    | with_reducible refine W_met ?_
    | with_reducible refine W_isi ?_
    | with_reducible refine W_lcR ?_
    | with_reducible refine W_lcRA ?_
    | with_reducible refine W_loopR ?_
    | with_reducible refine W_lc ?_
    | with_reducible refine W_lcA ?_
    | with_reducible refine W_loop ?_
    | with_reducible refine W_unp ?_
    | with_reducible refine W_sl ?_
    | with_reducible refine W_cat ?_
    | with_reducible refine W_six ?_
    | with_reducible refine W_lc2 ?_
    | with_reducible refine W_dc ?_
    | with_reducible refine W_dc2 ?_
    | with_reducible refine W_dct ?_
    | with_reducible refine W_rev ?_
    | with_reducible refine W_neg ?_
    | with_reducible refine W_cmp2 ?_
    | with_reducible refine W_lsa ?_
    | with_reducible refine W_noN ?_
    | with_reducible refine W_lkN ?_
    | with_reducible refine W_pass ?_
    | with_reducible refine W_brk ?_
    | with_reducible refine W_cnt ?_
    | with_reducible refine W_raise ?_
    | with_reducible refine W_tst0 ?_
    | with_reducible refine W_tst1 ?_
    | with_reducible refine W_inner ?_
    | with_reducible refine seq_nx ?_
    | with_reducible refine W_bnd ?_
    | with_reducible refine W_pure ?_
    | (with_reducible refine W_var ?hx ?_; (case hx => exact rfl))
    | (with_reducible refine W_gst ?hx ?_; (case hx => exact rfl))
    | (with_reducible refine W_aug ?hx ?_; (case hx => exact rfl))
    | refine ⟨fun _ => ?_, fun h => Bool.noConfusion h⟩
    | refine ⟨fun h => Bool.noConfusion h, fun _ => ?_⟩
    | refine ⟨_, rfl, ?_⟩
    | refine ⟨rfl, ?_⟩
    | refine ⟨_, _, rfl, ?_⟩)
def prN (p : Stp × Int) : D := .tup [stp p.1, .int p.2]
theorem put_prs : ∀ (out : List (Stp × Int)) (us : List Stp) (vs : List Int), us.length = vs.length → us.length + out.length < 1000 → ∃ (us2 : List Stp) (vs2 : List Int), putAll (out.map prN) (us.map stp, vs.map .int) = some (us2.map stp, vs2.map .int) ∧ us2.length = vs2.length ∧ (us ≠ [] ∨ out ≠ [] → us2 ≠ [])
  | [], us, vs, h, _ => ⟨us, vs, rfl, h, by simp⟩
  | p :: out, us, vs, h, hl => by
    rw [List.length_cons] at hl
    have hf : (flOk (us.map stp) (kyS p.1) && Nat.blt (us.map stp).length sizeLine) = true := by
      rw [Bool.and_eq_true]
      exact ⟨fl_s, by rw [List.length_map, sizeLine_eq]; exact Nat.blt_eq.mpr (by omega)⟩
    have e : putAll ((p :: out).map prN) (us.map stp, vs.map .int) = putAll (out.map prN) (dput (us.map stp) (vs.map .int) (stp p.1) (kyS p.1) (.int p.2)) := by
      show ((stp p.1).toDK.bind fun q => if flOk (us.map stp) q && Nat.blt (us.map stp).length sizeLine then putAll (out.map prN) (dput (us.map stp) (vs.map .int) (stp p.1) q (.int p.2)) else none) = _
      rw [stp_dk]
      show (if (flOk (us.map stp) (kyS p.1) && Nat.blt (us.map stp).length sizeLine) = true then _ else none) = _
      rw [if_pos hf]
    rw [e]
    unfold dput
    cases q : kIx (us.map stp) (kyS p.1) with
    | some i =>
      have hi := kx_lt q
      have : (vs.map D.int).set i (.int p.2) = (vs.set i p.2).map .int := by rw [List.map_set]
      simp only [this]
      obtain ⟨us2, vs2, k1, k2, k3⟩ := put_prs out us (vs.set i p.2) (by simpa using h) (by omega)
      exact ⟨us2, vs2, k1, k2, fun _ => k3 (.inl fun z => by rw [z] at hi; simp at hi)⟩
    | none =>
      have e1 : us.map stp ++ [stp p.1] = (us ++ [p.1]).map stp := by simp
      have e2 : vs.map D.int ++ [.int p.2] = (vs ++ [p.2]).map .int := by simp
      simp only [e1, e2]
      obtain ⟨us2, vs2, k1, k2, k3⟩ := put_prs out (us ++ [p.1]) (vs ++ [p.2]) (by simp [h]) (by simp; omega)
      exact ⟨us2, vs2, k1, k2, fun _ => k3 (.inl (by simp))⟩
theorem stps_mono {a b c d : Nat} {ss : List Stp} (h : StpsOk a b ss) (h1 : a ≤ c) (h2 : b ≤ d) : StpsOk c d ss := ⟨h.1, fun q hq => ⟨by have := (h.2.1 q hq).1; omega, by have := (h.2.1 q hq).2; omega⟩, h.2.2⟩
theorem knd_53 {ts : List Nat} {ks : List Knd} (h : SchOk ts ks) {k : Knd} (hk : k ∈ ks) : k.2.length ≤ 3 ∧ ∀ s ∈ k.2, StpsOk 5 3 s.2 :=
  let z := h.2.2.2.2.2 k hk
  ⟨z.2.2.1, fun s hs => stps_mono (z.2.2.2 s hs) h.2.1 z.2.2.1⟩
theorem cut_c {n : Nat} {ts us : List Nat} {ks ls : List Knd} (h1 : SchOk ts ks) (h2 : SchOk us ls) : ∃ d sx, (Cn (n + 7)).call "cut" [sch ts ks, sch us ls] [] = some (.ok d sx) ∧ d.pure = true := by
  rw [call_s (F := v_cut) (by kernel_rfl)]
  have k1 : ∀ st, callD (Cn (n + 6)) false "look_at_schema" [sch ts ks] st = some (.ok .non st) := fun st => callD_p (look_sch_c (n := n) h1) (pu1 sch_pure) rfl
  have k2 : ∀ st, callD (Cn (n + 6)) false "look_at_schema" [sch us ls] st = some (.ok .non st) := fun st => callD_p (look_sch_c (n := n) h2) (pu1 sch_pure) rfl
  have key : W (runF (Cn (n + 6)) v_cut [sch ts ks, sch us ls]) [] fun d s => d.pure = true := by
    refine W_run (E := [some (sch ts ks), some (sch us ls), none, none, none, none, none, none, none, none, none, none]) rfl rfl ?_
    show W (evSs _ (.cons _ _) _) _ _
    repeat infer_instance
    refine W_eq (k1 _) ?_
    repeat infer_instance
    refine W_eq (k2 _) ?_
    repeat infer_instance
    rw [zip_enum]
    have lk := h1.2.1
    have ll := h2.2.1
    refine (eachL_pu (fun y => ∃ q : Stp, y = stp q ∧ q.1 < ks.length ∧ q.2 < ls.length) 5 _ fun y hy => ?_).mono fun ys s ⟨es, el, ep⟩ => ?_
    · obtain ⟨⟨k, i⟩, hq, rfl⟩ := List.mem_map.mp hy
      obtain ⟨hi, ek⟩ := List.mem_zipIdx' hq
      refine W_itemL (env' := [some (sch ts ks), some (sch us ls), none, none, none, none, some (iD i), some (knd k), none, none, none, none]) rfl ?_
      repeat infer_instance
      rw [zip_enum]
      refine (eachL_pu (fun y => ∃ q : Stp, y = stp q ∧ q.1 < ks.length ∧ q.2 < ls.length) 1 _ fun y hy => ?_).mono fun ys s ⟨es, el, ep⟩ => ⟨es, by simp at el; omega, ep⟩
      obtain ⟨⟨m, j⟩, hq2, rfl⟩ := List.mem_map.mp hy
      obtain ⟨hj, em⟩ := List.mem_zipIdx' hq2
      refine W_itemL (env' := [some (sch ts ks), some (sch us ls), none, none, none, none, some (iD i), some (knd k), some (iD j), some (knd m), none, none]) rfl ?_
      repeat infer_instance
      have o1 := okS_nm (h1.2.2.2.2.2 k (by rw [ek]; exact List.getElem_mem hi)).1
      have o2 := okS_nm (h2.2.2.2.2.2 m (by rw [em]; exact List.getElem_mem hj)).1
      refine ⟨_, eq_str (st := []) o1 o2, _, rfl, fun hr => ?_, fun hr => ⟨rfl, Nat.zero_le _, by simp⟩⟩
      repeat infer_instance
      exact ⟨Nat.le_refl _, fun y hy => by rw [List.mem_singleton.mp hy]; exact ⟨(i, j), rfl, hi, hj⟩⟩
    · subst es
      obtain ⟨ps, rfl, pp⟩ := stps_of ep
      have el : ps.length ≤ 25 := by simp at el; omega
      refine ⟨fit5 (by simp; omega), ?_⟩
      repeat infer_instance
      refine ⟨_, eq_nil_pairs, _, rfl, fun he => ?_, fun he => ?_⟩
      · repeat infer_instance
        refine ⟨_, ix_map (i := 0) (show 0 < ks.length by have := h1.1; omega), ?_⟩
        repeat infer_instance
        exact rfl
      · repeat infer_instance
        rw [zip_enum]
        refine (eachL_one (v := fun (p : Stp × Nat) => prN (p.1, (p.2 : Int))) fun p hp => ?_).mono fun ys s ⟨es, e2⟩ => ?_
        · refine W_itemL (env' := [some (sch ts ks), some (sch us ls), some (.lst (ps.map stp)), none, none, none, none, none, none, none, some (iD p.2), some (stp p.1)]) rfl ?_
          repeat infer_instance
          exact rfl
        · subst es e2
          have em : (ps.zipIdx.map fun (p : Stp × Nat) => prN (p.1, (p.2 : Int))) = (ps.zipIdx.map fun (p : Stp × Nat) => (p.1, (p.2 : Int))).map prN := by rw [List.map_map]; rfl
          obtain ⟨us2, vs2, g1, g2, g3⟩ := put_prs (ps.zipIdx.map fun (p : Stp × Nat) => (p.1, (p.2 : Int))) [] [] rfl (by simp; omega)
          have hn : NumOk (.dic (us2.map stp) (vs2.map .int)) := ⟨us2, vs2, rfl, g3 (.inr (by cases ps with
            | nil => cases he
            | cons a b => simp)), g2⟩
          rw [← em] at g1
          refine ⟨_, g1, ?_⟩
          repeat infer_instance
          have h5 : ∀ (i : Nat) (hi : i < ks.length) st, ixD st (.tup (ks.map knd)) (iD i) = some (knd ks[i]) := fun i hi st => ix_map hi
          have h6 : ∀ (i : Nat) (hi : i < ls.length) st, ixD st (.tup (ls.map knd)) (iD i) = some (knd ls[i]) := fun i hi st => ix_map hi
          refine ⟨fit5 (by simp; omega), ?_⟩
          repeat infer_instance
          refine (each_pu (fun y => y.pure = true) _ fun y hy => ?_).mono fun ys s ⟨es, el2, ep2⟩ => ?_
          · obtain ⟨q, hq, rfl⟩ := List.mem_map.mp hy
            obtain ⟨q1, q2⟩ := pp q hq
            obtain ⟨ds, sx, m1, m2, m3⟩ := cut_states_c (n := n + 5) (knd_53 h1 (List.getElem_mem q1)) (knd_53 h2 (List.getElem_mem q2)) hn
            refine W_item (env' := [some (sch ts ks), some (sch us ls), some (.lst (ps.map stp)), some (.dic (us2.map stp) (vs2.map .int)), none, none, some (iD q.1), none, some (iD q.2), none, none, none]) rfl ?_
            repeat infer_instance
            refine ⟨_, h5 q.1 q1 _, ?_⟩
            repeat infer_instance
            refine ⟨_, h5 q.1 q1 _, ?_⟩
            repeat infer_instance
            refine ⟨_, h6 q.2 q2 _, ?_⟩
            repeat infer_instance
            refine W_eq (callD_p m1 (pu3 (a := .tup _) (b := .tup _) stts_pure stts_pure (num_pure hn)) m2) ?_
            repeat infer_instance
            exact fun y e => by cases e; exact pu2 (b := .tup _) rfl m2
          · subst es
            rw [List.length_map] at el2
            refine ⟨fit5 (by omega), ?_⟩
            repeat infer_instance
            rw [zip_enum]
            refine ⟨fit5 (by simp; omega), ?_⟩
            repeat infer_instance
            refine (each_pu (fun y => y.pure = true) _ fun y hy => ?_).mono fun zs s ⟨es, el3, ep3⟩ => ?_
            · obtain ⟨p, hp, rfl⟩ := List.mem_map.mp hy
              refine W_item (env' := [some (sch ts ks), some (sch us ls), some (.lst (ps.map stp)), some (.dic (us2.map stp) (vs2.map .int)), some (.lst ys), none, some (iD p.1.1), none, some (iD p.1.2), none, some (iD p.2), none]) rfl ?_
              repeat infer_instance
              refine ⟨_, in_tn, ?_⟩
              repeat infer_instance
              refine ⟨fun h0 => ?_, fun h0 => ?_⟩
              · refine ⟨_, rfl, fun z => Bool.noConfusion z, fun _ => ⟨rfl, by simp⟩⟩
              · repeat infer_instance
                refine ⟨_, in_tn, _, rfl, fun h7 => ?_, fun h7 => ⟨rfl, by simp⟩⟩
                repeat infer_instance
                exact fun y e => by cases e; rfl
            · subst es
              simp only [List.length_map, List.length_zipIdx] at el3
              refine ⟨fit5 (by omega), ?_⟩
              repeat infer_instance
              exact pu2 (a := .tup _) (b := .tup _) (pur ep3) (pur ep2)
  obtain ⟨d, s, e, p⟩ := key
  exact ⟨d, s, e, p⟩
end Hd

end
section
open Wk PySem
set_option maxRecDepth 100000
set_option maxHeartbeats 2000000
namespace Hd
local macro_rules
  | `(tactic| infer_instance) => `(tactic| first
    | with_reducible refine W_scons ?_
    | with_reducible refine W_snil ?_
    | with_reducible refine W_cst ?_
    | with_reducible refine W_cons ?_
    | with_reducible refine W_nil ?_
    | with_reducible refine W_star ?_
    | with_reducible refine W_set ?_
    | with_reducible refine W_ret ?_
    | with_reducible refine W_ex ?_
    | with_reducible refine W_iff ?_
    | with_reducible refine W_call ?_
    | with_reducible refine W_blt ?_
    | with_reducible refine W_ix ?_
    | with_reducible refine W_cmp ?_
    | with_reducible refine W_bin ?_
    | with_reducible refine W_tup ?_
    | with_reducible refine W_lst ?_
    | with_reducible refine W_lstA ?_
    | with_reducible refine W_and ?_
    | with_reducible refine W_or ?_
    | with_reducible refine W_not ?_
    | with_reducible refine W_ife ?_
    | with_reducible refine W_met ?_
    | with_reducible refine W_isi ?_
    | with_reducible refine W_lcR ?_
    | with_reducible refine W_lcRA ?_
    | with_reducible refine W_loopR ?_
    | with_reducible refine W_lc ?_
    | with_reducible refine W_lcA ?_
    | with_reducible refine W_loop ?_
    | with_reducible refine W_unp ?_
    | with_reducible refine W_sl ?_
    | with_reducible refine W_cat ?_
    | with_reducible refine W_six ?_
    | with_reducible refine W_lc2 ?_
    | with_reducible refine W_dc ?_
    | with_reducible refine W_dc2 ?_
    | with_reducible refine W_dct ?_
    | with_reducible refine W_rev ?_
    | with_reducible refine W_neg ?_
    | with_reducible refine W_cmp2 ?_
    | with_reducible refine W_lsa ?_
    | with_reducible refine W_noN ?_
    | with_reducible refine W_lkN ?_
    | with_reducible refine W_pass ?_
    | with_reducible refine W_brk ?_
    | with_reducible refine W_cnt ?_
    | with_reducible refine W_raise ?_
    | with_reducible refine W_tst0 ?_
    | with_reducible refine W_tst1 ?_
    | with_reducible refine W_inner ?_
    | with_reducible refine seq_nx ?_
    | with_reducible refine W_bnd ?_
    | with_reducible refine W_pure ?_
    | (with_reducible refine W_var ?hx ?_; (case hx => exact rfl))
    | (with_reducible refine W_gst ?hx ?_; (case hx => exact rfl))
    | (with_reducible refine W_aug ?hx ?_; (case hx => exact rfl))
    | refine ⟨fun _ => ?_, fun h => Bool.noConfusion h⟩
    | refine ⟨fun h => Bool.noConfusion h, fun _ => ?_⟩
    | refine ⟨_, rfl, ?_⟩
    | refine ⟨rfl, ?_⟩
    | refine ⟨_, _, rfl, ?_⟩)
/-- which def is asked -/
def inner (w : Int) : Str := if w = 0 then "joined" else "cut"
theorem err_c : (Cn 98).call "_law_error" [.exc "NoSchema" []] [] = some (.ok (.str "schema") []) := by kernel_rfl
theorem err_n : (Cn 98).call "_law_error" [.non] [] = some (.ok (.str "") []) := by kernel_rfl
theorem cq {C : Wk.Ctx} {i j : Int} {r : Bool} {E : List (Option D)} (h : decide (i = j) = r) : Ev C (some (.int i) :: E) (.cmp .Eq (.var 0) (.cst (.int j))) [] (.bl r) [] :=
  Ev.cmp (Ev.var rfl) Ev.cst (by show eqD [] (.int i) (.int j) = some r; rw [eqD_int, h])
theorem inner_ok {C : Wk.Ctx} {w : Int} {a b k d : D} (hw : w = 0 ∨ w = 1) (h : callD C false (inner w) [a, b] [] = some (.ok d [])) : Ess C [some (.int w), some a, some b, some k, some .non, none] (v__law_word.body.at_ 2).tb [] (.nx [some (.int w), some a, some b, some k, some .non, none]) [] := by
  rcases hw with rfl | rfl
  · have h : callD C false "joined" [a, b] [] = some (.ok d []) := h
    exact Ess.nx (Es.iffT (cq (by rfl)) (Ess.nx (Es.ex (Ev.call (EvA.cons (Ev.var rfl) (EvA.cons (Ev.var rfl) EvA.nil)) h)) Ess.nil)) Ess.nil
  · have h : callD C false "cut" [a, b] [] = some (.ok d []) := h
    exact Ess.nx (Es.iffF (cq (by rfl)) (Ess.nx (Es.ex (Ev.call (EvA.cons (Ev.var rfl) (EvA.cons (Ev.var rfl) EvA.nil)) h)) Ess.nil)) Ess.nil
theorem inner_er {C : Wk.Ctx} {w : Int} {a b k x : D} (hw : w = 0 ∨ w = 1) (h : callD C false (inner w) [a, b] [] = some (.ex x [])) : Ess C [some (.int w), some a, some b, some k, some .non, none] (v__law_word.body.at_ 2).tb [] (.er [some (.int w), some a, some b, some k, some .non, none] x) [] := by
  rcases hw with rfl | rfl
  · have h : callD C false "joined" [a, b] [] = some (.ex x []) := h
    exact Ess.er (Es.iffT (cq (by rfl)) (Ess.er (Es.exX (EvX.call (EvA.cons (Ev.var rfl) (EvA.cons (Ev.var rfl) EvA.nil)) h))))
  · have h : callD C false "cut" [a, b] [] = some (.ex x []) := h
    exact Ess.er (Es.iffF (cq (by rfl)) (Ess.er (Es.exX (EvX.call (EvA.cons (Ev.var rfl) (EvA.cons (Ev.var rfl) EvA.nil)) h))))
theorem repr_c {dep sh : Nat} {a b : D} (hd : dep + 1 ≤ most) (hs : 2 * (sh + 2) + 3 ≤ 16000000) (pa : Pd dep sh a) (pb : Pd dep sh b) : ∃ t : Str, bltD "repr" [.lst [a, b]] [] = some (.str t) ∧ okS t := by
  have p : Pd (dep + 1) (2 * (sh + 2) + 3) (.lst [a, b]) := Pd.lst (ds := [a, b]) (by
    intro d hm
    simp only [List.mem_cons, List.not_mem_nil, or_false] at hm
    rcases hm with rfl | rfl <;> assumption)
  obtain ⟨x, e, hx, ho⟩ := show_ok (st := []) (e := .lst [a, b]) p hd hs rfl ⟨_, .inr rfl⟩
  exact ⟨x.shown, by show (showD _ _).map D.str = _; rw [hx]; rfl, ho⟩
noncomputable def wd (w : Int) (a b : D) : Option (Out D) := (Cn 99).call "_law_word" [.int w, a, b] []
theorem rhs_c {w' : Option D} {a b : D} {t : Str} (e : bltD "repr" [.lst [a, b]] [] = some (.str t)) {E : List (Option D)} : Ev (Cn 98) (w' :: some a :: some b :: E) (.blt "repr" (.cons false (.lst false (.cons false (.var 1) (.cons false (.var 2) .nil))) .nil)) [] (.str t) [] :=
  Ev.blt (EvA.cons (Ev.lst (EvA.cons (Ev.var rfl) (EvA.cons (Ev.var rfl) EvA.nil)) rfl) EvA.nil) e
theorem same_c {t : Str} (ho : okS t) : cmpD .NotEq (.str t) (.str t) [] = some false := by
  show (eqD [] (.str t) (.str t)).map (!·) = some false
  rw [eq_str ho ho]
  simp
theorem word_ok {dep sh : Nat} {w : Int} (hw : w = 0 ∨ w = 1) {a b d : D} (hd : dep + 1 ≤ most) (hs : 2 * (sh + 2) + 3 ≤ 16000000) (pa : Pd dep sh a) (pb : Pd dep sh b)
    (h : callD (Cn 98) false (inner w) [a, b] [] = some (.ok d [])) : wd w a b = some (.ok (.str "") []) := by
  obtain ⟨t, e, ho⟩ := repr_c hd hs pa pb
  show (Cn 99).call "_law_word" _ _ = _
  rw [call_s (n := 98) (F := v__law_word) (by kernel_rfl)]
  have k1 : callD (Cn 98) false "_law_error" [.non] [] = some (.ok (.str "") []) := callD_p err_n rfl rfl
  exact run_rt rfl (Ess.nx (Es.set (rhs_c e) (show 3 < 6 by decide)) (Ess.nx (Es.set Ev.cst (show 4 < 6 by decide)) (Ess.nx (Es.tryN (inner_ok hw h)) (Ess.nx (Es.iffF (Ev.cmp (rhs_c e) (Ev.var rfl) (same_c ho)) Ess.nil) (Ess.rt (Es.ret (Ev.call (EvA.cons (Ev.var rfl) EvA.nil) k1)))))))
theorem word_er {dep sh : Nat} {w : Int} (hw : w = 0 ∨ w = 1) {a b : D} (hd : dep + 1 ≤ most) (hs : 2 * (sh + 2) + 3 ≤ 16000000) (pa : Pd dep sh a) (pb : Pd dep sh b)
    (h : callD (Cn 98) false (inner w) [a, b] [] = some (.ex (.exc "NoSchema" []) [])) : wd w a b = some (.ok (.str "schema") []) := by
  obtain ⟨t, e, ho⟩ := repr_c hd hs pa pb
  show (Cn 99).call "_law_word" _ _ = _
  rw [call_s (n := 98) (F := v__law_word) (by kernel_rfl)]
  have k1 : callD (Cn 98) false "_law_error" [.exc "NoSchema" []] [] = some (.ok (.str "schema") []) := callD_p err_c rfl rfl
  exact run_rt rfl (Ess.nx (Es.set (rhs_c e) (show 3 < 6 by decide)) (Ess.nx (Es.set Ev.cst (show 4 < 6 by decide)) (Ess.nx (Es.tryX (inner_er hw h) (by simp) (show 5 < 6 by decide) (show 4 < 6 by decide)) (Ess.nx (Es.iffF (Ev.cmp (rhs_c e) (Ev.var rfl) (same_c ho)) Ess.nil) (Ess.rt (Es.ret (Ev.call (EvA.cons (Ev.var rfl) EvA.nil) k1)))))))
theorem sx_look : bss.all (fun b => isX "NoSchema" (callD (Cn 97) false "look_at_schema" [b] [])) = true := by kernel_rfl
theorem look_b {b : D} (hb : b ∈ bss) : callD (Cn 97) false "look_at_schema" [b] [] = some (.ex (.exc "NoSchema" []) []) := isX_ok (List.all_eq_true.mp sx_look b hb)
theorem look97 {ts : List Nat} {ks : List Knd} (hs : SchOk ts ks) : callD (Cn 97) false "look_at_schema" [sch ts ks] [] = some (.ok .non []) := callD_p (look_sch_c (n := 91) hs) (pu1 sch_pure) rfl
theorem bad1 {w : Int} (hw : w = 0 ∨ w = 1) {a b : D} (hb : a ∈ bss) (pb : b.pure = true) : callD (Cn 98) false (inner w) [a, b] [] = some (.ex (.exc "NoSchema" []) []) := by
  have pa := all_pu pure_bss a hb
  have k := look_b hb
  rcases hw with rfl | rfl
  · refine callD_x (f := "joined") (sx := []) ?_ (pu2 pa pb)
    rw [call_s (n := 97) (F := v_joined) (by kernel_rfl)]
    exact run_er rfl (Ess.er (Es.exX (EvX.call (EvA.cons (Ev.var rfl) EvA.nil) k)))
  · refine callD_x (f := "cut") (sx := []) ?_ (pu2 pa pb)
    rw [call_s (n := 97) (F := v_cut) (by kernel_rfl)]
    exact run_er rfl (Ess.er (Es.exX (EvX.call (EvA.cons (Ev.var rfl) EvA.nil) k)))
theorem bad2 {w : Int} (hw : w = 0 ∨ w = 1) {ts : List Nat} {ks : List Knd} (hs : SchOk ts ks) {b : D} (hb : b ∈ bss) : callD (Cn 98) false (inner w) [sch ts ks, b] [] = some (.ex (.exc "NoSchema" []) []) := by
  have pb := all_pu pure_bss b hb
  have k1 := look97 hs
  have k := look_b hb
  rcases hw with rfl | rfl
  · refine callD_x (f := "joined") (sx := []) ?_ (pu2 sch_pure pb)
    rw [call_s (n := 97) (F := v_joined) (by kernel_rfl)]
    exact run_er rfl (Ess.nx (Es.ex (Ev.call (EvA.cons (Ev.var rfl) EvA.nil) k1)) (Ess.er (Es.exX (EvX.call (EvA.cons (Ev.var rfl) EvA.nil) k))))
  · refine callD_x (f := "cut") (sx := []) ?_ (pu2 sch_pure pb)
    rw [call_s (n := 97) (F := v_cut) (by kernel_rfl)]
    exact run_er rfl (Ess.nx (Es.ex (Ev.call (EvA.cons (Ev.var rfl) EvA.nil) k1)) (Ess.er (Es.exX (EvX.call (EvA.cons (Ev.var rfl) EvA.nil) k))))
theorem pd_n : Pd 10 7200 .non := (pd_of (d := .non) (by kernel_rfl)).mono (Nat.le_refl _) (by decide)
theorem pd_s {ts : List Nat} {ks : List Knd} (hs : SchOk ts ks) : Pd 10 7200 (sch ts ks) := (pd_sch hs).mono (by decide) (by decide)
theorem pd_b {b : D} (hb : b ∈ bss) : Pd 10 7200 b := (pd_of (List.all_eq_true.mp pd_bss b hb)).mono (Nat.le_refl _) (by decide)
theorem hmost : 10 + 1 ≤ most := by decide
/-- what comes of a word, anywhere -/
theorem wd_at {w : Int} {a b d : D} (h : wd w a b = some (.ok d [])) (pa : a.pure = true) (pb : b.pure = true) (pd : d.pure = true) (st : Store) : callD (Cn 99) false "_law_word" [.int w, a, b] st = some (.ok d st) := callD_p h (pu3 rfl pa pb) pd
theorem w_bad1 {w : Int} (hw : w = 0 ∨ w = 1) {a b : D} (hb : a ∈ bss) (pb : b.pure = true) (qb : Pd 10 7200 b) (st : Store) : callD (Cn 99) false "_law_word" [.int w, a, b] st = some (.ok (.str "schema") st) :=
  wd_at (word_er hw hmost (by decide) (pd_b hb) qb (bad1 hw hb pb)) (all_pu pure_bss a hb) pb rfl st
theorem w_bad2 {w : Int} (hw : w = 0 ∨ w = 1) {ts : List Nat} {ks : List Knd} (hs : SchOk ts ks) {b : D} (hb : b ∈ bss) (st : Store) : callD (Cn 99) false "_law_word" [.int w, sch ts ks, b] st = some (.ok (.str "schema") st) :=
  wd_at (word_er hw hmost (by decide) (pd_s hs) (pd_b hb) (bad2 hw hs hb)) sch_pure (all_pu pure_bss b hb) rfl st
theorem w_good {w : Int} (hw : w = 0 ∨ w = 1) {ts us : List Nat} {ks ls : List Knd} (h1 : SchOk ts ks) (h2 : SchOk us ls) (st : Store) : callD (Cn 99) false "_law_word" [.int w, sch ts ks, sch us ls] st = some (.ok (.str "") st) := by
  have key : ∃ d, callD (Cn 98) false (inner w) [sch ts ks, sch us ls] [] = some (.ok d []) := by
    rcases hw with rfl | rfl
    · obtain ⟨d, sx, e, p⟩ := joined_c (n := 91) h1 h2
      exact ⟨d, callD_p (f := "joined") e (pu2 sch_pure sch_pure) p⟩
    · obtain ⟨d, sx, e, p⟩ := cut_c (n := 91) h1 h2
      exact ⟨d, callD_p (f := "cut") e (pu2 sch_pure sch_pure) p⟩
  obtain ⟨d, hd⟩ := key
  exact wd_at (word_ok hw hmost (by decide) (pd_s h1) (pd_s h2) hd) sch_pure sch_pure rfl st
end Hd

end
section
open Wk PySem
set_option maxRecDepth 100000
set_option maxHeartbeats 2000000
namespace Hd
local macro_rules
  | `(tactic| infer_instance) => `(tactic| first
    | with_reducible refine W_scons ?_
    | with_reducible refine W_snil ?_
    | with_reducible refine W_cst ?_
    | with_reducible refine W_cons ?_
    | with_reducible refine W_nil ?_
    | with_reducible refine W_star ?_
    | with_reducible refine W_set ?_
    | with_reducible refine W_ret ?_
    | with_reducible refine W_ex ?_
    | with_reducible refine W_iff ?_
    | with_reducible refine W_call ?_
    | with_reducible refine W_blt ?_
    | with_reducible refine W_ix ?_
    | with_reducible refine W_cmp ?_
    | with_reducible refine W_bin ?_
    | with_reducible refine W_tup ?_
    | with_reducible refine W_lst ?_
    | with_reducible refine W_lstA ?_
    | with_reducible refine W_and ?_
    | with_reducible refine W_or ?_
    | with_reducible refine W_not ?_
    | with_reducible refine W_ife ?_
    | with_reducible refine W_met ?_
    | with_reducible refine W_isi ?_
    | with_reducible refine W_lcR ?_
    | with_reducible refine W_lcRA ?_
    | with_reducible refine W_loopR ?_
    | with_reducible refine W_lc ?_
    | with_reducible refine W_lcA ?_
    | with_reducible refine W_loop ?_
    | with_reducible refine W_unp ?_
    | with_reducible refine W_sl ?_
    | with_reducible refine W_cat ?_
    | with_reducible refine W_six ?_
    | with_reducible refine W_lc2 ?_
    | with_reducible refine W_dc ?_
    | with_reducible refine W_dc2 ?_
    | with_reducible refine W_dct ?_
    | with_reducible refine W_rev ?_
    | with_reducible refine W_neg ?_
    | with_reducible refine W_cmp2 ?_
    | with_reducible refine W_lsa ?_
    | with_reducible refine W_noN ?_
    | with_reducible refine W_lkN ?_
    | with_reducible refine W_pass ?_
    | with_reducible refine W_brk ?_
    | with_reducible refine W_cnt ?_
    | with_reducible refine W_raise ?_
    | with_reducible refine W_tst0 ?_
    | with_reducible refine W_tst1 ?_
    | with_reducible refine W_inner ?_
    | with_reducible refine seq_nx ?_
    | with_reducible refine W_bnd ?_
    | with_reducible refine W_pure ?_
    | ((with_reducible refine W_var (d := ?dv) ?hx ?_); (case hx => exact rfl))
    | ((with_reducible refine W_gst (d := ?dv) ?hx ?_); (case hx => exact rfl))
    | ((with_reducible refine W_aug (x := ?dv) ?hx ?_); (case hx => exact rfl))
    | with_reducible refine seq_rt ?_
    | with_reducible refine seq_bk ?_
    | with_reducible refine trim_rt ?_
    | with_reducible refine trim_bk ?_
    | with_reducible refine end_rt ?_
    | with_reducible refine end_nx ?_
    | with_reducible refine W_each0 ?_
    | ((with_reducible refine trim_le ?hh ?_); (case hh => exact rfl))
    | refine ifT ?_
    | refine ifF ?_
    | refine anT ?_
    | refine anF ?_
    | ((with_reducible refine ⟨?hh, ?_⟩); (case hh => exact rfl))
    | ((with_reducible refine ⟨?w, ?hh, ?_⟩); (case hh => exact rfl))
    | ((with_reducible refine ⟨?w, ?v, ?hh, ?_⟩); (case hh => exact rfl)))
theorem max_len {ns : List Int} : ∃ m : Nat, m < 100 ∧ (if (if (4 : Int) < (ns.length : Int) then (4 : Int) else (ns.length : Int)) > (2 : Int) then (if (4 : Int) < (ns.length : Int) then (4 : Int) else (ns.length : Int)) else (2 : Int)) = (m : Int) := by
  refine ⟨(if (if (4 : Int) < (ns.length : Int) then (4 : Int) else (ns.length : Int)) > (2 : Int) then (if (4 : Int) < (ns.length : Int) then (4 : Int) else (ns.length : Int)) else (2 : Int)).toNat, ?_, ?_⟩
  all_goals (split <;> split <;> omega)
theorem pile_w {ns : List Int} {k : Nat} (hk : k < 100) : W (callD (Cn 99) true "_law_pile" [.scr ns, iD k]) [] fun d s => d = .loc 0 ∧ Pl 10000 s [] := by
  obtain ⟨a, b, p⟩ := pile_c (n := 98) (ns := ns) (show k < 1000 by omega)
  exact W_eq (callD_k (C := Cn 99) p rfl rfl) ⟨rfl, a, b, _, rfl, by omega, by omega⟩
theorem letters_w {N : Nat} {st R : Store} (h : Pl (N + 1) st R) : W (callD (Cn 99) false "_law_letters" [.loc 0]) st fun d s => (∃ ls, LsOk ls ∧ d = letters ls) ∧ Pl N s R := by
  refine pl_call (k := 1) (ws := []) rfl (fun st p => ?_) h
  obtain ⟨a, b, c, rfl, h1, h2⟩ := p
  obtain ⟨ls, a1, c1, hls, q1, q2, q3⟩ := letters_c (n := 96) (a := a) (b := b) (c := c) (by omega) (by omega)
  exact W_eq q3 ⟨⟨ls, hls, rfl⟩, by rcases hls with rfl | rfl | rfl <;> rfl, [], a1, b, c1, rfl, by omega, by omega⟩
theorem schema_w {N mo : Nat} (hmo : Sm mo) {ls : List Str} (hls : LsOk ls) {st R : Store} (h : Pl (N + 1000) st R) : W (callD (Cn 99) false "_law_schema" [.loc 0, letters ls, iD mo]) st fun d s => (∃ ts ks, SchOk ts ks ∧ d = sch ts ks) ∧ Pl N s R := by
  obtain ⟨a, b, c, rfl, h1, h2⟩ := h
  obtain ⟨ts, ks, a2, c2, hs, r1, r2, r3⟩ := schema_d (n := 95) hmo hls (a := a) (b := b) (c := c) (R := R) (by omega) (by omega)
  exact W_eq r3 ⟨⟨ts, ks, hs, rfl⟩, a2, b, c2, rfl, by omega, by omega⟩
theorem law_all (ns : List Int) : ∃ st, callN (fnsOf Hd.ts) (globsOf Hd.cs) 100 t_law.d.name [.scr ns] [] = some (.ok (.bl true) st) := by
  have key : W ((Cn 100).call "law" [.scr ns]) [] fun d s => d = .bl true := by
    refine W_cs (n := 99) (F := v_law) (by kernel_rfl) ?_
    refine W_run (E := [some (.scr ns), none, none, none, none, none, none, none]) rfl rfl ?_
    show W (evSs _ (.cons _ _) _) _ _
    repeat infer_instance
    obtain ⟨m, hm, e1⟩ := max_len (ns := ns)
    refine ⟨m, congrArg (fun d => [D.int d]) e1, hm, ?_⟩
    refine W_loopM (fun L env st => ∃ (is : List Nat) (x1 x3 x4 x5 x6 x7 : Option D), L = is.map iD ∧ (∀ i ∈ is, i < 100) ∧ Pu x3 ∧ Pu x4 ∧ Pu x5 ∧ Pu x6 ∧ Pu x7 ∧ env = [some (.scr ns), x1, none, x3, x4, x5, x6, x7] ∧ st = []) _ ⟨List.range m, none, none, none, none, none, none, rfl, fun i hi => by have := List.mem_range.mp hi; omega, Pu.none, Pu.none, Pu.none, Pu.none, Pu.none, rfl, rfl⟩ ?_ ?_
    · rintro x r env st ⟨is, x1, x3, x4, x5, x6, x7, e, hi, p3, p4, p5, p6, p7, rfl, rfl⟩
      cases is with
      | nil => exact nomatch e
      | cons i is =>
        obtain ⟨rfl, rfl⟩ := List.cons.inj e
        refine W_loopF (env1 := [some (.scr ns), some (iD i), none, x3, x4, x5, x6, x7]) rfl ?_
        repeat infer_instance
        refine (pile_w (hi i List.mem_cons_self)).mono fun d s ⟨ed, q⟩ => ?_
        subst ed
        repeat infer_instance
        refine (letters_w (N := 5000) (q.less (by omega))).mono fun d s ⟨⟨ls, hls, ed⟩, q⟩ => ?_
        subst ed
        repeat infer_instance
        refine (schema_w (N := 4000) (mo := 3) (.inr (.inr (.inl rfl))) hls (q.less (by omega))).mono fun d s ⟨⟨ts, ks, h1, ed⟩, q⟩ => ?_
        subst ed
        repeat infer_instance
        refine (wayed_w (n := 95) (N := 3000) (mo := 3) (.inr (.inr (.inl rfl))) hls (q.less (by omega))).mono fun d s ⟨⟨us, ls', h2, ed⟩, q⟩ => ?_
        subst ed
        obtain ⟨a, b, c, rfl, c1, c2⟩ := q
        repeat infer_instance
        refine W_eq (callD_p bss_c rfl (pures_of (all_pu pure_bss))) ?_
        repeat infer_instance
        have pl : (letters ls).pure = true := by rcases hls with rfl | rfl | rfl <;> rfl
        refine W_loopM (fun L env st => (∀ x ∈ L, x ∈ bss) ∧ ∃ x4 x7, Pu x4 ∧ Pu x7 ∧ env = [some (.scr ns), some (iD i), some (.loc 0), some (letters ls), x4, some (sch ts ks), some (sch us ls'), x7] ∧ st = pst a b c) _ ⟨fun x h => h, x4, x7, p4, p7, rfl, rfl⟩ ?_ ?_
        · rintro x r env st ⟨hx, x4, x7, p4, p7, rfl, rfl⟩
          have hb := hx x List.mem_cons_self
          refine W_loopF (env1 := [some (.scr ns), some (iD i), some (.loc 0), some (letters ls), some x, some (sch ts ks), some (sch us ls'), x7]) rfl ?_
          repeat infer_instance
          refine W_eq (w_bad1 (.inl rfl) hb sch_pure (pd_s h2) _) ?_
          repeat infer_instance
          refine W_eq (w_bad2 (.inl rfl) h1 hb _) ?_
          repeat infer_instance
          refine W_eq (w_bad1 (.inl rfl) hb rfl pd_n _) ?_
          repeat infer_instance
          refine W_eq (w_bad1 (.inr rfl) hb sch_pure (pd_s h2) _) ?_
          repeat infer_instance
          refine W_eq (w_bad2 (.inr rfl) h1 hb _) ?_
          repeat infer_instance
          refine W_eq (w_bad1 (.inr rfl) hb rfl pd_n _) ?_
          repeat infer_instance
          refine ⟨false, by kernel_rfl, ?_⟩
          repeat infer_instance
          exact ⟨fun z hz => hx z (List.mem_cons_of_mem _ hz), _, _, Pu.some (all_pu pure_bss x hb), Pu.some rfl, rfl, rfl⟩
        · rintro env st ⟨_, x4, x7, p4, p7, rfl, rfl⟩
          repeat infer_instance
          refine W_eq (w_good (.inl rfl) h1 h2 _) ?_
          repeat infer_instance
          refine W_eq (w_good (.inr rfl) h1 h2 _) ?_
          repeat infer_instance
          refine W_eq (w_good (.inr rfl) h2 h2 _) ?_
          repeat infer_instance
          refine ⟨false, by kernel_rfl, ?_⟩
          repeat infer_instance
          have q1 : Pu (some (letters ls)) := Pu.some pl
          have q2 : Pu (some (sch ts ks)) := Pu.some sch_pure
          have q3 : Pu (some (sch us ls')) := Pu.some sch_pure
          refine trim_gt rfl rfl (keep_all ?_) ?_
          · show (true && (kp1 0 (x1, some (iD i)) && (true && (kp1 0 (_, some (letters ls)) && (kp1 0 (_, x4) && (kp1 0 (x5, some (sch ts ks)) && (kp1 0 (x6, some (sch us ls')) && (kp1 0 (_, x7) && true)))))))) = true
            rw [kp1_pu q1, kp1_pu q2, kp1_pu q3, kp1_pu p4, kp1_pu p7, kp1_pu (Pu.some rfl)]; rfl
          · refine ⟨is, some (iD i), some (letters ls), x4, some (sch ts ks), some (sch us ls'), x7, rfl, fun j hj => hi j (List.mem_cons_of_mem _ hj), q1, p4, q2, q3, p7, ?_, rfl⟩
            show [some (D.scr ns), some (iD i), none, tr1 0 (some (letters ls)), tr1 0 x4, tr1 0 (some (sch ts ks)), tr1 0 (some (sch us ls')), tr1 0 x7] = _
            rw [tr1_pu q1, tr1_pu q2, tr1_pu q3, tr1_pu p4, tr1_pu p7]
    · rintro env st ⟨is, x1, x3, x4, x5, x6, x7, e, hi, p3, p4, p5, p6, p7, rfl, rfl⟩
      repeat infer_instance
      rfl
  obtain ⟨d, s, e, rfl⟩ := key
  exact ⟨s, e⟩
end Hd

end
theorem Hd.law_true : ∀ ns : List Int, ns.length ≤ 63 → ∃ st, Wk.callN (Wk.fnsOf Hd.ts) (Wk.globsOf Hd.cs) 100 Hd.t_law.d.name [.scr ns] [] = some (.ok (.bl true) st) := fun ns _ => Hd.law_all ns
set_option maxHeartbeats 0
open PySem PySem.W PySem.Calls PyProof.Rows
theorem PySem.Challenge.cw_waykinds_k32_refused_joining_holds : PySem.Challenge.rw_waykinds_k32_refused_joining.Holds := by
  w_on; o_law
  refine HandSHeadRun.head_any (r := Hd.R) (q := view Hd.R.prog [38]) (H := Hd.hk) (ob := Hd.ob) (M := 6900) (loose := Hd.nm) (d := HandSHeadRun.topDef Hd.R.prog 38) (kwd := []) Hd.ob_eq
    (by kernel_rfl) (fun s => by kernel_rfl) Hd.run (by kernel_rfl) (by kernel_rfl) (by kernel_rfl) (by rfl) (by first | assumption | decide +kernel) (by decide +kernel) ⟨rfl, rfl, rfl, rfl, rfl, by decide +kernel⟩ ?hw ?hc
  case hw => w_witness2
  case hc => exact Wk.walk_ofG (k := 100) (n := 63) (ts := Hd.ts) (cs := Hd.cs) (bl := Hd.bl) (ex := Hd.ex) (ix := Hd.ix) (t := Hd.t_law) (x := "_law_script") rfl (by decide) rfl ⟨rfl, by decide, by decide⟩ (fun w h y => y) (by kernel_rfl) Hd.ok (by simp [Hd.ts]) rfl rfl (by kernel_rfl) Hd.law_true
