import PyProof.Rows.All
import HandS.ForMost
import HandS.Exc
import HandS.ExcOwn
import HandS.WordsExc
import HandS.Defaults
import HandS.Wide
import HandS.Iter
import HandS.WideBits
import HandS.TupAny
import HandS.TupMul
import HandS.Style
import HandS.Text
import HandS.More
import HandS.IsInst
import HandS.Deep
import HandS.Zip
import HandS.Walk
import PyProof.Draws
import HandS.Star
import HandS.HeadHook1
import PyProof.ExcBaseAll.ValueError
import HandS.Head0
import HandS.Head1
import HandS.Head2
import HandS.HeadEnd
import HandS.HeadHook2
import PyProof.P3Eq
import PySem.Challenge.RW_waykinds_k02_places_of_documents
set_option Elab.async false
set_option linter.all false
set_option maxRecDepth 100000
set_option maxRecDepth 100000
/-! Wk1: pure data, a small store, own syntax without positions, and what it yields. -/
namespace Wk
open PySem

/-- data as trees. lst, dic: never changed any more; loc: a thing of the store; scr: the script; exc: an exception of the text's own class -/
inductive D where
  | non | bl (b : Bool) | int (i : Int) | str (x : Str)
  | tup (xs : List D) | lst (xs : List D) | dic (ks vs : List D)
  | loc (n : Nat) | scr (ns : List Int) | exc (c : Str) (vs : List D)
deriving Inhabited

/-- what may change: a list (lock: it is walked), a dict -/
inductive Ob where
  | lst (lock : Bool) (xs : List D)
  | dic (lock : Bool) (deep : Bool) (ks vs : List D)
deriving Inhabited
abbrev Store := List Ob
abbrev Env := List (Option D)

mutual
def D.pure : D → Bool
  | .non | .bl _ | .int _ | .str _ | .scr _ => true
  | .tup xs => D.pures xs
  | .lst xs => D.pures xs
  | .dic ks vs => D.pures ks && D.pures vs
  | .loc _ => false
  | .exc _ vs => D.pures vs
def D.pures : List D → Bool
  | [] => true
  | x :: xs => D.pure x && D.pures xs
end
mutual
/-- the things of the store within, by what they hold -/
def D.sub (ρ : Nat → Option D) : D → Option D
  | .tup xs => (D.subs ρ xs).map .tup
  | .lst xs => (D.subs ρ xs).map .lst
  | .dic ks vs => (D.subs ρ ks).bind fun a => (D.subs ρ vs).map fun b => .dic a b
  | .loc n => ρ n
  | .exc c vs => (D.subs ρ vs).map (.exc c)
  | .non => some .non
  | .bl b => some (.bl b)
  | .int i => some (.int i)
  | .str x => some (.str x)
  | .scr ns => some (.scr ns)
def D.subs (ρ : Nat → Option D) : List D → Option (List D)
  | [] => some []
  | x :: xs => (D.sub ρ x).bind fun y => (D.subs ρ xs).map fun ys => y :: ys
end
def Ob.holds (f : List D → Option (List D)) : Ob → Option D
  | .lst false xs => (f xs).map .lst
  | .dic false _ ks vs => (f ks).bind fun a => (f vs).map fun b => .dic a b
  | _ => none
/-- what the n-th thing of the store holds, f deep; things below k stand -/
def deepAt (st : Store) (k : Nat) : Nat → Nat → Option D
  | 0, _ => none
  | f + 1, n => if n < k then none else match st[n]? with
    | some o => o.holds (D.subs (deepAt st k f))
    | none => none
def Ob.frz (st : Store) (k : Nat) : Ob → Option Ob
  | .lst l xs => (D.subs (deepAt st k st.length) xs).map (.lst l)
  | .dic l d ks vs => (D.subs (deepAt st k st.length) ks).bind fun a => (D.subs (deepAt st k st.length) vs).map fun b => .dic l d a b
def Ob.pure : Ob → Bool
  | .lst _ xs => D.pures xs
  | .dic _ _ ks vs => D.pures ks && D.pures vs

/-! ### yields -/
inductive Out (α : Type) where
  | ok (a : α) (st : Store)
  | ex (e : D) (st : Store)
def M (α : Type) := Store → Option (Out α)
@[reducible] def M.ret {α : Type} (a : α) : M α := fun st => some (.ok a st)
@[reducible] def M.bind {α β : Type} (m : M α) (f : α → M β) : M β := fun st => match m st with
  | none => none
  | some (.ok a st') => f a st'
  | some (.ex e st') => some (.ex e st')
def M.no {α : Type} : M α := fun _ => none
def M.of {α : Type} (o : Option α) : M α := fun st => match o with
  | some a => some (.ok a st)
  | none => none
/-- of what the store holds -/
def M.rd {α : Type} (f : Store → Option α) : M α := fun st => match f st with
  | some a => some (.ok a st)
  | none => none
def M.wr {α : Type} (f : Store → Option (α × Store)) : M α := fun st => match f st with
  | some (a, st') => some (.ok a st')
  | none => none
@[reducible] instance : Monad M where
  pure := M.ret
  bind := M.bind

/-! ### values -/
/-- a list's items -/
def lsOf (st : Store) : D → Option (List D)
  | .lst xs => some xs
  | .loc n => match st[n]? with
    | some (.lst _ xs) => some xs
    | _ => none
  | _ => none
/-- .. that is not walked -/
def luOf (st : Store) : D → Option (List D)
  | .lst xs => some xs
  | .loc n => match st[n]? with
    | some (.lst false xs) => some xs
    | _ => none
  | _ => none
/-- a list's, a tuple's -/
def sqOf (st : Store) : D → Option (List D)
  | .tup xs => some xs
  | d => lsOf st d
mutual
def D.toP : D → Option PyData
  | .non => some .none
  | .bl b => some (.bool b)
  | .int i => some (.int i)
  | .str x => some (.str x)
  | .tup xs => (D.toPs xs).map .tuple
  | .lst xs => (D.toPs xs).map .list
  | .dic _ _ | .loc _ | .scr _ | .exc _ _ => none
def D.toPs : List D → Option (List PyData)
  | [] => some []
  | x :: xs => (D.toP x).bind fun y => (D.toPs xs).map fun ys => y :: ys
end
def rsv (st : Store) (d : D) : D := match d with
  | .loc n => match st[n]? with
    | some (.lst _ xs) => .lst xs
    | _ => .loc n
  | d => d
def most : Nat := 150
def eqD (st : Store) (x y : D) : Option Bool :=
  match D.toP (rsv st x), D.toP (rsv st y) with
  | some p, some q => if p.canLay0 && q.canLay0 && Nat.ble (min p.depth q.depth) most then some (PyData.eqv p q) else none
  | _, _ => none
def isRef : PyData → Bool
  | .tuple _ | .list _ => true
  | _ => false
def showD (st : Store) (x : D) : Option Str :=
  match D.toP (rsv st x) with
  | some p => if !isRef p then none else if p.showable && Nat.ble p.depth most && Nat.ble p.shown.length sizeLine then some p.shown else none
  | none => none
def fit (n : Nat) : Bool := Nat.ble n sizeLine
def binD (o : Operator) (x y : D) (st : Store) : Option D :=
  match o, x, y with
  | .Add, .int i, .int j => some (.int (i + j))
  | .Sub, .int i, .int j => some (.int (i - j))
  | .Mult, .int i, .int j => if Nat.blt (i.natAbs.log2 + j.natAbs.log2) 1000000 then some (.int (i * j)) else none
  | .FloorDiv, .int i, .int j => if decide (0 < j) && Nat.blt j.natAbs.log2 9000 then some (.int (i / j)) else none
  | .Mod, .int i, .int j => if decide (0 < j) then some (.int (i % j)) else none
  | .Pow, .int i, .int j => if decide (0 ≤ j) && decide (j ≤ 1000000) && Nat.blt i.natAbs (2 ^ 64) then some (.int (i ^ j.toNat)) else none
  | .Add, .str a, .str b => if fit (a.length + b.length) then some (.str (a ++ b)) else none
  | .Add, .tup xs, .tup ys => if fit (xs.length + ys.length) then some (.tup (xs ++ ys)) else none
  | .Mult, .tup xs, .int k => if !xs.isEmpty && decide (2 ≤ k) && decide (k ≤ 1000) && Nat.ble xs.length 1000 then some (.tup (List.replicate k.toNat xs).flatten) else none
  | .Add, x, y => match luOf st x, luOf st y with
    | some xs, some ys => if fit (xs.length + ys.length) then some (.lst (xs ++ ys)) else none
    | _, _ => none
  | .Mult, x, .int k => match luOf st x with
    | some xs => if decide (0 ≤ k) && decide (k < 1000) && fit (xs.length * k.toNat) then some (.lst (List.replicate k.toNat xs).flatten) else none
    | none => none
  | _, _, _ => none
/-- ints within a tuple -/
def intsOf : List D → Option (List Int)
  | [] => some []
  | .int i :: r => (intsOf r).map (i :: ·)
  | _ :: _ => none
def ltD (x y : D) : Option Bool :=
  match x, y with
  | .int i, .int j => some (decide (i < j))
  | .str a, .str b => some (decide (a.cps.toList < b.cps.toList))
  | .tup xs, .tup ys => match intsOf xs, intsOf ys with
    | some a, some b => some (HT.lexLt a b)
    | _, _ => none
  | _, _ => none
def inD (st : Store) (x y : D) : Option Bool :=
  match x, y with
  | .str a, .str b => if a.length == 1 then some (b.cps.toList.contains (a.cps.getD 0 0)) else none
  | x, y => match x.toP, (lsOf st y).bind D.toPs with
    | some p, some qs => if SeqAt.shaped p && SeqAt.shaped (.list qs) then some (qs.any fun z => PyData.eqv z p) else none
    | _, _ => none
def cmpD (o : CmpOp) (x y : D) (st : Store) : Option Bool :=
  match o with
  | .Eq => eqD st x y
  | .NotEq => (eqD st x y).map (!·)
  | .Lt => ltD x y
  | .Gt => match x, y with
    | .int i, .int j => some (decide (j < i))
    | _, _ => none
  | .LtE => match x, y with
    | .int i, .int j => some (decide (i ≤ j))
    | _, _ => none
  | .GtE => match x, y with
    | .int i, .int j => some (decide (j ≤ i))
    | _, _ => none
  | .Is => match x, y with
    | .bl a, .bl b => some (a == b)
    | .non, .non => some true
    | .bl _, .non | .int _, .non | .str _, .non | .tup _, .non | .lst _, .non | .loc _, .non | .exc _ _, .non => some false
    | _, _ => none
  | .IsNot => match x, y with
    | .bl a, .bl b => some (!(a == b))
    | .non, .non => some false
    | .bl _, .non | .int _, .non | .str _, .non | .tup _, .non | .lst _, .non | .loc _, .non | .exc _ _, .non => some true
    | _, _ => none
  | .In => inD st x y
  | .NotIn => (inD st x y).map (!·)
def ixD (st : Store) (x i : D) : Option D :=
  match x, i with
  | .scr ns, .int k => (L2.atI ns k).map .int
  | x, .int k => (sqOf st x).bind fun xs => L2.atI xs k
  | _, _ => none
def cutD (xs : List D) (lo hi : Option Int) : List D := (xs.drop (HT.sIx xs.length 0 lo)).take (HT.sIx xs.length xs.length hi - HT.sIx xs.length 0 lo)
def sliceD (st : Store) (x : D) (l h : Option Int) : Option D :=
  match x with
    | .tup xs => some (.tup (cutD xs l h))
    | .scr ns => some (.lst ((cutD (ns.map .int) l h)))
    | x => (lsOf st x).map fun xs => .lst (cutD xs l h)
def blsOf : List D → Option (List Bool)
  | [] => some []
  | .bl b :: r => (blsOf r).map (b :: ·)
  | _ :: _ => none
/-- a built-in by its name -/
def bltD (f : Str) (vs : List D) (st : Store) : Option D :=
  if f == "len" then match vs with
    | [.str x] => if fit x.length then some (.int x.length) else none
    | [.scr ns] => some (.int ns.length)
    | [x] => (sqOf st x).map fun xs => .int xs.length
    | _ => none
  else if f == "all" then match vs with
    | [x] => ((lsOf st x).bind blsOf).map fun bs => .bl (bs.all id)
    | _ => none
  else if f == "any" then match vs with
    | [x] => ((lsOf st x).bind blsOf).map fun bs => .bl (bs.any id)
    | _ => none
  else if f == "tuple" then match vs with
    | [x] => (sqOf st x).map .tup
    | _ => none
  else if f == "list" then match vs with
    | [x] => (sqOf st x).map .lst
    | _ => none
  else if f == "sum" then match vs with
    | [x] => ((lsOf st x).bind intsOf).map fun ns => .int ns.sum
    | _ => none
  else if f == "max" then match vs with
    | [.int i, .int j] => some (.int (if j > i then j else i))
    | _ => none
  else if f == "min" then match vs with
    | [.int i, .int j] => some (.int (if j < i then j else i))
    | _ => none
  else if f == "int" then match vs with
    | [.int i] => some (.int i)
    | _ => none
  else if f == "repr" then match vs with
    | [x] => (showD st x).map .str
    | _ => none
  else none
/-- what isinstance looks at -/
def tyOf (st : Store) : D → Option String
  | .non => some "NoneType"
  | .bl _ => some "bool"
  | .int _ => some "int"
  | .str _ => some "str"
  | .tup _ => some "tuple"
  | .lst _ => some "list"
  | .loc n => match st[n]? with
    | some (.lst _ _) => some "list"
    | _ => none
  | _ => none
def isTy (a b : String) : Bool := a == b || (a == "bool" && b == "int")
end Wk

set_option maxRecDepth 100000
/-! Wk2: the syntax and what it yields. -/
namespace Wk
open PySem

/-- what a loop walks -/
inductive IK where
  | val | range1 | range2 | enum | zip
deriving DecidableEq
mutual
inductive Tg where
  | nm (i : Nat)
  | tp (ts : Tgs)
inductive Tgs where
  | nil
  | cons (t : Tg) (r : Tgs)
end
mutual
inductive Ex where
  | cst (c : D)
  | var (i : Nat)
  | gst (x : Str)
  | bin (o : Operator) (a b : Ex)
  | neg (a : Ex)
  | cmp (o : CmpOp) (a b : Ex)
  | cmp2 (o o' : CmpOp) (a b c : Ex)
  | and (a b : Ex)
  | or (a b : Ex)
  | not (a : Ex)
  | ife (c a b : Ex)
  | tup (xs : Exs)
  | lst (al : Bool) (xs : Exs)
  | ix (a b : Ex)
  | sl (a lo hi : Ex)
  | call (kp : Bool) (f : Str) (xs : Exs)
  | blt (f : Str) (xs : Exs)
  | lsa (xs : Exs)
  | isi (a : Ex) (t : String)
  | met (m : Str) (a : Ex) (xs : Exs)
  | lc (al : Bool) (e : Ex) (tg : Tg) (k : IK) (xs : Exs) (hi : Bool) (c : Ex) (own : List (Str × Nat))
inductive Exs where
  | nil
  | cons (star : Bool) (e : Ex) (r : Exs)
end
mutual
inductive Sx where
  | set (i : Nat) (e : Ex)
  | unp (tg : Tg) (e : Ex)
  | aug (o : Operator) (i : Nat) (e : Ex)
  | six (a b e : Ex)
  | ex (e : Ex)
  | ret (e : Ex)
  | retN
  | iff (c : Ex) (a b : Sxs)
  | loop (tg : Tg) (k : IK) (xs : Exs) (body : Sxs)
  | raise (c m : Str)
  | brk
  | cnt
  | pass
inductive Sxs where
  | nil
  | cons (s : Sx) (r : Sxs)
end

mutual
def tgSet : Tg → D → Env → Option Env
  | .nm i, d, env => if i < env.length then some (env.set i (some d)) else none
  | .tp ts, .tup xs, env => tgsSet ts xs env
  | .tp _, _, _ => none
def tgsSet : Tgs → List D → Env → Option Env
  | .nil, [], env => some env
  | .cons t r, x :: xs, env => (tgSet t x env).bind fun e => tgsSet r xs e
  | _, _, _ => none
end
def wipeE (env : Env) : List Nat → Env
  | [] => env
  | v :: vs => (wipeE env vs).set v none

/-- a loop's items, and the list of the store that it walks -/
def itVal (vs : List D) (st : Store) : Option (List D × Option Nat) := match vs with
  | [.tup xs] => some (xs, none)
  | [.lst xs] => some (xs, none)
  | [.str x] => some (x.cps.toList.map fun c => .str ⟨#[c]⟩, none)
  | [.loc n] => match st[n]? with
    | some (.lst _ xs) => some (xs, some n)
    | _ => none
  | _ => none
def itR1 (vs : List D) : Option (List D × Option Nat) := match vs with
  | [.int j] => if decide (-(2 ^ 62) ≤ j) && decide (j < 2 ^ 62) then some ((List.range j.toNat).map fun (i : Nat) => .int (i : Int), none) else none
  | _ => none
def itR2 (vs : List D) : Option (List D × Option Nat) := match vs with
  | [.int i, .int j] => if decide (-(2 ^ 62) ≤ i) && decide (i < 2 ^ 62) && decide (-(2 ^ 62) ≤ j) && decide (j < 2 ^ 62) then
      some ((List.range (j - i).toNat).map fun (t : Nat) => .int (i + (t : Int)), none) else none
  | _ => none
def itEn (vs : List D) : Option (List D × Option Nat) := match vs with
  | [.tup xs] => some (xs.zipIdx.map fun p => .tup [.int p.2, p.1], none)
  | [.lst xs] => some (xs.zipIdx.map fun p => .tup [.int p.2, p.1], none)
  | _ => none
def itZip (vs : List D) : Option (List D × Option Nat) := match vs with
  | [.tup xs, .tup ys] => some ((xs.zip ys).map fun p => .tup [p.1, p.2], none)
  | [.lst xs, .lst ys] => some ((xs.zip ys).map fun p => .tup [p.1, p.2], none)
  | _ => none
def itD (k : IK) (vs : List D) (st : Store) : Option (List D × Option Nat) :=
  match k with
  | .val => itVal vs st
  | .range1 => itR1 vs
  | .range2 => itR2 vs
  | .enum => itEn vs
  | .zip => itZip vs
def Ob.setLock (b : Bool) : Ob → Ob
  | .lst _ xs => .lst b xs
  | .dic _ d ks vs => .dic b d ks vs
def Ob.locked : Ob → Bool
  | .lst b _ => b
  | .dic b _ _ _ => b
/-- m runs while n is walked -/
def unlk (n : Nat) (st : Store) : Option Store := match st[n]? with
  | some o => if o.locked then some (st.set n (o.setLock false)) else none
  | none => none
def withLock {α : Type} (n : Option Nat) (m : M α) : M α := fun st => match n with
  | none => m st
  | some n => match st[n]? with
    | none => none
    | some o => if o.locked then m st else match m (st.set n (o.setLock true)) with
      | none => none
      | some (.ok a st') => (unlk n st').map fun s => .ok a s
      | some (.ex e st') => (unlk n st').map fun s => .ex e s
/-- no exception comes out -/
def calm {α : Type} (m : M α) : M α := fun st => match m st with
  | some (.ok a st') => some (.ok a st')
  | _ => none
def eachM (f : D → M (Option D)) : List D → M (List D)
  | [] => pure []
  | x :: xs => f x >>= fun y => eachM f xs >>= fun ys => pure (match y with
    | some y => y :: ys
    | none => ys)
def allocO (o : Ob) : M D := fun st => some (.ok (.loc st.length) (st ++ [o]))
def mkL (al : Bool) (xs : List D) : M D := if fit xs.length then (if al then allocO (.lst false xs) else pure (.lst xs)) else .no
def asB : D → M Bool
  | .bl b => pure b
  | _ => .no

/-- a built-in's method -/
def metD (m : Str) (x : D) (vs : List D) (st : Store) : Option (D × Store) :=
  if m == "append" then match x, vs with
    | .loc n, [y] => match st[n]? with
      | some (.lst false xs) => if Nat.blt xs.length sizeLine then some (.non, st.set n (.lst false (xs ++ [y]))) else none
      | _ => none
    | _, _ => none
  else if m == "insert" then match x, vs with
    | .loc n, [.int i, y] => match st[n]? with
      | some (.lst false xs) => if Nat.blt xs.length sizeLine && decide (0 ≤ i) && decide (i ≤ xs.length) then
          some (.non, st.set n (.lst false (xs.take i.toNat ++ y :: xs.drop i.toNat))) else none
      | _ => none
    | _, _ => none
  else if m == "bit_length" then match x, vs with
    | .int i, [] => some (.int (Builtin.Int.intBits i : Nat), st)
    | _, _ => none
  else none

/-- what the receiver is -/
def metTy (m : Str) (x : D) (st : Store) : Option Unit := match x with
  | .loc n => match st[n]? with
    | some (.lst _ _) => if m == "append" || m == "insert" then some () else none
    | _ => none
  | .int _ => if m == "bit_length" then some () else none
  | _ => none
/-! ### calls: the callee sees what it is handed alone -/
structure Ctx where
  call : Str → List D → M D
  glob : Str → Option D
def locs : List D → List Nat
  | [] => []
  | .loc n :: r => n :: locs r
  | _ :: r => locs r
def renum : Nat → List D → List D
  | _, [] => []
  | j, .loc _ :: r => .loc j :: renum (j + 1) r
  | j, d :: r => d :: renum j r
def argOk : D → Bool
  | .loc _ => true
  | d => d.pure
def obsAt (st : Store) : List Nat → Option (List Ob)
  | [] => some []
  | n :: r => (st[n]?).bind fun o => (obsAt st r).map fun os => o :: os
def wrBack : List Nat → List Ob → Store → Store
  | n :: r, o :: os, st => wrBack r os (st.set n o)
  | _, _, st => st
def frzs (st : Store) (k : Nat) : List Ob → Option (List Ob)
  | [] => some []
  | o :: os => (o.frz st k).bind fun a => (frzs st k os).map fun as => a :: as
/-- what came back, in the caller's store; ls: the caller's places of what was handed in -/
def backD (kp : Bool) (ls : List Nat) (d : D) (st' st : Store) : Option (D × Store) :=
  (frzs st' ls.length (st'.take ls.length)).bind fun os =>
    if os.length == ls.length then
      match d with
      | .loc j => if j < ls.length then (ls[j]?).map fun n => (.loc n, wrBack ls os st)
        else if kp then (if (st'.take ls.length).all Ob.pure then (match st'[j]? with
          | some (.lst false xs) => if D.pures xs then some (.loc st.length, wrBack ls os st ++ [.lst false xs]) else none
          | _ => none) else none)
        else (deepAt st' ls.length st'.length j).map fun e => (e, wrBack ls os st)
      | d => (d.sub (deepAt st' ls.length st'.length)).map fun e => (e, wrBack ls os st)
    else none
def callD (C : Ctx) (kp : Bool) (f : Str) (vs : List D) : M D := fun st =>
  if vs.all argOk && decide (locs vs).Nodup then
    match obsAt st (locs vs) with
    | none => none
    | some obs => if obs.all Ob.pure then
        match C.call f (renum 0 vs) obs with
        | none => none
        | some (.ok d st') => match backD kp (locs vs) d st' st with
          | some (e, st1) => some (.ok e st1)
          | none => none
        | some (.ex e st') => match backD false (locs vs) e st' st with
          | some (e', st1) => some (.ex e' st1)
          | none => none
      else none
  else none

/-- a slice's end: the literal None alone stands for none -/
def endP : Ex → D → Option (Option Int)
  | .cst .non, _ => some none
  | _, .int i => some (some i)
  | _, _ => none
mutual
def evE (C : Ctx) : Ex → Env → M D
  | .cst c, _ => pure c
  | .var i, env => .of (env[i]?.join)
  | .gst x, _ => .of (C.glob x)
  | .bin o a b, env => evE C a env >>= fun x => evE C b env >>= fun y => .rd (binD o x y)
  | .neg a, env => evE C a env >>= fun x => match x with
    | .int i => pure (.int (-i))
    | _ => .no
  | .cmp o a b, env => evE C a env >>= fun x => evE C b env >>= fun y => .rd fun st => (cmpD o x y st).map .bl
  | .cmp2 o o' a b c, env => evE C a env >>= fun x => evE C b env >>= fun y => M.rd (cmpD o x y) >>= fun r =>
      if r then evE C c env >>= fun z => .rd fun st => (cmpD o' y z st).map .bl else pure (.bl false)
  | .and a b, env => evE C a env >>= fun x => asB x >>= fun r => if r then evE C b env else pure (.bl false)
  | .or a b, env => evE C a env >>= fun x => asB x >>= fun r => if r then pure (.bl true) else evE C b env
  | .not a, env => evE C a env >>= fun x => asB x >>= fun r => pure (.bl (!r))
  | .ife c a b, env => evE C c env >>= fun x => asB x >>= fun r => if r then evE C a env else evE C b env
  | .tup xs, env => evA C xs env >>= fun vs => if fit vs.length then pure (.tup vs) else .no
  | .lst al xs, env => evA C xs env >>= fun vs => mkL al vs
  | .ix a b, env => evE C a env >>= fun x => evE C b env >>= fun y => .rd fun st => ixD st x y
  | .sl a lo hi, env => evE C a env >>= fun x => evE C lo env >>= fun l => M.of (endP lo l) >>= fun l => evE C hi env >>= fun h => M.of (endP hi h) >>= fun h => .rd fun st => sliceD st x l h
  | .call kp f xs, env => evA C xs env >>= fun vs => callD C kp f vs
  | .blt f xs, env => evA C xs env >>= fun vs => .rd (bltD f vs)
  | .lsa xs, env => evA C xs env >>= fun vs => M.rd (bltD "list" vs) >>= fun d => match d with
    | .lst ys => allocO (.lst false ys)
    | _ => .no
  | .isi a t, env => evE C a env >>= fun x => .rd fun st => (tyOf st x).map fun u => .bl (isTy u t)
  | .met m a xs, env => evE C a env >>= fun x => M.rd (metTy m x) >>= fun _ => evA C xs env >>= fun vs => .wr (metD m x vs)
  | .lc al e tg k xs hi c own, env => evA C xs env >>= fun vs => M.rd (itD k vs) >>= fun p =>
      if fit p.1.length then
        calm (withLock p.2 (eachM (fun d => M.of (tgSet tg d (wipeE env (own.map (·.2)))) >>= fun env' =>
          (if hi then evE C c env' >>= asB else pure true) >>= fun r =>
            if r then evE C e env' >>= fun y => pure (some y) else pure none) p.1)) >>= fun ys => mkL al ys
      else .no
def evA (C : Ctx) : Exs → Env → M (List D)
  | .nil, _ => pure []
  | .cons s e r, env => evE C e env >>= fun x =>
      if s then M.rd (fun st => sqOf st x) >>= fun ys => evA C r env >>= fun xs => pure (ys ++ xs)
      else evA C r env >>= fun xs => pure (x :: xs)
end

/-! ### statements -/
inductive Fl where
  | nx (env : Env) | rt (d : D) | bk (env : Env) | ct (env : Env) | er (env : Env) (e : D)
mutual
/-- no thing of the store from n on within -/
def D.under (n : Nat) : D → Bool
  | .tup xs => D.unders n xs
  | .lst xs => D.unders n xs
  | .dic ks vs => D.unders n ks && D.unders n vs
  | .loc m => Nat.blt m n
  | .exc _ vs => D.unders n vs
  | .non | .bl _ | .int _ | .str _ | .scr _ => true
def D.unders (n : Nat) : List D → Bool
  | [] => true
  | x :: xs => D.under n x && D.unders n xs
end
def Ob.under (n : Nat) : Ob → Bool
  | .lst _ xs => D.unders n xs
  | .dic _ _ ks vs => D.unders n ks && D.unders n vs
/-- behind a turn: what was laid within it goes -/
def trimE (n : Nat) (env : Env) : Env := env.map fun o => match o with
  | some d => if d.under n then some d else none
  | none => none
def trimM (n : Nat) (m : M Fl) : M Fl := fun st => match m st with
  | some (.ok (.nx env) st') => if Nat.ble st'.length n then some (.ok (.nx env) st')
      else if (st'.take n).all (Ob.under n) then some (.ok (.nx (trimE n env)) (st'.take n)) else none
  | some (.ok (.ct env) st') => if Nat.ble st'.length n then some (.ok (.nx env) st')
      else if (st'.take n).all (Ob.under n) then some (.ok (.nx (trimE n env)) (st'.take n)) else none
  | r => r
def loopM (f : D → Env → M Fl) : List D → Env → M Fl
  | [], env => pure (.nx env)
  | x :: xs, env => f x env >>= fun r => match r with
    | .nx env' => loopM f xs env'
    | .bk env' => pure (.nx env')
    | r => pure r
/-- an exception ends the statement, with the names as they stand -/
def M.tr {α : Type} (env : Env) (m : M α) (k : α → M Fl) : M Fl := fun st => match m st with
  | none => none
  | some (.ok a st') => k a st'
  | some (.ex e st') => some (.ok (.er env e) st')
def augD (o : Operator) (x y : D) (st : Store) : Option (D × Store) :=
  match o, x, y with
  | .Add, .int i, .int j => some (.int (i + j), st)
  | .Sub, .int i, .int j => some (.int (i - j), st)
  | .Add, .str a, .str b => if fit (a.length + b.length) then some (.str (a ++ b), st) else none
  | .Add, .loc n, y => match st[n]?, luOf st y with
    | some (.lst false xs), some ys => if fit (xs.length + ys.length) then some (.loc n, st.set n (.lst false (xs ++ ys))) else none
    | _, _ => none
  | _, _, _ => none
def setIxD (a i v : D) (st : Store) : Option (Unit × Store) :=
  match a, i with
  | .loc n, .int k => match st[n]? with
    | some (.lst false xs) => (L2.ixN xs.length k).map fun j => ((), st.set n (.lst false (xs.set j v)))
    | _ => none
  | _, _ => none
/-- no exception comes out where something is locked -/
def noEr (n : Option Nat) (m : M Fl) : M Fl := fun st => match n, m st with
  | some _, some (.ok (.er _ _) _) => none
  | some _, some (.ex _ _) => none
  | _, r => r
def putE (i : Nat) (d : D) (env : Env) : M Fl := if i < env.length then pure (.nx (env.set i (some d))) else .no
mutual
def evS (C : Ctx) : Sx → Env → M Fl
  | .set i e, env => M.tr env (evE C e env) fun d => putE i d env
  | .unp tg e, env => M.tr env (evE C e env) fun d => M.of (tgSet tg d env) >>= fun env' => pure (.nx env')
  | .aug o i e, env => M.of (env[i]?.join) >>= fun x => M.tr env (evE C e env) fun y => M.wr (augD o x y) >>= fun z => putE i z env
  | .six a b e, env => M.tr env (evE C e env) fun v => M.tr env (evE C a env) fun x => M.tr env (evE C b env) fun i => M.wr (setIxD x i v) >>= fun _ => pure (.nx env)
  | .ex e, env => M.tr env (evE C e env) fun _ => pure (.nx env)
  | .ret e, env => M.tr env (evE C e env) fun d => pure (.rt d)
  | .retN, _ => pure (.rt .non)
  | .iff c a b, env => M.tr env (evE C c env) fun x => asB x >>= fun r => if r then evSs C a env else evSs C b env
  | .loop tg k xs body, env => M.tr env (evA C xs env) fun vs => M.rd (itD k vs) >>= fun p =>
      noEr p.2 <| withLock p.2 (loopM (fun d env => fun st => trimM st.length (M.of (tgSet tg d env) >>= fun env' => evSs C body env') st) p.1 env)
  | .raise c _, env => pure (.er env (.exc c []))
  | .brk, env => pure (.bk env)
  | .cnt, env => pure (.ct env)
  | .pass, env => pure (.nx env)
def evSs (C : Ctx) : Sxs → Env → M Fl
  | .nil, env => pure (.nx env)
  | .cons s r, env => evS C s env >>= fun f => match f with
    | .nx env' => evSs C r env'
    | f => pure f
end
/-- a def: the number of its names, of its parameters, its body -/
structure Fn where
  n : Nat
  p : Nat
  body : Sxs
def runF (C : Ctx) (F : Fn) (vs : List D) : M D :=
  if vs.length == F.p && Nat.ble F.p F.n then
    evSs C F.body (vs.map some ++ List.replicate (F.n - F.p) none) >>= fun f => match f with
      | .rt d => pure d
      | .nx _ => pure .non
      | .er _ e => fun st => some (.ex e st)
      | _ => .no
  else .no
/-- calls at most n deep -/
def callN (T : Str → Option Fn) (G : Str → Option D) : Nat → Str → List D → M D
  | 0, _, _ => .no
  | n + 1, f, vs => match T f with
    | some F => runF ⟨callN T G n, G⟩ F vs
    | none => .no
end Wk

set_option maxRecDepth 100000
/-! Wk3: what the data stand for in the abstract heap. -/
namespace Wk
open PySem PySem.Spec PyProof.Rows L2

section
variable (K : PySem.W.Frag) (H : Hp) (fb ι : List Addr)
mutual
/-- v stands for d; fb: what belongs to the callers, ι: where the store's things stand -/
def Rel : D → V → Prop
  | .non, v => v = .non
  | .bl b, v => v = .bl b
  | .int i, v => v = .int i
  | .str x, v => v = .str x
  | .tup ds, v => ∃ a xs, v = .ref a ∧ H a = some (.tup xs) ∧ a ∉ ι ∧ a ∉ fb ∧ Rels ds xs
  | .lst ds, v => ∃ a xs, v = .ref a ∧ H a = some (.lst xs) ∧ a ∉ ι ∧ a ∉ fb ∧ Rels ds xs
  | .dic _ _, _ => False
  | .loc n, v => ∃ a, v = .ref a ∧ ι[n]? = some a
  | .scr ns, v => ∃ a, v = .ref a ∧ ((∃ o, H a = some (.frz o (.lst (ns.map V.int))) ∧ a ∉ ι ∧ a ∉ fb) ∨ ∀ H' : Hp, SqL K H' a (ns.map V.int))
  | .exc _ _, _ => False
def Rels : List D → List V → Prop
  | [], xs => xs = []
  | d :: ds, xs => ∃ y ys, xs = y :: ys ∧ Rel d y ∧ Rels ds ys
end
/-- what stands at a is the store's thing -/
def RelO (a : Addr) : Ob → Prop
  | .lst false ds => ∃ xs, H a = some (.lst xs) ∧ Rels K H fb ι ds xs
  | .lst true ds => ∃ od xs, H a = some (.frz od (.lst xs)) ∧ Rels K H fb ι ds xs
  | .dic _ _ _ _ => False
structure RelS (st : Store) : Prop where
  len : ι.length = st.length
  nd : ι.Nodup
  fbs : ∀ a ∈ fb, H a ≠ none
  dj : ∀ a ∈ ι, a ∉ fb
  at_ : ∀ (n : Nat) (o : Ob) (a : Addr), st[n]? = some o → ι[n]? = some a → RelO K H fb ι a o
def RelE (env : Env) (σ : L2.St) : Prop := env.length = σ.length ∧ ∀ (i : Nat) (d : D), env[i]? = some (some d) → ∃ v, σ[i]? = some (some v) ∧ Rel K H fb ι d v
end
/-- what a step leaves of the abstract heap -/
structure Grow0 (ι : List Addr) (H : Hp) (ι' : List Addr) (H' : Hp) : Prop where
  pre : ∃ new, ι' = ι ++ new ∧ ∀ a ∈ new, H a = none
  keep : ∀ a o, H a = some o → a ∉ ι → H' a = some o
structure Grow (ι : List Addr) (H : Hp) (ι' : List Addr) (H' : Hp) : Prop extends Grow0 ι H ι' H' where
  live : ∀ a o, H a = some o → ∃ o', H' a = some o'
  frz : ∀ a o u, H a = some (.frz o u) → H' a = some (.frz o u)

section
variable {K : PySem.W.Frag} {H H' H2 : Hp} {fb ι ι' ι2 : List Addr} {st : Store}
theorem Grow.refl : Grow ι H ι H := ⟨⟨⟨[], by simp, by simp⟩, fun _ _ h _ => h⟩, fun _ o h => ⟨o, h⟩, fun _ _ _ h => h⟩
theorem Grow0.notin (g : Grow0 ι H ι' H') {a : Addr} {o : HO} (h : H a = some o) (n : a ∉ ι) : a ∉ ι' := by
  obtain ⟨new, e, f⟩ := g.pre
  rw [e]
  intro hm
  rcases List.mem_append.mp hm with z | z
  · exact n z
  · rw [f a z] at h; cases h
theorem Grow.none (g : Grow ι H ι' H') {a : Addr} (h : H' a = none) : H a = none := by
  cases q : H a with
  | none => rfl
  | some o => obtain ⟨o', z⟩ := g.live a o q; rw [h] at z; cases z
theorem Grow.trans (g : Grow ι H ι' H') (g2 : Grow ι' H' ι2 H2) : Grow ι H ι2 H2 := by
  obtain ⟨new, e, f⟩ := g.pre
  obtain ⟨new2, e2, f2⟩ := g2.pre
  refine ⟨⟨⟨new ++ new2, by rw [e2, e, List.append_assoc], fun a ha => ?_⟩, fun a o h n => ?_⟩, fun a o h => ?_, fun a o u h => g2.frz a o u (g.frz a o u h)⟩
  · rcases List.mem_append.mp ha with z | z
    · exact f a z
    · exact g.none (f2 a z)
  · exact g2.keep a o (g.keep a o h n) (g.notin h n)
  · obtain ⟨o', z⟩ := g.live a o h
    exact g2.live a o' z
theorem Grow0.at_ (g : Grow0 ι H ι' H') {n : Nat} {a : Addr} (h : ι[n]? = some a) : ι'[n]? = some a := by
  obtain ⟨new, e, _⟩ := g.pre
  rw [e, List.getElem?_append_left (List.getElem?_eq_some_iff.mp h).1]
  exact h
mutual
theorem Rel.mono0 (g : Grow0 ι H ι' H') : ∀ (d : D) (v : V), Rel K H fb ι d v → Rel K H' fb ι' d v
  | .non, v, h => h
  | .bl b, v, h => h
  | .int i, v, h => h
  | .str x, v, h => h
  | .tup ds, v, h => by
    obtain ⟨a, xs, e, q, n, m, r⟩ := h
    exact ⟨a, xs, e, g.keep a _ q n, g.notin q n, m, Rels.mono0 g ds xs r⟩
  | .lst ds, v, h => by
    obtain ⟨a, xs, e, q, n, m, r⟩ := h
    exact ⟨a, xs, e, g.keep a _ q n, g.notin q n, m, Rels.mono0 g ds xs r⟩
  | .dic ks vs, v, h => h.elim
  | .loc n, v, h => by
    obtain ⟨a, e, q⟩ := h
    exact ⟨a, e, g.at_ q⟩
  | .scr ns, v, h => by
    obtain ⟨a, e, q | q⟩ := h
    · obtain ⟨o, q, n, m⟩ := q
      exact ⟨a, e, .inl ⟨o, g.keep a _ q n, g.notin q n, m⟩⟩
    · exact ⟨a, e, .inr q⟩
  | .exc c vs, v, h => h.elim
theorem Rels.mono0 (g : Grow0 ι H ι' H') : ∀ (ds : List D) (vs : List V), Rels K H fb ι ds vs → Rels K H' fb ι' ds vs
  | [], vs, h => h
  | d :: ds, vs, h => by
    obtain ⟨y, ys, e, r, rs⟩ := h
    exact ⟨y, ys, e, Rel.mono0 g d y r, Rels.mono0 g ds ys rs⟩
end
mutual
theorem Rel.tr {fb' : List Addr} (hs : ∀ a u, H a = some u → a ∉ ι → a ∉ fb → H' a = some u ∧ a ∉ ι' ∧ a ∉ fb') (hi : ∀ (n : Nat) (a : Addr), ι[n]? = some a → ι'[n]? = some a) : ∀ (d : D) (v : V), Rel K H fb ι d v → Rel K H' fb' ι' d v
  | .non, v, h => h
  | .bl b, v, h => h
  | .int i, v, h => h
  | .str x, v, h => h
  | .tup ds, v, h => by
    obtain ⟨a, xs, e, q, n, m, r⟩ := h
    obtain ⟨z1, z2, z3⟩ := hs a _ q n m
    exact ⟨a, xs, e, z1, z2, z3, Rels.tr hs hi ds xs r⟩
  | .lst ds, v, h => by
    obtain ⟨a, xs, e, q, n, m, r⟩ := h
    obtain ⟨z1, z2, z3⟩ := hs a _ q n m
    exact ⟨a, xs, e, z1, z2, z3, Rels.tr hs hi ds xs r⟩
  | .dic ks vs, v, h => h.elim
  | .loc n, v, h => by
    obtain ⟨a, e, q⟩ := h
    exact ⟨a, e, hi n a q⟩
  | .scr ns, v, h => by
    obtain ⟨a, e, q | q⟩ := h
    · obtain ⟨o, q, n, m⟩ := q
      exact ⟨a, e, .inl ⟨o, hs a _ q n m⟩⟩
    · exact ⟨a, e, .inr q⟩
  | .exc c vs, v, h => h.elim
theorem Rels.tr {fb' : List Addr} (hs : ∀ a u, H a = some u → a ∉ ι → a ∉ fb → H' a = some u ∧ a ∉ ι' ∧ a ∉ fb') (hi : ∀ (n : Nat) (a : Addr), ι[n]? = some a → ι'[n]? = some a) : ∀ (ds : List D) (vs : List V), Rels K H fb ι ds vs → Rels K H' fb' ι' ds vs
  | [], vs, h => h
  | d :: ds, vs, h => by
    obtain ⟨y, ys, e, r, rs⟩ := h
    exact ⟨y, ys, e, Rel.tr hs hi d y r, Rels.tr hs hi ds ys rs⟩
end
theorem Rel.mvfb {fb' : List Addr} (hf : ∀ a ∈ fb', a ∈ fb ∨ H a = none) {d : D} {v : V} (h : Rel K H fb ι d v) : Rel K H fb' ι d v :=
  Rel.tr (fun a u e n m => ⟨e, n, fun z => (hf a z).elim m fun w => by rw [e] at w; cases w⟩) (fun _ _ e => e) d v h
theorem Rels.mvfb {fb' : List Addr} (hf : ∀ a ∈ fb', a ∈ fb ∨ H a = none) {d : List D} {v : List V} (h : Rels K H fb ι d v) : Rels K H fb' ι d v :=
  Rels.tr (fun a u e n m => ⟨e, n, fun z => (hf a z).elim m fun w => by rw [e] at w; cases w⟩) (fun _ _ e => e) d v h
theorem RelO.tr {fb' : List Addr} (hs : ∀ a u, H a = some u → a ∉ ι → a ∉ fb → H' a = some u ∧ a ∉ ι' ∧ a ∉ fb') (hi : ∀ (n : Nat) (a : Addr), ι[n]? = some a → ι'[n]? = some a) {a : Addr} {o : Ob} (k : ∀ u, H a = some u → H' a = some u) (h : RelO K H fb ι a o) : RelO K H' fb' ι' a o := by
  cases o with
  | lst l ds =>
    cases l with
    | false =>
      obtain ⟨xs, e, r⟩ := h
      exact ⟨xs, k _ e, Rels.tr hs hi ds xs r⟩
    | true =>
      obtain ⟨od, xs, e, r⟩ := h
      exact ⟨od, xs, k _ e, Rels.tr hs hi ds xs r⟩
  | dic l d ks vs => exact h.elim
theorem Rel.mono {d : D} {v : V} (h : Rel K H fb ι d v) (g : Grow ι H ι' H') : Rel K H' fb ι' d v := Rel.mono0 g.toGrow0 d v h
theorem Rels.mono (g : Grow ι H ι' H') (ds : List D) (vs : List V) (h : Rels K H fb ι ds vs) : Rels K H' fb ι' ds vs := Rels.mono0 g.toGrow0 ds vs h
theorem RelE.mono0 {env : Env} {σ : L2.St} (g : Grow0 ι H ι' H') (h : RelE K H fb ι env σ) : RelE K H' fb ι' env σ :=
  ⟨h.1, fun i d e => let ⟨v, a, r⟩ := h.2 i d e; ⟨v, a, Rel.mono0 g d v r⟩⟩
theorem RelE.mono {env : Env} {σ : L2.St} (h : RelE K H fb ι env σ) (g : Grow ι H ι' H') : RelE K H' fb ι' env σ := h.mono0 g.toGrow0
theorem Rels.length : ∀ {ds : List D} {vs : List V}, Rels K H fb ι ds vs → ds.length = vs.length
  | [], vs, h => by have h : vs = [] := h; rw [h]; rfl
  | d :: ds, vs, h => by
    obtain ⟨y, ys, e, r, rs⟩ := h
    rw [e, List.length_cons, List.length_cons, Rels.length rs]
theorem Rels.get : ∀ {ds : List D} {vs : List V} {i : Nat} {d : D}, Rels K H fb ι ds vs → ds[i]? = some d → ∃ v, vs[i]? = some v ∧ Rel K H fb ι d v
  | [], _, _, _, _, e => by simp at e
  | d :: ds, vs, i, c, h, e => by
    obtain ⟨y, ys, rfl, r, rs⟩ := h
    cases i with
    | zero => simp at e; subst e; exact ⟨y, by simp, r⟩
    | succ i =>
      obtain ⟨v, h1, h2⟩ := Rels.get (i := i) rs (by simpa using e)
      exact ⟨v, by simpa using h1, h2⟩
theorem Rels.append : ∀ {ds es : List D} {vs ws : List V}, Rels K H fb ι ds vs → Rels K H fb ι es ws → Rels K H fb ι (ds ++ es) (vs ++ ws)
  | [], _, _, _, h, h2 => by have h : _ = [] := h; subst h; exact h2
  | d :: ds, _, _, _, h, h2 => by
    obtain ⟨y, ys, rfl, r, rs⟩ := h
    exact ⟨y, ys ++ _, rfl, r, Rels.append rs h2⟩
theorem Rels.take : ∀ {ds : List D} {vs : List V} (n : Nat), Rels K H fb ι ds vs → Rels K H fb ι (ds.take n) (vs.take n)
  | _, _, 0, _ => by simp [Rels]
  | [], _, n + 1, h => by have h : _ = [] := h; subst h; simp [Rels]
  | d :: ds, _, n + 1, h => by
    obtain ⟨y, ys, rfl, r, rs⟩ := h
    exact ⟨y, ys.take n, rfl, r, Rels.take n rs⟩
theorem Rels.drop : ∀ {ds : List D} {vs : List V} (n : Nat), Rels K H fb ι ds vs → Rels K H fb ι (ds.drop n) (vs.drop n)
  | _, _, 0, h => h
  | [], _, n + 1, h => by have h : _ = [] := h; subst h; simp [Rels]
  | d :: ds, _, n + 1, h => by
    obtain ⟨y, ys, rfl, r, rs⟩ := h
    exact Rels.drop n rs
theorem Rels.set : ∀ {ds : List D} {vs : List V} {d : D} {v : V} (n : Nat), Rels K H fb ι ds vs → Rel K H fb ι d v → Rels K H fb ι (ds.set n d) (vs.set n v)
  | [], _, _, _, n, h, _ => by have h : _ = [] := h; subst h; simp [Rels]
  | c :: ds, _, _, _, 0, h, h2 => by
    obtain ⟨y, ys, rfl, r, rs⟩ := h
    exact ⟨_, ys, rfl, h2, rs⟩
  | c :: ds, _, _, _, n + 1, h, h2 => by
    obtain ⟨y, ys, rfl, r, rs⟩ := h
    exact ⟨y, _, rfl, r, Rels.set n rs h2⟩
theorem Rels.one {d : D} {v : V} (h : Rel K H fb ι d v) : Rels K H fb ι [d] [v] := ⟨v, [], rfl, h, rfl⟩
theorem Rels.rep {ds : List D} {vs : List V} (h : Rels K H fb ι ds vs) : ∀ n : Nat, Rels K H fb ι (List.replicate n ds).flatten (List.replicate n vs).flatten
  | 0 => rfl
  | n + 1 => by
    rw [List.replicate_succ, List.replicate_succ, List.flatten_cons, List.flatten_cons]
    exact h.append (Rels.rep h n)
theorem Rels.of_fn : ∀ {ds : List D} {vs : List V}, ds.length = vs.length → (∀ (i : Nat) d v, ds[i]? = some d → vs[i]? = some v → Rel K H fb ι d v) → Rels K H fb ι ds vs
  | [], [], _, _ => rfl
  | [], _ :: _, e, _ => by simp at e
  | _ :: _, [], e, _ => by simp at e
  | d :: ds, v :: vs, e, h => ⟨v, vs, rfl, h 0 d v rfl rfl, Rels.of_fn (by simpa using e) fun i d v h1 h2 => h (i + 1) d v (by simpa using h1) (by simpa using h2)⟩
theorem RelO.mono0 {a : Addr} {o : Ob} (g : Grow0 ι H ι' H') (k : ∀ u, H a = some u → H' a = some u) (h : RelO K H fb ι a o) : RelO K H' fb ι' a o := by
  cases o with
  | lst l ds =>
    cases l with
    | false =>
      obtain ⟨xs, e, r⟩ := h
      exact ⟨xs, k _ e, Rels.mono0 g ds xs r⟩
    | true =>
      obtain ⟨od, xs, e, r⟩ := h
      exact ⟨od, xs, k _ e, Rels.mono0 g ds xs r⟩
  | dic l d ks vs => exact h.elim
theorem RelO.mono {a : Addr} {o : Ob} (g : Grow ι H ι' H') (ha : a ∉ ι ∨ H' a = H a) (h : RelO K H fb ι a o) : RelO K H' fb ι' a o :=
  RelO.mono0 g.toGrow0 (fun u e => by
    rcases ha with n | q
    · exact g.keep a u e n
    · rw [q, e]) h
theorem RelO.some {a : Addr} {o : Ob} (h : RelO K H fb ι a o) : ∃ u, H a = some u := by
  cases o with
  | lst l ds =>
    cases l with
    | false => obtain ⟨xs, e, r⟩ := h; exact ⟨_, e⟩
    | true => obtain ⟨od, xs, e, r⟩ := h; exact ⟨_, e⟩
  | dic l d ks vs => exact h.elim
theorem RelS.live {a : Addr} (s : RelS K H fb ι st) (h : a ∈ ι) : ∃ u, H a = Option.some u := by
  obtain ⟨n, hn, e⟩ := List.getElem_of_mem h
  have hl : n < st.length := by rw [← s.len]; exact hn
  exact (s.at_ n st[n] a (by simp [hl]) (by simp [hn, e])).some
theorem RelS.fresh {p : Addr} (s : RelS K H fb ι st) (h : H p = Option.none) : p ∉ ι ∧ p ∉ fb := by
  refine ⟨fun m => ?_, fun m => s.fbs p m h⟩
  obtain ⟨u, e⟩ := s.live m
  rw [h] at e; cases e
/-- a new thing that is never changed -/
theorem Grow.laid {p : Addr} {o : HO} (h : H p = Option.none) : Grow ι H ι (upd H p o) := by
  have ne : ∀ a u, H a = Option.some u → a ≠ p := fun a u e z => by rw [z, h] at e; cases e
  exact ⟨⟨⟨[], by simp, by simp⟩, fun a u e _ => by rw [upd_ne (ne a u e)]; exact e⟩, fun a u e => ⟨u, by rw [upd_ne (ne a u e)]; exact e⟩, fun a o u e => by rw [upd_ne (ne a _ e)]; exact e⟩
theorem RelS.grow (s : RelS K H fb ι st) (g : Grow ι H ι H') (k : ∀ a ∈ ι, H' a = H a) : RelS K H' fb ι st :=
  ⟨s.len, s.nd, fun a m e => s.fbs a m (g.none e), s.dj, fun n o a h1 h2 => (s.at_ n o a h1 h2).mono g (.inr (k a (List.mem_of_getElem? h2)))⟩
theorem RelS.laid {p : Addr} {o : HO} (s : RelS K H fb ι st) (h : H p = Option.none) : RelS K (upd H p o) fb ι st :=
  s.grow (Grow.laid h) fun a m => upd_ne fun z => (s.fresh h).1 (z ▸ m)
/-- a new thing of the store -/
theorem Grow.alloc {p : Addr} {o : HO} (h : H p = Option.none) : Grow ι H (ι ++ [p]) (upd H p o) := by
  have g : Grow ι H ι (upd H p o) := Grow.laid h
  exact ⟨⟨⟨[p], rfl, fun a m => by simp at m; subst m; exact h⟩, g.keep⟩, g.live, g.frz⟩
theorem RelS.alloc {p : Addr} {o : HO} {ob : Ob} (s : RelS K H fb ι st) (h : H p = Option.none) (r : RelO K (upd H p o) fb (ι ++ [p]) p ob) : RelS K (upd H p o) fb (ι ++ [p]) (st ++ [ob]) := by
  have f := s.fresh h
  have g : Grow ι H (ι ++ [p]) (upd H p o) := Grow.alloc h
  refine ⟨by simp [s.len], ?_, fun a m e => s.fbs a m (g.none e), fun a m => ?_, fun n ob' a h1 h2 => ?_⟩
  · rw [List.nodup_append]
    refine ⟨s.nd, by simp, fun a ha b hb => ?_⟩
    simp at hb
    subst hb
    exact fun z => f.1 (z ▸ ha)
  · rcases List.mem_append.mp m with z | z
    · exact s.dj a z
    · simp at z; subst z; exact f.2
  · by_cases hn : n < st.length
    · rw [List.getElem?_append_left hn] at h1
      rw [List.getElem?_append_left (by rw [s.len]; exact hn)] at h2
      refine (s.at_ n ob' a h1 h2).mono g (.inr (upd_ne fun z => f.1 (z ▸ List.mem_of_getElem? h2)))
    · have e : n = st.length := by
        have := (List.getElem?_eq_some_iff.mp h1).1
        simp at this
        omega
      subst e
      rw [List.getElem?_append_right (Nat.le_refl _)] at h1
      rw [List.getElem?_append_right (by rw [s.len]; exact Nat.le_refl _)] at h2
      simp [s.len] at h1 h2
      subst h1 h2
      exact r
/-- a thing of the store is changed -/
theorem Grow.wr {a : Addr} {o u : HO} (m : a ∈ ι) (h : H a = Option.some u) (nf : ∀ o' u', u ≠ .frz o' u') : Grow ι H ι (upd H a o) := by
  refine ⟨⟨⟨[], by simp, by simp⟩, fun b w e n => ?_⟩, fun b w e => ?_, fun b o' u' e => ?_⟩
  · rw [upd_ne (fun z => n (by rw [z]; exact m))]; exact e
  · by_cases z : b = a
    · subst z; exact ⟨o, upd_same⟩
    · exact ⟨w, by rw [upd_ne z]; exact e⟩
  · by_cases z : b = a
    · subst z
      rw [h] at e; cases e
      exact absurd rfl (nf _ _)
    · rw [upd_ne z]; exact e
theorem RelS.wr0 {a : Addr} {o u : HO} {n : Nat} {ob : Ob} (s : RelS K H fb ι st) (hi : ι[n]? = Option.some a) (h : H a = Option.some u) (r : RelO K (upd H a o) fb ι a ob) : RelS K (upd H a o) fb ι (st.set n ob) := by
  have m : a ∈ ι := List.mem_of_getElem? hi
  have g : Grow0 ι H ι (upd H a o) := ⟨⟨[], by simp, by simp⟩, fun b w e n => by rw [upd_ne (fun z => n (by rw [z]; exact m))]; exact e⟩
  refine ⟨by simp [s.len], s.nd, fun b m e => s.fbs b m ?_, s.dj, fun k ob' b h1 h2 => ?_⟩
  · by_cases z : b = a
    · subst z; rw [upd_same] at e; cases e
    · rw [upd_ne z] at e; exact e
  · by_cases hk : k = n
    · subst hk
      rw [hi] at h2; cases h2
      have hl : k < st.length := by rw [← s.len]; exact (List.getElem?_eq_some_iff.mp hi).1
      rw [List.getElem?_set_self hl] at h1
      cases h1
      exact r
    · rw [List.getElem?_set_ne (Ne.symm hk)] at h1
      have hb : b ≠ a := fun z => by
        subst z
        obtain ⟨l1, e1⟩ := List.getElem?_eq_some_iff.mp h2
        obtain ⟨l2, e2⟩ := List.getElem?_eq_some_iff.mp hi
        exact hk ((List.getElem_inj s.nd).mp (e1.trans e2.symm))
      exact RelO.mono0 g (fun u e => by rw [upd_ne hb]; exact e) (s.at_ k ob' b h1 h2)
theorem RelS.wr {a : Addr} {o u : HO} {n : Nat} {ob : Ob} (s : RelS K H fb ι st) (hi : ι[n]? = Option.some a) (h : H a = Option.some u) (nf : ∀ o' u', u ≠ .frz o' u') (r : RelO K (upd H a o) fb ι a ob) : RelS K (upd H a o) fb ι (st.set n ob) := by
  have m : a ∈ ι := List.mem_of_getElem? hi
  have g : Grow ι H ι (upd H a o) := Grow.wr m h nf
  refine ⟨by simp [s.len], s.nd, fun a m e => s.fbs a m (g.none e), s.dj, fun k ob' b h1 h2 => ?_⟩
  by_cases hk : k = n
  · subst hk
    rw [hi] at h2; cases h2
    have hl : k < st.length := by rw [← s.len]; exact (List.getElem?_eq_some_iff.mp hi).1
    rw [List.getElem?_set_self hl] at h1
    cases h1
    exact r
  · rw [List.getElem?_set_ne (Ne.symm hk)] at h1
    have hb : b ≠ a := fun z => by
      subst z
      obtain ⟨l1, e1⟩ := List.getElem?_eq_some_iff.mp h2
      obtain ⟨l2, e2⟩ := List.getElem?_eq_some_iff.mp hi
      exact hk ((List.getElem_inj s.nd).mp (e1.trans e2.symm))
    exact (s.at_ k ob' b h1 h2).mono g (.inr (upd_ne hb))
end
end Wk

set_option maxRecDepth 100000
set_option maxHeartbeats 1000000
/-! Wk4: operations by values. -/
namespace Wk
open PySem PySem.Spec PyProof.Rows L2

theorem fit_le {n : Nat} (h : fit n = true) : n ≤ sizeLine := Nat.le_of_ble_eq_true h

section
variable {K : PySem.W.Frag} {H H' : Hp} {fb ι ι' : List Addr} {st : Store}
mutual
theorem dp_of : ∀ (d : D) (v : V) (p : PyData), Rel K H fb ι d v → d.toP = some p → Dp K H v p
  | .non, v, p, h, e => by cases e; cases h; exact .non
  | .bl b, v, p, h, e => by cases e; cases h; exact .bl b
  | .int i, v, p, h, e => by cases e; cases h; exact .int i
  | .str x, v, p, h, e => by cases e; cases h; exact .str x
  | .tup ds, v, p, h, e => by
    obtain ⟨a, xs, rfl, q, n, m, r⟩ := h
    cases e2 : D.toPs ds with
    | none => rw [D.toP, e2] at e; cases e
    | some ps =>
      rw [D.toP, e2] at e; cases e
      exact .tup (SqT.of q) (dps_of ds xs ps r e2)
  | .lst ds, v, p, h, e => by
    obtain ⟨a, xs, rfl, q, n, m, r⟩ := h
    cases e2 : D.toPs ds with
    | none => rw [D.toP, e2] at e; cases e
    | some ps =>
      rw [D.toP, e2] at e; cases e
      exact .lst (SqL.of q) (dps_of ds xs ps r e2)
  | .dic ks vs, v, p, h, e => by cases e
  | .loc n, v, p, h, e => by cases e
  | .scr ns, v, p, h, e => by cases e
  | .exc c vs, v, p, h, e => by cases e
theorem dps_of : ∀ (ds : List D) (vs : List V) (ps : List PyData), Rels K H fb ι ds vs → D.toPs ds = some ps → DpAll K H vs ps
  | [], vs, ps, h, e => by cases e; have h : vs = [] := h; subst h; exact .nil
  | d :: ds, vs, ps, h, e => by
    obtain ⟨y, ys, rfl, r, rs⟩ := h
    cases e1 : D.toP d with
    | none => rw [D.toPs, e1] at e; cases e
    | some p =>
      cases e2 : D.toPs ds with
      | none => rw [D.toPs, e1, e2] at e; cases e
      | some qs =>
        rw [D.toPs, e1, e2] at e; cases e
        exact .cons (dp_of d y p r e1) (dps_of ds ys qs rs e2)
end
/-- a list by its items, to be read -/
theorem ls_of (S : RelS K H fb ι st) {d : D} {v : V} {ds : List D} (r : Rel K H fb ι d v) (e : lsOf st d = some ds) : ∃ a xs, v = .ref a ∧ SqL K H a xs ∧ Rels K H fb ι ds xs := by
  cases d with
  | lst es =>
    cases e
    obtain ⟨a, xs, rfl, q, n, m, r⟩ := r
    exact ⟨a, xs, rfl, SqL.of q, r⟩
  | loc n =>
    obtain ⟨a, rfl, hi⟩ := r
    unfold lsOf at e
    cases q : st[n]? with
    | none => simp only [q] at e; cases e
    | some o =>
      simp only [q] at e
      cases o with
      | dic l d ks vs => cases e
      | lst l es =>
        cases e
        have ro := S.at_ n _ a q hi
        cases l with
        | false =>
          obtain ⟨xs, h1, h2⟩ := ro
          exact ⟨a, xs, rfl, SqL.of h1, h2⟩
        | true =>
          obtain ⟨od, xs, h1, h2⟩ := ro
          exact ⟨a, xs, rfl, .inl (.inr ⟨od, h1⟩), h2⟩
  | _ => cases e
/-- .. not walked -/
theorem lu_of (S : RelS K H fb ι st) {d : D} {v : V} {ds : List D} (r : Rel K H fb ι d v) (e : luOf st d = some ds) : ∃ a xs, v = .ref a ∧ H a = some (.lst xs) ∧ Rels K H fb ι ds xs := by
  cases d with
  | lst es =>
    cases e
    obtain ⟨a, xs, rfl, q, n, m, r⟩ := r
    exact ⟨a, xs, rfl, q, r⟩
  | loc n =>
    obtain ⟨a, rfl, hi⟩ := r
    unfold luOf at e
    cases q : st[n]? with
    | none => simp only [q] at e; cases e
    | some o =>
      simp only [q] at e
      cases o with
      | dic l d ks vs => cases e
      | lst l es =>
        cases l with
        | true => cases e
        | false =>
          cases e
          obtain ⟨xs, h1, h2⟩ := S.at_ n _ a q hi
          exact ⟨a, xs, rfl, h1, h2⟩
  | _ => cases e
theorem tup_of {v : V} {ds : List D} (r : Rel K H fb ι (.tup ds) v) : ∃ a xs, v = .ref a ∧ SqT K H a xs ∧ Rels K H fb ι ds xs := by
  obtain ⟨a, xs, rfl, q, n, m, r⟩ := r
  exact ⟨a, xs, rfl, SqT.of q, r⟩
theorem sq_of (S : RelS K H fb ι st) {d : D} {v : V} {ds : List D} (r : Rel K H fb ι d v) (e : sqOf st d = some ds) : ∃ a xs, v = .ref a ∧ (SqL K H a xs ∨ SqT K H a xs) ∧ Rels K H fb ι ds xs := by
  cases d with
  | tup es =>
    cases e
    obtain ⟨a, xs, rfl, q, r⟩ := tup_of r
    exact ⟨a, xs, rfl, .inr q, r⟩
  | lst es => obtain ⟨a, xs, h1, h2, h3⟩ := ls_of S r (show lsOf st (.lst es) = some ds from e); exact ⟨a, xs, h1, .inl h2, h3⟩
  | loc n => obtain ⟨a, xs, h1, h2, h3⟩ := ls_of S r (show lsOf st (.loc n) = some ds from e); exact ⟨a, xs, h1, .inl h2, h3⟩
  | _ => cases e
theorem dp_rsv (S : RelS K H fb ι st) {d : D} {v : V} {p : PyData} (r : Rel K H fb ι d v) (e : (rsv st d).toP = some p) : Dp K H v p := by
  cases d with
  | loc n =>
    cases q : st[n]? with
    | none => simp only [rsv, q] at e; cases e
    | some o =>
      cases o with
      | dic l dd ks vs => simp only [rsv, q] at e; cases e
      | lst l es =>
        simp only [rsv, q] at e
        obtain ⟨a, xs, rfl, h1, h2⟩ := ls_of S r (show lsOf st (.loc n) = some es by simp only [lsOf, q])
        cases e2 : D.toPs es with
        | none => rw [D.toP, e2] at e; cases e
        | some ps =>
          rw [D.toP, e2] at e; cases e
          exact .lst h1 (dps_of es xs ps h2 e2)
  | _ => exact dp_of _ v p r e
/-- new things -/
theorem rel_tup {p : Addr} {ds : List D} {xs : List V} (S : RelS K H fb ι st) (h : H p = none) (r : Rels K H fb ι ds xs) : Rel K (upd H p (.tup xs)) fb ι (.tup ds) (.ref p) :=
  ⟨p, xs, rfl, upd_same, (S.fresh h).1, (S.fresh h).2, Rels.mono (Grow.laid h) ds xs r⟩
theorem rel_lst {p : Addr} {ds : List D} {xs : List V} (S : RelS K H fb ι st) (h : H p = none) (r : Rels K H fb ι ds xs) : Rel K (upd H p (.lst xs)) fb ι (.lst ds) (.ref p) :=
  ⟨p, xs, rfl, upd_same, (S.fresh h).1, (S.fresh h).2, Rels.mono (Grow.laid h) ds xs r⟩
/-- the empty tuple may be the other one -/
theorem ints_rel : ∀ {ds : List D} {xs : List V} {ns : List Int}, Rels K H fb ι ds xs → intsOf ds = some ns → xs = ns.map V.int
  | [], xs, ns, h, e => by cases e; exact h
  | .int i :: ds, xs, ns, h, e => by
    obtain ⟨y, ys, rfl, r, rs⟩ := h
    cases r
    cases e2 : intsOf ds with
    | none => rw [intsOf, e2] at e; cases e
    | some ms =>
      rw [intsOf, e2] at e; cases e
      rw [List.map_cons, ints_rel rs e2]
  | .non :: _, _, _, _, e => by cases e
  | .bl _ :: _, _, _, _, e => by cases e
  | .str _ :: _, _, _, _, e => by cases e
  | .tup _ :: _, _, _, _, e => by cases e
  | .lst _ :: _, _, _, _, e => by cases e
  | .dic _ _ :: _, _, _, _, e => by cases e
  | .loc _ :: _, _, _, _, e => by cases e
  | .scr _ :: _, _, _, _, e => by cases e
  | .exc _ _ :: _, _, _, _, e => by cases e
theorem bls_rel : ∀ {ds : List D} {xs : List V} {ns : List Bool}, Rels K H fb ι ds xs → blsOf ds = some ns → xs = ns.map V.bl
  | [], xs, ns, h, e => by cases e; exact h
  | .bl i :: ds, xs, ns, h, e => by
    obtain ⟨y, ys, rfl, r, rs⟩ := h
    cases r
    cases e2 : blsOf ds with
    | none => rw [blsOf, e2] at e; cases e
    | some ms =>
      rw [blsOf, e2] at e; cases e
      rw [List.map_cons, bls_rel rs e2]
  | .non :: _, _, _, _, e => by cases e
  | .int _ :: _, _, _, _, e => by cases e
  | .str _ :: _, _, _, _, e => by cases e
  | .tup _ :: _, _, _, _, e => by cases e
  | .lst _ :: _, _, _, _, e => by cases e
  | .dic _ _ :: _, _, _, _, e => by cases e
  | .loc _ :: _, _, _, _, e => by cases e
  | .scr _ :: _, _, _, _, e => by cases e
  | .exc _ _ :: _, _, _, _, e => by cases e
end

/-- what a pure operation is to yield -/
def Yl (K : PySem.W.Frag) (fb ι : List Addr) (st : Store) (d : D) (Q : VK) (H : Hp) : Prop := ∀ ι' H', Grow ι H ι' H' → RelS K H' fb ι' st → ∀ v, Rel K H' fb ι' d v → Q v H'
def rBin (K : PySem.W.Frag) (F : D → D → Store → Option D) : R2 := fun x y H Q => ∃ fb ι st dx dy d, RelS K H fb ι st ∧ Rel K H fb ι dx x ∧ Rel K H fb ι dy y ∧ F dx dy st = some d ∧ Yl K fb ι st d Q H
section
variable {K : PySem.W.Frag} {H H' : Hp} {fb ι : List Addr} {st : Store} {d : D} {Q : VK} {ds : List D} {xs : List V}
theorem Yl.same (y : Yl K fb ι st d Q H) (S : RelS K H fb ι st) {v : V} (r : Rel K H fb ι d v) : Q v H := y ι H Grow.refl S v r
theorem Yl.tup (y : Yl K fb ι st (.tup ds) Q H) (S : RelS K H fb ι st) (r : Rels K H fb ι ds xs) {p : Addr} (h : H p = none) : Q (.ref p) (upd H p (.tup xs)) :=
  y ι _ (Grow.laid h) (S.laid h) _ (rel_tup S h r)
theorem Yl.lst (y : Yl K fb ι st (.lst ds) Q H) (S : RelS K H fb ι st) (r : Rels K H fb ι ds xs) {p : Addr} (h : H p = none) : Q (.ref p) (upd H p (.lst xs)) :=
  y ι _ (Grow.laid h) (S.laid h) _ (rel_lst S h r)
end
section
variable {X : Cx}
theorem log2_lt_64 {i : Nat} (h : i < 2 ^ 64) : i < 2 ^ 64 := h
theorem op_bin {o : Operator} : OpR X (binaryOp o) (rBin X.K (binD o)) := by
  intro pins s σ H x y v u Q I rx ry h
  obtain ⟨fb, ι, st, dx, dy, d, S, hx, hy, e, q⟩ := h
  unfold binD at e
  split at e
  · cases e; cases hx; cases hy
    exact op_add pins s σ H _ _ v u Q I rx ry ⟨_, _, rfl, rfl, q.same S rfl⟩
  · cases e; cases hx; cases hy
    exact op_sub pins s σ H _ _ v u Q I rx ry ⟨_, _, rfl, rfl, q.same S rfl⟩
  · split at e
    · rename_i hc
      cases e; cases hx; cases hy
      exact op_mulW pins s σ H _ _ v u Q I rx ry ⟨_, _, rfl, rfl, Nat.le_of_ble_eq_true hc, q.same S rfl⟩
    · cases e
  · split at e
    · rename_i hc
      simp only [Bool.and_eq_true, decide_eq_true_eq] at hc
      cases e; cases hx; cases hy
      exact op_fdivW pins s σ H _ _ v u Q I rx ry ⟨_, _, rfl, rfl, ⟨hc.1, Nat.le_of_ble_eq_true hc.2⟩, q.same S rfl⟩
    · cases e
  · split at e
    · rename_i hc
      simp only [decide_eq_true_eq] at hc
      cases e; cases hx; cases hy
      exact op_mod pins s σ H _ _ v u Q I rx ry ⟨_, _, rfl, rfl, hc, q.same S rfl⟩
    · cases e
  · split at e
    · rename_i hc
      simp only [Bool.and_eq_true, decide_eq_true_eq] at hc
      cases e; cases hx; cases hy
      exact op_pow pins s σ H _ _ v u Q I rx ry ⟨_, _, rfl, rfl, ⟨hc.1.1, hc.1.2, Nat.le_of_ble_eq_true hc.2⟩, q.same S rfl⟩
    · cases e
  · split at e
    · rename_i hc
      cases e; cases hx; cases hy
      exact op_add_str pins s σ H _ _ v u Q I rx ry ⟨_, _, rfl, rfl, fit_le hc, q.same S rfl⟩
    · cases e
  · split at e
    · rename_i hc
      cases e
      obtain ⟨a, xs, rfl, ha, ra⟩ := tup_of hx
      obtain ⟨b, ys, rfl, hb, rb⟩ := tup_of hy
      refine op_catA pins s σ H _ _ v u Q I rx ry ⟨a, b, xs, ys, rfl, rfl, ha, hb, ?_, fun z => ?_, fun _ z => ?_, fun _ _ p hp => q.tup S (ra.append rb) hp⟩
      · rw [← ra.length, ← rb.length]; exact fit_le hc
      · subst z
        have e0 := ra.length
        rename_i dxs dys
        have e1 : dxs = [] := List.length_eq_zero_iff.mp (by simpa using e0)
        subst e1
        exact q.same S hy
      · subst z
        have e0 := rb.length
        rename_i dys _
        have e1 : dys = [] := List.length_eq_zero_iff.mp (by simpa using e0)
        subst e1
        rw [List.append_nil] at q
        exact q.same S hx
    · cases e
  · split at e
    · rename_i hc
      simp only [Bool.and_eq_true, decide_eq_true_eq, Bool.not_eq_true'] at hc
      cases e; cases hy
      obtain ⟨a, xs, rfl, ha, ra⟩ := tup_of hx
      refine op_repT pins s σ H _ _ v u Q I rx ry ⟨a, _, xs, rfl, rfl, ha, fun z => ?_, hc.1.1.2, hc.1.2, by rw [← ra.length]; exact Nat.le_of_ble_eq_true hc.2, fun p hp => q.tup S (ra.rep _) hp⟩
      subst z
      have e0 := ra.length
      have hn := hc.1.1.1
      rename_i dxs k
      have e1 : dxs = [] := List.length_eq_zero_iff.mp (by simpa using e0)
      subst e1
      cases hn
    · cases e
  · split at e
    · split at e
      · rename_i dxs dys h1 h2 hc
        cases e
        obtain ⟨a, xs, rfl, ha, ra⟩ := lu_of S hx h1
        obtain ⟨b, ys, rfl, hb, rb⟩ := lu_of S hy h2
        exact op_cat pins s σ H _ _ v u Q I rx ry ⟨a, b, xs, ys, rfl, rfl, ha, hb, by rw [← ra.length, ← rb.length]; exact fit_le hc, fun p hp => q.lst S (ra.append rb) hp⟩
      · cases e
    · cases e
  · split at e
    · split at e
      · rename_i dxs h1 hc
        simp only [Bool.and_eq_true, decide_eq_true_eq] at hc
        cases e; cases hy
        obtain ⟨a, xs, rfl, ha, ra⟩ := lu_of S hx h1
        exact op_rep pins s σ H _ _ v u Q I rx ry ⟨a, _, xs, rfl, rfl, ha, by omega, by omega, by rw [← ra.length]; exact fit_le hc.2, fun p hp => q.lst S (ra.rep _) hp⟩
      · cases e
    · cases e
  · cases e
/-- a comparison -/
theorem eq_dat {st : Store} {dx dy : D} {b : Bool} (e : eqD st dx dy = some b) : ∃ p q, (rsv st dx).toP = some p ∧ (rsv st dy).toP = some q ∧ p.canLay0 = true ∧ q.canLay0 = true ∧ min p.depth q.depth ≤ most ∧ b = PyData.eqv p q := by
  unfold eqD at e
  split at e
  · rename_i p q h1 h2
    split at e
    · rename_i hc
      simp only [Bool.and_eq_true] at hc
      cases e
      exact ⟨p, q, h1, h2, hc.1.1, hc.1.2, Nat.le_of_ble_eq_true hc.2, rfl⟩
    · cases e
  · cases e
theorem rel_flat {K : PySem.W.Frag} {H : Hp} {fb ι : List Addr} {d : D} {v : V} (r : Rel K H fb ι d v) : (d = .non ↔ v = .non) := by
  cases d with
  | non => exact ⟨fun _ => r, fun _ => rfl⟩
  | bl b => cases r; exact ⟨(fun z => nomatch z), (fun z => nomatch z)⟩
  | int b => cases r; exact ⟨(fun z => nomatch z), (fun z => nomatch z)⟩
  | str b => cases r; exact ⟨(fun z => nomatch z), (fun z => nomatch z)⟩
  | tup ds => obtain ⟨a, xs, rfl, _⟩ := r; exact ⟨(fun z => nomatch z), (fun z => nomatch z)⟩
  | lst ds => obtain ⟨a, xs, rfl, _⟩ := r; exact ⟨(fun z => nomatch z), (fun z => nomatch z)⟩
  | dic ks vs => exact r.elim
  | loc n => obtain ⟨a, rfl, _⟩ := r; exact ⟨(fun z => nomatch z), (fun z => nomatch z)⟩
  | scr n => obtain ⟨a, rfl, _⟩ := r; exact ⟨(fun z => nomatch z), (fun z => nomatch z)⟩
  | exc c vs => exact r.elim
def rCmp (K : PySem.W.Frag) (o : CmpOp) : R2 := rBin K fun x y st => (cmpD o x y st).map .bl
theorem op_eqW (hu : X.A.units + 200 < cLine) {pins : List (Addr × Obj)} {s : Shared} {σ : L2.St} {H : Hp} {x y : V} {v u : Value} {Q : VK} {p q : PyData} (I : L2.Inv X pins σ H s) (rx : L2.RelV x v) (ry : L2.RelV y u) (hp : Dp X.K H x p) (hq : Dp X.K H y q)
    (c1 : p.canLay0 = true) (c2 : q.canLay0 = true) (hm : min p.depth q.depth ≤ most) (h : Q (.bl (PyData.eqv p q)) H) : wpAny (model X.prog X.w) X.A (compareOp .Eq v u) (EP X pins σ Q) X.xe s := by
  obtain ⟨as, r1⟩ := Dp.reads I p x v hp rx
  obtain ⟨bs, r2⟩ := Dp.reads I q y u hq ry
  exact SeqAt.compareEq_reads r1 r2 c1 c2 (by unfold most at hm; omega) ⟨.bl _, H, I, rfl, h⟩
theorem op_neW (hu : X.A.units + 200 < cLine) {pins : List (Addr × Obj)} {s : Shared} {σ : L2.St} {H : Hp} {x y : V} {v u : Value} {Q : VK} {p q : PyData} (I : L2.Inv X pins σ H s) (rx : L2.RelV x v) (ry : L2.RelV y u) (hp : Dp X.K H x p) (hq : Dp X.K H y q)
    (c1 : p.canLay0 = true) (c2 : q.canLay0 = true) (hm : min p.depth q.depth ≤ most) (h : Q (.bl (!PyData.eqv p q)) H) : wpAny (model X.prog X.w) X.A (compareOp .NotEq v u) (EP X pins σ Q) X.xe s := by
  obtain ⟨as, r1⟩ := Dp.reads I p x v hp rx
  obtain ⟨bs, r2⟩ := Dp.reads I q y u hq ry
  exact SeqAt.compareNe_reads r1 r2 c1 c2 (by unfold most at hm; omega) ⟨.bl _, H, I, rfl, h⟩
theorem sign_of {a : Str} (h : (a.length == 1) = true) : a = ⟨#[a.cps.getD 0 0]⟩ := by
  obtain ⟨⟨l⟩⟩ := a
  have h : (l.length == 1) = true := h
  match l, h with
  | [c], _ => rfl
theorem op_cmp {o : CmpOp} (hu : X.A.units + 200 < cLine) (ho : o ≠ .In) (ho2 : o ≠ .NotIn) : OpR X (compareOp o) (rCmp X.K o) := by
  intro pins s σ H x y v u Q I rx ry h
  obtain ⟨fb, ι, st, dx, dy, d, S, hx, hy, e, q⟩ := h
  have e : Option.map D.bl (cmpD o dx dy st) = some d := e
  cases ec : cmpD o dx dy st with
  | none => rw [ec] at e; cases e
  | some b =>
    rw [ec] at e; cases e
    have q : Q (.bl b) H := q.same S rfl
    cases o with
    | Eq =>
      obtain ⟨p, p', e1, e2, c1, c2, hm, rfl⟩ := eq_dat (show eqD st dx dy = some b from ec)
      exact op_eqW hu I rx ry (dp_rsv S hx e1) (dp_rsv S hy e2) c1 c2 hm q
    | NotEq =>
      cases e3 : eqD st dx dy with
      | none => simp only [cmpD, e3] at ec; cases ec
      | some b' =>
        simp only [cmpD, e3] at ec; cases ec
        obtain ⟨p, p', e1, e2, c1, c2, hm, rfl⟩ := eq_dat e3
        exact op_neW hu I rx ry (dp_rsv S hx e1) (dp_rsv S hy e2) c1 c2 hm q
    | Lt =>
      unfold cmpD ltD at ec
      simp only at ec
      split at ec
      · cases ec; cases hx; cases hy
        exact op_lt pins s σ H _ _ v u Q I rx ry ⟨_, _, rfl, rfl, q⟩
      · cases ec; cases hx; cases hy
        exact op_lt_str pins s σ H _ _ v u Q I rx ry ⟨_, _, rfl, rfl, q⟩
      · split at ec
        · rename_i ns ms h1 h2
          cases ec
          obtain ⟨a, xs, rfl, ha, ra⟩ := tup_of hx
          obtain ⟨b, ys, rfl, hb, rb⟩ := tup_of hy
          have e1 := ints_rel ra h1
          have e2 := ints_rel rb h2
          subst e1 e2
          exact op_ltT (by omega) pins s σ H _ _ v u Q I rx ry ⟨a, b, ns, ms, rfl, rfl, ha, hb, q⟩
        · cases ec
      · cases ec
    | Gt =>
      unfold cmpD at ec
      simp only at ec
      split at ec
      · cases ec; cases hx; cases hy
        exact op_gt pins s σ H _ _ v u Q I rx ry ⟨_, _, rfl, rfl, q⟩
      · cases ec
    | LtE =>
      unfold cmpD at ec
      simp only at ec
      split at ec
      · cases ec; cases hx; cases hy
        exact op_le pins s σ H _ _ v u Q I rx ry ⟨_, _, rfl, rfl, q⟩
      · cases ec
    | GtE =>
      unfold cmpD at ec
      simp only at ec
      split at ec
      · cases ec; cases hx; cases hy
        exact op_ge pins s σ H _ _ v u Q I rx ry ⟨_, _, rfl, rfl, q⟩
      · cases ec
    | Is =>
      unfold cmpD at ec
      simp only at ec
      split at ec
      · cases ec; cases hx; cases hy
        exact op_isBl pins s σ H _ _ v u Q I rx ry ⟨_, _, rfl, rfl, by rw [Bool.beq_eq_decide_eq] at q; exact q⟩
      · cases ec; cases hx; cases hy
        exact op_isN pins s σ H _ _ v u Q I rx ry ⟨rfl, by simpa using q⟩
      all_goals first
        | (cases ec; cases hy
           have ne := mt (rel_flat hx).mpr (by intro z; cases z)
           exact op_isN pins s σ H _ _ v u Q I rx ry ⟨rfl, by simpa [ne] using q⟩)
        | cases ec
    | IsNot =>
      unfold cmpD at ec
      simp only at ec
      split at ec
      · cases ec; cases hx; cases hy
        exact op_notBl pins s σ H _ _ v u Q I rx ry ⟨_, _, rfl, rfl, by rw [Bool.beq_eq_decide_eq] at q; exact q⟩
      · cases ec; cases hx; cases hy
        exact op_notN pins s σ H _ _ v u Q I rx ry ⟨rfl, by simpa using q⟩
      all_goals first
        | (cases ec; cases hy
           have ne := mt (rel_flat hx).mpr (by intro z; cases z)
           exact op_notN pins s σ H _ _ v u Q I rx ry ⟨rfl, by simpa [ne] using q⟩)
        | cases ec
    | In => exact absurd rfl ho
    | NotIn => exact absurd rfl ho2
end
end Wk

set_option maxRecDepth 100000
set_option maxHeartbeats 1000000
/-! Wk5: subscripts, slices, built-ins, methods, loops' sources by values. -/
namespace Wk
open PySem PySem.Spec PyProof.Rows L2

section
variable {K : PySem.W.Frag} {H H' : Hp} {fb ι ι' : List Addr} {st : Store}
theorem atI_rel {ds : List D} {xs : List V} {i : Int} {d : D} (r : Rels K H fb ι ds xs) (e : atI ds i = some d) : ∃ v, atI xs i = some v ∧ Rel K H fb ι d v := by
  unfold atI at e ⊢
  rw [r.length] at e
  cases q : ixN xs.length i with
  | none => rw [q] at e; cases e
  | some j =>
    rw [q] at e
    exact r.get e
theorem atI_map {α β : Type} {f : α → β} {xs : List α} {i : Int} : atI (xs.map f) i = (atI xs i).map f := by
  unfold atI
  rw [List.length_map]
  cases ixN xs.length i with
  | none => rfl
  | some j => simp
theorem cut_rel {ds : List D} {xs : List V} (r : Rels K H fb ι ds xs) (lo hi : Option Int) : Rels K H fb ι (cutD ds lo hi) (cutV xs lo hi) := by
  unfold cutD cutV
  rw [r.length]
  exact (r.drop _).take _
theorem scr_rel {ns : List Int} : ∀ H : Hp, Rels K H fb ι (ns.map D.int) (ns.map V.int) := by
  intro H
  induction ns with
  | nil => rfl
  | cons n r ih => exact ⟨_, _, rfl, rfl, ih⟩
theorem scr_sql {ns : List Int} {v : V} (r : Rel K H fb ι (.scr ns) v) : ∃ a, v = .ref a ∧ SqL K H a (ns.map V.int) := by
  obtain ⟨a, rfl, ⟨o, q, _⟩ | q⟩ := r
  · exact ⟨a, rfl, .inl (.inr ⟨o, q⟩)⟩
  · exact ⟨a, rfl, q H⟩
end
section
variable {X : Cx}
theorem ix_dat : IxR X (rBin X.K fun x y st => ixD st x y) := by
  intro value slice pins s σ H x y v u Q I rx ry h hp
  obtain ⟨fb, ι, st, dx, dy, d, S, hx, hy, e, q⟩ := h
  replace e : ixD st dx dy = some d := e
  unfold ixD at e
  split at e
  · rename_i ns k
    cases hy
    obtain ⟨a, rfl, hs⟩ := scr_sql hx
    cases e2 : atI ns k with
    | none => rw [e2] at e; cases e
    | some n =>
      rw [e2] at e; cases e
      exact ix_list value slice pins s σ H _ _ v u Q I rx ry ⟨a, _, k, .int n, rfl, rfl, hs, by rw [atI_map, e2]; rfl, q.same S rfl⟩ hp
  · rename_i k _
    cases hy
    cases e2 : sqOf st dx with
    | none => rw [e2] at e; cases e
    | some ds =>
      rw [e2] at e
      have e : atI ds k = some d := e
      obtain ⟨a, xs, rfl, hs, r⟩ := sq_of S hx e2
      obtain ⟨w, hw, rw'⟩ := atI_rel r e
      rcases hs with hs | hs
      · exact ix_list value slice pins s σ H _ _ v u Q I rx ry ⟨a, xs, k, w, rfl, rfl, hs, hw, q.same S rw'⟩ hp
      · exact ix_tup value slice pins s σ H _ _ v u Q I rx ry ⟨a, xs, k, w, rfl, rfl, hs, hw, q.same S rw'⟩ hp
  · cases e
/-- slices -/
def rCut (K : PySem.W.Frag) : V → Option Int → Option Int → Hp → VK → Prop := fun x lo hi H Q => ∃ fb ι st dx d, RelS K H fb ι st ∧ Rel K H fb ι dx x ∧
  sliceD st dx lo hi = some d ∧ Yl K fb ι st d Q H
theorem cut_whole {ds : List D} {lo hi : Option Int} (h : HT.sIx ds.length 0 lo = 0 ∧ HT.sIx ds.length ds.length hi = ds.length) : cutD ds lo hi = ds := by
  unfold cutD
  rw [h.1, h.2]
  simp
theorem sl_dat : SlR X (rCut X.K) := by
  intro pins s σ H x v vl vu lo hi sl Q I rx hs pl pu h
  obtain ⟨fb, ι, st, dx, d, S, hx, e, q⟩ := h
  unfold sliceD at e
  split at e
  · cases e
    rename_i ds
    obtain ⟨a, xs, rfl, ha, ra⟩ := tup_of hx
    refine sl_tupA pins s σ H _ v vl vu lo hi sl Q I rx hs pl pu ⟨a, xs, rfl, ha, fun z => ?_, fun _ p hp => q.tup S (cut_rel ra lo hi) hp⟩
    rw [← ra.length] at z
    rw [cut_whole z] at q
    exact q.same S hx
  · cases e
    obtain ⟨a, rfl, ha⟩ := scr_sql hx
    exact sl_list pins s σ H _ v vl vu lo hi sl Q I rx hs pl pu ⟨a, _, rfl, ha, fun p hp => q.lst S (cut_rel (scr_rel H) lo hi) hp⟩
  · cases e2 : lsOf st dx with
    | none => rw [e2] at e; cases e
    | some ds =>
      rw [e2] at e; cases e
      obtain ⟨a, xs, rfl, ha, ra⟩ := ls_of S hx e2
      exact sl_list pins s σ H _ v vl vu lo hi sl Q I rx hs pl pu ⟨a, xs, rfl, ha, fun p hp => q.lst S (cut_rel ra lo hi) hp⟩

/-! ### built-ins -/
def rBlt (K : PySem.W.Frag) (F : List D → Store → Option D) : List V → Hp → VK → Prop := fun vs H Q => ∃ fb ι st ds d, RelS K H fb ι st ∧ Rels K H fb ι ds vs ∧ F ds st = some d ∧ Yl K fb ι st d Q H
theorem rels1 {K : PySem.W.Frag} {H : Hp} {fb ι : List Addr} {d : D} {vs : List V} (h : Rels K H fb ι [d] vs) : ∃ v, vs = [v] ∧ Rel K H fb ι d v := by
  obtain ⟨y, ys, rfl, r, rs⟩ := h
  have rs : ys = [] := rs
  subst rs
  exact ⟨y, rfl, r⟩
theorem rels2 {K : PySem.W.Frag} {H : Hp} {fb ι : List Addr} {d e : D} {vs : List V} (h : Rels K H fb ι [d, e] vs) : ∃ v w, vs = [v, w] ∧ Rel K H fb ι d v ∧ Rel K H fb ι e w := by
  obtain ⟨y, ys, rfl, r, rs⟩ := h
  obtain ⟨w, rfl, r2⟩ := rels1 rs
  exact ⟨y, w, rfl, r, r2⟩
theorem bt_len : CallR X (.builtin "len") (rBlt X.K (bltD "len")) := by
  intro pins s σ H vs us Q I r h
  obtain ⟨fb, ι, st, ds, d, S, hd, e, q⟩ := h
  simp only [bltD, show ("len" : Str) == "len" from by decide, if_true] at e
  split at e
  · split at e
    · rename_i x hc
      cases e
      obtain ⟨v, rfl, r1⟩ := rels1 hd
      cases r1
      exact call_len_str pins s σ H _ us Q I r ⟨x, rfl, fit_le hc, q.same S rfl⟩
    · cases e
  · cases e
    rename_i ns
    obtain ⟨v, rfl, r1⟩ := rels1 hd
    obtain ⟨a, rfl, ha⟩ := scr_sql r1
    exact call_len_seq pins s σ H _ us Q I r ⟨a, _, rfl, .inl ha, by rw [List.length_map]; exact q.same S rfl⟩
  · rename_i x _ _
    obtain ⟨v, rfl, r1⟩ := rels1 hd
    cases e2 : sqOf st x with
    | none => rw [e2] at e; cases e
    | some ds =>
      rw [e2] at e; cases e
      obtain ⟨a, xs, rfl, ha, ra⟩ := sq_of S r1 e2
      exact call_len_seq pins s σ H _ us Q I r ⟨a, xs, rfl, ha, by rw [← ra.length]; exact q.same S rfl⟩
  · cases e
theorem bt_all (hc : X.calm = true) : CallR X (.builtin "all") (rBlt X.K (bltD "all")) := by
  intro pins s σ H vs us Q I r h
  obtain ⟨fb, ι, st, ds, d, S, hd, e, q⟩ := h
  simp only [bltD, show (("all" : Str) == "len") = false from by decide, show ("all" : Str) == "all" from by decide, if_true, Bool.false_eq_true, if_false] at e
  split at e
  · obtain ⟨v, rfl, r1⟩ := rels1 hd
    rename_i x
    cases e2 : lsOf st x with
    | none => rw [e2] at e; cases e
    | some ds =>
      cases e3 : blsOf ds with
      | none => rw [e2, Option.bind_some, e3] at e; cases e
      | some bs =>
        rw [e2, Option.bind_some, e3] at e; cases e
        obtain ⟨a, xs, rfl, ha, ra⟩ := ls_of S r1 e2
        have e4 := bls_rel ra e3
        subst e4
        exact cr_all hc pins s σ H _ us Q I r ⟨a, bs, rfl, ha, q.same S rfl⟩
  · cases e
theorem bt_any (hc : X.calm = true) : CallR X (.builtin "any") (rBlt X.K (bltD "any")) := by
  intro pins s σ H vs us Q I r h
  obtain ⟨fb, ι, st, ds, d, S, hd, e, q⟩ := h
  simp only [bltD, show (("any" : Str) == "len") = false from by decide, show (("any" : Str) == "all") = false from by decide, show ("any" : Str) == "any" from by decide, if_true, Bool.false_eq_true, if_false] at e
  split at e
  · obtain ⟨v, rfl, r1⟩ := rels1 hd
    rename_i x
    cases e2 : lsOf st x with
    | none => rw [e2] at e; cases e
    | some ds =>
      cases e3 : blsOf ds with
      | none => rw [e2, Option.bind_some, e3] at e; cases e
      | some bs =>
        rw [e2, Option.bind_some, e3] at e; cases e
        obtain ⟨a, xs, rfl, ha, ra⟩ := ls_of S r1 e2
        have e4 := bls_rel ra e3
        subst e4
        exact cr_any hc pins s σ H _ us Q I r ⟨a, bs, rfl, ha, q.same S rfl⟩
  · cases e
theorem bltD_tuple {vs : List D} {st : Store} : bltD "tuple" vs st = match vs with
    | [x] => (sqOf st x).map .tup
    | _ => none := rfl
theorem bltD_list {vs : List D} {st : Store} : bltD "list" vs st = match vs with
    | [x] => (sqOf st x).map .lst
    | _ => none := rfl
theorem bltD_sum {vs : List D} {st : Store} : bltD "sum" vs st = match vs with
    | [x] => ((lsOf st x).bind intsOf).map fun ns => .int ns.sum
    | _ => none := rfl
theorem bltD_max {vs : List D} {st : Store} : bltD "max" vs st = match vs with
    | [.int i, .int j] => some (.int (if j > i then j else i))
    | _ => none := rfl
theorem bltD_min {vs : List D} {st : Store} : bltD "min" vs st = match vs with
    | [.int i, .int j] => some (.int (if j < i then j else i))
    | _ => none := rfl
theorem bltD_int {vs : List D} {st : Store} : bltD "int" vs st = match vs with
    | [.int i] => some (.int i)
    | _ => none := rfl
theorem bltD_repr {vs : List D} {st : Store} : bltD "repr" vs st = match vs with
    | [x] => (showD st x).map .str
    | _ => none := rfl
theorem bt_tuple : CallR X (.type "tuple") (rBlt X.K (bltD "tuple")) := by
  intro pins s σ H vs us Q I r h
  obtain ⟨fb, ι, st, ds, d, S, hd, e, q⟩ := h
  rw [bltD_tuple] at e
  split at e
  · obtain ⟨v, rfl, r1⟩ := rels1 hd
    rename_i x
    cases e2 : sqOf st x with
    | none => rw [e2] at e; cases e
    | some ds =>
      rw [e2] at e; cases e
      cases x with
      | tup es =>
        cases e2
        obtain ⟨a, xs, rfl, ha, ra⟩ := tup_of r1
        exact call_tuple_of pins s σ H _ us Q I r ⟨a, xs, rfl, .inr ⟨ha, q.same S r1⟩⟩
      | lst es =>
        obtain ⟨a, xs, rfl, ha, ra⟩ := ls_of S r1 (show lsOf st (.lst es) = some ds from e2)
        exact call_tuple_of pins s σ H _ us Q I r ⟨a, xs, rfl, .inl ⟨ha, fun p hp => q.tup S ra hp⟩⟩
      | loc n =>
        obtain ⟨a, xs, rfl, ha, ra⟩ := ls_of S r1 (show lsOf st (.loc n) = some ds from e2)
        exact call_tuple_of pins s σ H _ us Q I r ⟨a, xs, rfl, .inl ⟨ha, fun p hp => q.tup S ra hp⟩⟩
      | _ => cases e2
  · cases e
theorem bt_list : CallR X (.type "list") (rBlt X.K (bltD "list")) := by
  intro pins s σ H vs us Q I r h
  obtain ⟨fb, ι, st, ds, d, S, hd, e, q⟩ := h
  rw [bltD_list] at e
  split at e
  · obtain ⟨v, rfl, r1⟩ := rels1 hd
    rename_i x
    cases e2 : sqOf st x with
    | none => rw [e2] at e; cases e
    | some ds =>
      rw [e2] at e; cases e
      obtain ⟨a, xs, rfl, ha, ra⟩ := sq_of S r1 e2
      exact call_list_of pins s σ H _ us Q I r ⟨a, xs, rfl, ha, fun p hp => q.lst S ra hp⟩
  · cases e
def rListA (K : PySem.W.Frag) : List V → Hp → VK → Prop := fun vs H Q => ∃ fb ι st ds ys, RelS K H fb ι st ∧ Rels K H fb ι ds vs ∧ bltD "list" ds st = some (.lst ys) ∧
  ∀ ι' H', Grow ι H ι' H' → RelS K H' fb ι' (st ++ [.lst false ys]) → ∀ v, Rel K H' fb ι' (.loc st.length) v → Q v H'
theorem bt_listA : CallR X (.type "list") (rListA X.K) := by
  intro pins s σ H vs us Q I r h
  obtain ⟨fb, ι, st, ds, ys, S, hd, e, q⟩ := h
  rw [bltD_list] at e
  split at e
  · obtain ⟨v, rfl, r1⟩ := rels1 hd
    rename_i x
    cases e2 : sqOf st x with
    | none => rw [e2] at e; cases e
    | some ds =>
      rw [e2] at e; cases e
      obtain ⟨a, xs, rfl, ha, ra⟩ := sq_of S r1 e2
      refine call_list_of pins s σ H _ us Q I r ⟨a, xs, rfl, ha, fun p hp => ?_⟩
      have g : Grow ι H (ι ++ [p]) (upd H p (.lst xs)) := Grow.alloc hp
      refine q _ _ g (S.alloc hp ⟨xs, upd_same, Rels.mono g _ _ ra⟩) _ ⟨p, rfl, ?_⟩
      rw [← S.len]
      simp
  · cases e
theorem bt_sum (hc : X.calm = true) : CallR X (.builtin "sum") (rBlt X.K (bltD "sum")) := by
  intro pins s σ H vs us Q I r h
  obtain ⟨fb, ι, st, ds, d, S, hd, e, q⟩ := h
  rw [bltD_sum] at e
  split at e
  · obtain ⟨v, rfl, r1⟩ := rels1 hd
    rename_i x
    cases e2 : lsOf st x with
    | none => rw [e2] at e; cases e
    | some ds =>
      cases e3 : intsOf ds with
      | none => rw [e2, Option.bind_some, e3] at e; cases e
      | some ns =>
        rw [e2, Option.bind_some, e3] at e; cases e
        obtain ⟨a, xs, rfl, ha, ra⟩ := ls_of S r1 e2
        have e4 := ints_rel ra e3
        subst e4
        exact cr_sum hc pins s σ H _ us Q I r ⟨a, ns, rfl, ha, q.same S rfl⟩
  · cases e
theorem bt_max (hc : X.calm = true) : CallR X (.builtin "max") (rBlt X.K (bltD "max")) := by
  intro pins s σ H vs us Q I r h
  obtain ⟨fb, ι, st, ds, d, S, hd, e, q⟩ := h
  rw [bltD_max] at e
  split at e
  · cases e
    obtain ⟨v, w, rfl, r1, r2⟩ := rels2 hd
    cases r1; cases r2
    exact call_max2 hc pins s σ H _ us Q I r ⟨_, _, rfl, q.same S rfl⟩
  · cases e
theorem bt_min (hc : X.calm = true) : CallR X (.builtin "min") (rBlt X.K (bltD "min")) := by
  intro pins s σ H vs us Q I r h
  obtain ⟨fb, ι, st, ds, d, S, hd, e, q⟩ := h
  rw [bltD_min] at e
  split at e
  · cases e
    obtain ⟨v, w, rfl, r1, r2⟩ := rels2 hd
    cases r1; cases r2
    exact call_min2 hc pins s σ H _ us Q I r ⟨_, _, rfl, q.same S rfl⟩
  · cases e
theorem bt_int : CallR X (.type "int") (rBlt X.K (bltD "int")) := by
  intro pins s σ H vs us Q I r h
  obtain ⟨fb, ι, st, ds, d, S, hd, e, q⟩ := h
  rw [bltD_int] at e
  split at e
  · cases e
    obtain ⟨v, rfl, r1⟩ := rels1 hd
    cases r1
    exact call_int1 pins s σ H _ us Q I r (.inl ⟨_, rfl, q.same S rfl⟩)
  · cases e
theorem noDict_of {K : PySem.W.Frag} {H : Hp} : ∀ {v : V} {p : PyData}, Dp K H v p → p.hasDict = false := by
  intro v p h
  refine Dp.rec (motive_1 := fun v p _ => p.hasDict = false) (motive_2 := fun vs ps _ => PyData.hasDictAll ps = false) ?_ ?_ ?_ ?_ ?_ ?_ ?_ ?_ h
  · rfl
  · intro b; rfl
  · intro i; rfl
  · intro x; rfl
  · intro a xs ds _ _ ih; simpa [PyData.hasDict] using ih
  · intro a xs ds _ _ ih; simpa [PyData.hasDict] using ih
  · rfl
  · intro v vs d ds _ _ h1 h2; simp [PyData.hasDictAll, h1, h2]
theorem bt_repr (hg : X.A.guards = some []) (hu : X.A.units + 200 < cLine) : CallR X (.builtin "repr") (rBlt X.K (bltD "repr")) := by
  intro pins s σ H vs us Q I r h
  obtain ⟨fb, ι, st, ds, d, S, hd, e, q⟩ := h
  rw [bltD_repr] at e
  split at e
  · obtain ⟨v, rfl, r1⟩ := rels1 hd
    rename_i x
    cases e2 : showD st x with
    | none => rw [e2] at e; cases e
    | some t =>
      rw [e2] at e; cases e
      unfold showD at e2
      split at e2
      · rename_i p ep
        split at e2
        · cases e2
        · split at e2
          · rename_i hr hc
            simp only [Bool.and_eq_true] at hc
            cases e2
            have dp := dp_rsv S r1 ep
            obtain ⟨u, rfl, ru⟩ := vals1 r
            obtain ⟨as, rd⟩ := Dp.reads I p v u dp ru
            have hdp : p.depth ≤ most := Nat.le_of_ble_eq_true hc.1.2
            have isr : ∃ a, u = .ref a := by
              cases rd with
              | list _ _ _ _ => exact ⟨_, rfl⟩
              | tuple _ _ _ _ => exact ⟨_, rfl⟩
              | dict _ _ _ _ _ => exact ⟨_, rfl⟩
              | _ => exact absurd rfl hr
            obtain ⟨a, rfl⟩ := isr
            refine repr_of_reads' rd hc.1.1 (PyData.noDict_hsm (noDict_of dp)) hg (by unfold most at hdp; omega) (fun _ _ e => e) (fun h' u' tk k => ?_) (Nat.le_of_ble_eq_true hc.2)
            exact ⟨.str _, H, I.kept k, ⟨_, rfl⟩, q.same S rfl⟩
          · cases e2
      · cases e2
  · cases e
end
end Wk

set_option maxRecDepth 100000
set_option maxHeartbeats 1000000
/-! WkE: enumerate of a tuple. -/
namespace Wk
open PySem PySem.Spec PyProof.Rows L2
open AutoSeq1 (wpAny_loadPart')

theorem enumT_made (l : Addr) (items : Array Value) :
    Meets (Builtin.«enumerate.__new__» ⟨[.type "enumerate", .ref l], []⟩) (fun _ R s => s.heap.IsTuple l items ∧
      R (.ok (.ret (.ref (s.heap.push { cls := .type "tuple_iterator", data := .fields #[.ref l, .int 0 0] }).objs.size)))
        { s with heap := (s.heap.push { cls := .type "tuple_iterator", data := .fields #[.ref l, .int 0 0] }).push { cls := .type "enumerate", data := .fields #[.none, .bool false, .ref s.heap.objs.size, rawInt 0, .none, .none] } }) :=
  .of_wp fun prog w A R s h => by
    obtain ⟨hp, g, d, tk, os⟩ := s
    obtain ⟨hL, h⟩ := h
    have hsub := sub_enumerate
    have hL2 : Heap.IsTuple (Shared.heap ⟨hp, g, d, tk, os⟩) l items := hL
    obtain ⟨⟨oc, od, dt, sl⟩, hl, hc, n, hd⟩ := id hL
    replace hc : oc = .type "tuple" := hc
    replace hd : dt = .seq items n := hd
    subst hc hd
    wp_walk using wpAny_loadPart' hl
    refine wpAny_stack_any fun st => wpAny_pure ?_
    split
    · rename_i c _ _ _ _ _
      cases (c == Value.type "enumerate")
      · wp_walk using wpAny_loadPart' hl, wpAny_pyIter_tuple hL2
        exact ⟨_, rfl, h⟩
      · wp_walk using wpAny_loadPart' hl, wpAny_pyIter_tuple hL2
        exact ⟨_, rfl, h⟩
    · wp_walk using wpAny_loadPart' hl, wpAny_pyIter_tuple hL2
      exact ⟨_, rfl, h⟩
section
variable {prog : Program} {w : World} {A : Around} {E : Value → Shared → Prop} {s : Shared}
theorem enumT_call {l : Addr} {items : Array Value} {Q : Value → Shared → Prop} (hL : s.heap.IsTuple l items)
    (h : ∀ h', IsEnum h' (s.heap.objs.size + 1) s.heap.objs.size 0 .none → h'.IsTupleIter s.heap.objs.size l 0 →
      (∀ b o, s.heap.get? b = some o → h'.get? b = some o) → Q (.ref (s.heap.objs.size + 1)) { s with heap := h' }) :
    wpAny (model prog w) A (call (.type "enumerate") [.ref l]) Q E s := by
  refine callType_new F.called_enumerate (by decide) (F.typeCall_enumerate_1 _) (F.newCall_enumerate_1 _) (fun obj => F.args_object_init_2 obj _) F.entry_enumerate_new
    (enumT_made l items) ⟨hL, ?_⟩
  have hz : (s.heap.push { cls := .type "tuple_iterator", data := .fields #[.ref l, .int 0 0] }).objs.size = s.heap.objs.size + 1 := Heap.size_push ..
  show _ ∧ _
  rw [hz]
  have q := Heap.get?_push_size (s.heap.push { cls := .type "tuple_iterator", data := .fields #[.ref l, .int 0 0] }) (o := { cls := .type "enumerate", data := .fields #[.none, .bool false, .ref s.heap.objs.size, rawInt 0, .none, .none] }) rfl
  rw [hz] at q
  exact ⟨⟨_, q, rfl⟩, h _ q ⟨_, Heap.get?_push_of_some _ (Heap.get?_push_size _ rfl), rfl, rfl⟩ fun b o x => Heap.get?_push_of_some _ (Heap.get?_push_of_some _ x)⟩
theorem drawsT (hh : A.handled = none) (it l : Addr) (hne : l ≠ it) (items : Array Value) :
    Draws prog w A it [it, l] items.size (fun i v => items[i]? = some v) (fun i h => h.IsTupleIter it l i ∧ h.IsTuple l items) where
  live := fun _ _ st => let ⟨o, ho, _⟩ := st.1; ⟨o, ho⟩
  frame := fun _ _ _ st hk => ⟨st.1.at fun o e => hk it (by simp) o e, by
    obtain ⟨o, ho, r⟩ := st.2
    exact ⟨o, hk l (by simp) o ho, r⟩⟩
  item := fun i s Q E hi st hQ => by
    refine RZ.nextOf_tuple_item st.1 st.2 (x := items[i]) (by simp [hi]) fun h' hit' hs' => ?_
    obtain ⟨o, ho, r⟩ := st.2
    exact hQ _ h' s.toks (by simp [hi]) ⟨hit', ⟨o, (hs'.2 l hne).trans ho, r⟩⟩ hs'
  done := fun s Q E st hE => RZ.nextOf_tuple_end hh st.1 st.2 (by simp) hE
end
/-- the tuple at a, each item in a new pair -/
def IteT (K : PySem.W.Frag) (a : Addr) : It :=
  ⟨fun i H => ∃ (xs : List V) (x : V), SqT K H a xs ∧ xs[i]? = some x, fun i H v H' => ∃ T x, v = .ref T ∧ H T = none ∧ H' = upd H T (.tup [.int (i : Nat), x]) ∧ ∀ xs, SqT K H a xs → xs[i]? = some x, fun i H => ∃ xs : List V, SqT K H a xs ∧ xs.length = i⟩
theorem turn_enumT {P : Program} {w : World} {K : PySem.W.Frag} {elts : List Expr} {kk : Nat} {tpos : Pos} (a e it : Addr) (hea : e ≠ a) (hia : a ≠ it) :
    Turn P w K (.Tuple elts kk tpos) (IteT K a) [e, it] e (fun i h => (∃ old, IsEnum h e it ((i : Nat) : Int) old) ∧ h.IsTupleIter it a i ∧ e ≠ it) where
  mem := by simp
  obj := fun i h st b hb => by
    obtain ⟨⟨old, he⟩, ⟨o, ho, hc, hd⟩, _⟩ := st
    have e' : b = e ∨ b = it := by simpa using hb
    rcases e' with z | z
    · rw [z]; exact ⟨_, he, fun v q => nomatch q⟩
    · rw [z]; exact ⟨o, ho, fun v q => by rw [hd] at q; cases q⟩
  keep := fun i h h' st k => let ⟨⟨old, he⟩, hi, hne⟩ := st; ⟨⟨old, k e (by simp) _ he⟩, hi.at fun o q => k it (by simp) o q, hne⟩
  item := by
    intro X hP hw hK hc i pins s σ H E I hf st hg
    subst hP hw hK
    obtain ⟨⟨old, he⟩, hit, hne⟩ := st
    obtain ⟨xs, x, hq, hx⟩ := hg
    obtain ⟨its, rv, p, hz⟩ := I.tuple hq
    have hlt : i < its.toArray.size := by
      have h1 := (List.getElem?_eq_some_iff.mp hx).1
      have h2 := rv.length
      simp; omega
    have hel : e < s.heap.objs.size := Heap.lt_size he
    have hil : it < s.heap.objs.size := by obtain ⟨_, q, _⟩ := hit; exact Heap.lt_size q
    have hh : X.A.in1.handled = none := by
      have := I.ok.hd hc
      exact this
    refine wpAny_pyNext_enum_itemD (drawsT hh it a hia its.toArray) he ⟨hit, p⟩ hlt hne (by simp [hne, hea]) fun u h' tk hPx ho st' hT hsz hk => ?_
    obtain ⟨u', hu, ru'⟩ := rv.get hx
    have eu : u = u' := by
      have z : its.toArray[i]? = some u := hPx
      simp at z
      rw [hu] at z; cases z; rfl
    subst eu
    refine ⟨_, rfl, wpAny_letOwnedTupleGo_enum (s := { s with heap := h', toks := tk + 1 }) ho fun h'' he' sb => ?_⟩
    have hT2 : h''.get? s.heap.objs.size = some { cls := .type "tuple", data := .seq #[.int i tk, u] } := (sb.2 _ (Nat.ne_of_gt hel)).trans hT
    have new : ObjOk X.prog X.w (upd H s.heap.objs.size (.tup [.int (i : Nat), x])) h'' s.heap.objs.size (.tup [.int (i : Nat), x]) :=
      ⟨by show 2 ≤ sizeLine; decide, [.int i tk, u], .cons ⟨_, rfl⟩ (.cons ru' .nil), ⟨_, hT2, rfl, _, rfl⟩⟩
    have I1 : L2.Inv X pins σ (upd H s.heap.objs.size (.tup [.int (i : Nat), x])) { s with heap := h'', toks := tk + 1 } :=
      I.turnedNew (ch := [e, it]) (fun b ob hb q => (sb.2 b (fun z => hb (by simp [z]))).trans (hk b ob (fun z => hb (by simp [z])) (fun z => hb (by simp [z])) q)) hf (Nat.le_refl _) new
    refine ⟨.ref s.heap.objs.size, _, I1, rfl, ⟨_, x, rfl, I.hok.fresh (Nat.le_refl _), rfl, fun ys hy => by rw [I.tuple_inj hy hq]; exact hx⟩, ⟨⟨u, ?_⟩, st'.1.at fun o q => (sb.2 it (Ne.symm hne)).trans q, hne⟩, fun b hb => ?_⟩
    · have e1 : ((i + 1 : Nat) : Int) = (i : Int) + 1 := by omega
      rw [e1]; exact he'
    · have hb' : b < s.heap.objs.size := by
        have e' : b = e ∨ b = it := by simpa using hb
        rcases e' with z | z
        · rw [z]; exact hel
        · rw [z]; exact hil
      rw [upd_ne (Nat.ne_of_lt hb')]
      exact (hf b hb).1
  done := by
    intro X hP hw hK hc i pins s σ H E I hf st hg
    subst hP hw hK
    obtain ⟨⟨old, he⟩, hit, hne⟩ := st
    obtain ⟨xs, hq, hx⟩ := hg
    obtain ⟨its, rv, p, hz⟩ := I.tuple hq
    obtain ⟨f0, f1, f2, f3, f4, f5⟩ := hf it (by simp)
    have hh : X.A.in1.handled = none := I.ok.hd hc
    have hl : i = its.toArray.size := by
      have hl := rv.length
      simp; omega
    refine wpAny_pyNext_enum_endD (drawsT hh it a hia its.toArray) he (by rw [← hl]; exact ⟨hit, p⟩) fun h' eb => ⟨rfl, I.turned (t' := s.toks) (fun b o hb q => eb b o hb q) f0 f1 f3 f4 f5⟩
  self := fun A i s Q E st h => let ⟨⟨_, he⟩, _⟩ := st; wpAny_pyIter_enum he h
end Wk

set_option maxRecDepth 100000
set_option maxHeartbeats 1000000
/-! Wk6: isinstance, methods, stores, loops' sources by values. -/
namespace Wk
open PySem PySem.Spec PyProof.Rows L2

section
variable {X : Cx}
/-! ### isinstance -/
theorem ty_dat {K : PySem.W.Frag} {H : Hp} {fb ι : List Addr} {st : Store} (S : RelS K H fb ι st) {d : D} {v : V} {t : String} (r : Rel K H fb ι d v) (e : tyOf st d = some t) : TyX K H v (.type t) := by
  cases d with
  | non => cases e; cases r; exact .base .non
  | bl b => cases e; cases r; exact .base (.bl b)
  | int i => cases e; cases r; exact .base (.int i)
  | str x => cases e; cases r; exact .base (.str x)
  | tup ds => cases e; obtain ⟨a, xs, rfl, q, _⟩ := r; exact .base (.tup q)
  | lst ds => cases e; obtain ⟨a, xs, rfl, q, _⟩ := r; exact .base (.lst q)
  | loc n =>
    obtain ⟨a, rfl, hi⟩ := r
    unfold tyOf at e
    cases q : st[n]? with
    | none => simp only [q] at e; cases e
    | some o =>
      simp only [q] at e
      cases o with
      | dic l d ks vs => cases e
      | lst l es =>
        cases e
        have ro := S.at_ n _ a q hi
        cases l with
        | false => obtain ⟨xs, h1, h2⟩ := ro; exact .base (.lst h1)
        | true => obtain ⟨od, xs, h1, h2⟩ := ro; exact .base (.frz h1)
  | _ => cases e
/-- the classes that are asked -/
def isiTys : List String := ["int", "bool", "str", "tuple", "list"]
theorem kit_dat {K : PySem.W.Frag} {st : Store} {d : D} {t u : String} (e : tyOf st d = some t) (hu : u ∈ isiTys) : PySem.W.kitOne K (.type t) (.type u) = some (isTy t u) := by
  have ht : t ∈ ["NoneType", "bool", "int", "str", "tuple", "list"] := by
    unfold tyOf at e
    split at e <;> first | (cases e; decide) | (split at e <;> first | (cases e; decide) | cases e) | cases e
  have key : ∀ t ∈ ["NoneType", "bool", "int", "str", "tuple", "list"], ∀ u ∈ isiTys, kitB t u = some (isTy t u) := by decide +kernel
  exact kit_ty (key t ht u hu)
def rIsiD (K : PySem.W.Frag) (u : String) : List V → Hp → VK → Prop := fun vs H Q => ∃ fb ι st d v t, RelS K H fb ι st ∧ Rel K H fb ι d v ∧ tyOf st d = some t ∧ vs = [v, .ty u] ∧ Yl K fb ι st (.bl (isTy t u)) Q H
theorem bt_isi {u : String} (hu : u ∈ isiTys) : CallR X (.builtin "isinstance") (rIsiD X.K u) := by
  intro pins s σ H vs us Q I r h
  obtain ⟨fb, ι, st, d, v, t, S, hd, e, rfl, q⟩ := h
  exact call_isi pins s σ H _ us Q I r ⟨v, .ty u, .type t, .type u, _, rfl, .ty u, ty_dat S hd e, kit_dat e hu, q.same S rfl⟩

/-! ### methods that change a list -/
def Ch (K : PySem.W.Frag) (fb ι : List Addr) (st' : Store) (d : D) (Q : VK) (H : Hp) : Prop := ∀ ι' H', Grow ι H ι' H' → RelS K H' fb ι' st' → ∀ v, Rel K H' fb ι' d v → Q v H'
def rMet (K : PySem.W.Frag) (F : D → List D → Store → Option (D × Store)) : V → List V → Hp → VK → Prop := fun x vs H Q => ∃ fb ι st dx ds d st', RelS K H fb ι st ∧ Rel K H fb ι dx x ∧ Rels K H fb ι ds vs ∧ F dx ds st = some (d, st') ∧ Ch K fb ι st' d Q H
/-- an unwalked list of the store, changed -/
theorem Ch.lst {K : PySem.W.Frag} {fb ι : List Addr} {st : Store} {d : D} {Q : VK} {H : Hp} {n : Nat} {a : Addr} {ds : List D} {xs ys : List V} {v : V} (h : Ch K fb ι (st.set n (.lst false ds)) d Q H) (S : RelS K H fb ι st) (hi : ι[n]? = some a) (hl : H a = some (.lst xs))
    (r : Rels K H fb ι ds ys) (rv : Rel K H fb ι d v) : Q v (upd H a (.lst ys)) := by
  have m : a ∈ ι := List.mem_of_getElem? hi
  have g : Grow ι H ι (upd H a (.lst ys)) := Grow.wr m hl (fun _ _ z => nomatch z)
  exact h ι _ g (S.wr hi hl (fun _ _ z => nomatch z) ⟨ys, upd_same, Rels.mono g ds ys r⟩) v (rv.mono g)
theorem metD_append {x : D} {vs : List D} {st : Store} : metD "append" x vs st = match x, vs with
    | .loc n, [y] => match st[n]? with
      | some (.lst false xs) => if Nat.blt xs.length sizeLine then some (.non, st.set n (.lst false (xs ++ [y]))) else none
      | _ => none
    | _, _ => none := rfl
theorem metD_insert {x : D} {vs : List D} {st : Store} : metD "insert" x vs st = match x, vs with
    | .loc n, [.int i, y] => match st[n]? with
      | some (.lst false xs) => if Nat.blt xs.length sizeLine && decide (0 ≤ i) && decide (i ≤ xs.length) then
          some (.non, st.set n (.lst false (xs.take i.toNat ++ y :: xs.drop i.toNat))) else none
      | _ => none
    | _, _ => none := rfl
theorem md_append : MtR X "list.append" (rMet X.K (metD "append")) := by
  intro pins s σ H x vs v us Q I rx rv h
  obtain ⟨fb, ι, st, dx, ds, d, st', S, hx, hd, e, q⟩ := h
  rw [metD_append] at e
  split at e
  · split at e
    · rename_i n y _ xs hn
      split at e
      · rename_i hc
        cases e
        obtain ⟨a, rfl, hi⟩ := hx
        obtain ⟨w, rfl, rw'⟩ := rels1 hd
        obtain ⟨ws, h1, h2⟩ := S.at_ n _ a hn hi
        exact mt_append pins s σ H _ _ v us Q I rx rv ⟨a, ws, w, rfl, rfl, h1, by rw [← h2.length]; exact Nat.le_of_ble_eq_true hc, q.lst S hi h1 (h2.append (.one rw')) rfl⟩
      · cases e
    · cases e
  · cases e
theorem md_insert : MtR X "list.insert" (rMet X.K (metD "insert")) := by
  intro pins s σ H x vs v us Q I rx rv h
  obtain ⟨fb, ι, st, dx, ds, d, st', S, hx, hd, e, q⟩ := h
  rw [metD_insert] at e
  split at e
  · split at e
    · rename_i n i y _ xs hn
      split at e
      · rename_i hc
        simp only [Bool.and_eq_true, decide_eq_true_eq] at hc
        cases e
        obtain ⟨a, rfl, hi⟩ := hx
        obtain ⟨w1, w, rfl, rw1, rw'⟩ := rels2 hd
        cases rw1
        obtain ⟨ws, h1, h2⟩ := S.at_ n _ a hn hi
        have hz : xs.length < sizeLine := Nat.le_of_ble_eq_true hc.1.1
        have hz2 : sizeLine < 2 ^ 63 := line63
        refine mt_insert pins s σ H _ _ v us Q I rx rv ⟨a, ws, i, w, rfl, rfl, h1, by rw [← h2.length]; exact hz, hc.1.2, by omega, ?_⟩
        rw [List.append_assoc]
        exact q.lst S hi h1 ((h2.take _).append ((Rels.one rw').append (h2.drop _))) rfl
      · cases e
    · cases e
  · cases e
/-- xs[i] = v -/
def rSetD (K : PySem.W.Frag) : V → V → V → Hp → (Hp → Prop) → Prop := fun o i v H Q => ∃ fb ι st dx di dv st', RelS K H fb ι st ∧ Rel K H fb ι dx o ∧ Rel K H fb ι di i ∧ Rel K H fb ι dv v ∧ setIxD dx di dv st = some ((), st') ∧
  ∀ ι' H', Grow ι H ι' H' → RelS K H' fb ι' st' → Q H'
theorem set_dat : PSet X (rSetD X.K) := by
  intro pins s σ H o i v ov iv u Q I ro ri rv h
  obtain ⟨fb, ι, st, dx, di, dv, st', S, hx, hi, hv, e, q⟩ := h
  unfold setIxD at e
  split at e
  · split at e
    · rename_i n k _ xs hn
      cases hi
      obtain ⟨a, rfl, ha⟩ := hx
      obtain ⟨ws, h1, h2⟩ := S.at_ n _ a hn ha
      cases e2 : ixN xs.length k with
      | none => rw [e2] at e; cases e
      | some j =>
        rw [e2] at e; cases e
        have m : a ∈ ι := List.mem_of_getElem? ha
        have g : Grow ι H ι (upd H a (.lst (ws.set j v))) := Grow.wr m h1 (fun _ _ z => nomatch z)
        exact set_list pins s σ H _ _ v ov iv u Q I ro ri rv ⟨a, ws, k, j, rfl, rfl, h1, by rw [← h2.length]; exact e2, q ι _ g (S.wr ha h1 (fun _ _ z => nomatch z) ⟨_, upd_same, Rels.mono g _ _ (h2.set j hv)⟩)⟩
    · cases e
  · cases e
/-- x op= y -/
def rAug (K : PySem.W.Frag) (o : Operator) : TIp := fun x y H Q => ∃ fb ι st dx dy d st', RelS K H fb ι st ∧ Rel K H fb ι dx x ∧ Rel K H fb ι dy y ∧ augD o dx dy st = some (d, st') ∧ Ch K fb ι st' d Q H
theorem Ch.same {K : PySem.W.Frag} {fb ι : List Addr} {st : Store} {d : D} {Q : VK} {H : Hp} {v : V} (h : Ch K fb ι st d Q H) (S : RelS K H fb ι st) (r : Rel K H fb ι d v) : Q v H := h ι H Grow.refl S v r
theorem ip_dat {o : Operator} : PIp X o (rAug X.K o) := by
  intro pins s σ H x y v u Q I rx ry h
  obtain ⟨fb, ι, st, dx, dy, d, st', S, hx, hy, e, q⟩ := h
  unfold augD at e
  split at e
  · cases e; cases hx; cases hy
    exact iop_add pins s σ H _ _ v u Q I rx ry ⟨_, _, rfl, rfl, q.same S rfl⟩
  · cases e; cases hx; cases hy
    exact iop_sub pins s σ H _ _ v u Q I rx ry ⟨_, _, rfl, rfl, q.same S rfl⟩
  · split at e
    · rename_i hc
      cases e; cases hx; cases hy
      exact iop_add_str pins s σ H _ _ v u Q I rx ry ⟨_, _, rfl, rfl, fit_le hc, q.same S rfl⟩
    · cases e
  · split at e
    · rename_i n _ _ xs ys hn hy2
      split at e
      · rename_i hc
        cases e
        have hx0 := hx
        obtain ⟨a, rfl, hi⟩ := hx
        obtain ⟨ws, h1, h2⟩ := S.at_ n _ a hn hi
        obtain ⟨b, zs, rfl, h3, h4⟩ := lu_of S hy hy2
        exact iop_ext pins s σ H _ _ v u Q I rx ry ⟨a, b, ws, zs, rfl, rfl, h1, h3, by rw [← h2.length, ← h4.length]; exact fit_le hc, q.lst S hi h1 (h2.append h4) hx0⟩
      · cases e
    · cases e
  · cases e

/-! ### in, not in -/
theorem op_inW {o : CmpOp} (hu : X.A.units + 200 < cLine) (ho : o = .In ∨ o = .NotIn) : OpR X (compareOp o) (rCmp X.K o) := by
  intro pins s σ H x y v u Q I rx ry h
  obtain ⟨fb, ι, st, dx, dy, d, S, hx, hy, e, q⟩ := h
  have key : ∃ b : Bool, inD st dx dy = some b ∧ ((o = .In ∧ d = .bl b) ∨ (o = .NotIn ∧ d = .bl (!b))) := by
    have e : Option.map D.bl (cmpD o dx dy st) = some d := e
    rcases ho with rfl | rfl
    · cases e2 : inD st dx dy with
      | none => simp only [cmpD, e2] at e; cases e
      | some b => simp only [cmpD, e2] at e; cases e; exact ⟨b, rfl, .inl ⟨rfl, rfl⟩⟩
    · cases e2 : inD st dx dy with
      | none => simp only [cmpD, e2] at e; cases e
      | some b => simp only [cmpD, e2] at e; cases e; exact ⟨b, rfl, .inr ⟨rfl, rfl⟩⟩
  obtain ⟨b, eb, hd⟩ := key
  unfold inD at eb
  split at eb
  · rename_i a z
    split at eb
    · rename_i hc
      cases eb; cases hx; cases hy
      have ea := sign_of hc
      generalize hc0 : a.cps.getD 0 0 = c at ea hd
      have eb : (z.cps.toList.contains c) = decide (c ∈ z.cps.toList) := by simp
      rcases hd with ⟨rfl, rfl⟩ | ⟨rfl, rfl⟩
      · exact op_in_sign pins s σ H _ _ v u Q I rx ry ⟨c, z, by rw [ea], rfl, by rw [← eb]; exact q.same S rfl⟩
      · exact op_notIn_sign pins s σ H _ _ v u Q I rx ry ⟨c, z, by rw [ea], rfl, by rw [← eb]; exact q.same S rfl⟩
    · cases eb
  · split at eb
    · rename_i p qs e1 e2
      split at eb
      · rename_i hc
        simp only [Bool.and_eq_true] at hc
        cases eb
        cases e3 : lsOf st dy with
        | none => rw [e3] at e2; cases e2
        | some ys =>
          rw [e3] at e2
          obtain ⟨a, xs, rfl, ha, ra⟩ := ls_of S hy e3
          have dl : Dp X.K H (.ref a) (.list qs) := .lst ha (dps_of ys xs qs ra e2)
          have dx' := dp_of _ _ p hx e1
          rcases hd with ⟨rfl, rfl⟩ | ⟨rfl, rfl⟩
          · exact op_inD (by omega) pins s σ H _ _ v u Q I rx ry ⟨p, qs, dx', dl, hc.1, hc.2, q.same S rfl⟩
          · exact op_notInD (by omega) pins s σ H _ _ v u Q I rx ry ⟨p, qs, dx', dl, hc.1, hc.2, q.same S rfl⟩
      · cases eb
    · cases eb
theorem op_cmpD {o : CmpOp} (hu : X.A.units + 200 < cLine) : OpR X (compareOp o) (rCmp X.K o) := by
  by_cases h : o = .In ∨ o = .NotIn
  · exact op_inW hu h
  · exact op_cmp hu (fun z => h (.inl z)) (fun z => h (.inr z))

end
/-! ### what a loop walks -/
structure Src (K : PySem.W.Frag) (fb ι : List Addr) (H : Hp) (its : List D) (J : It) : Prop where
  ex : ∃ G Y, Walk J its.length G Y ∧ (∀ ι' H', Grow ι H ι' H' → G H') ∧
    ∀ i x ι' H' H'' st' fb', i < its.length → (∀ a ∈ fb', a ∈ fb ∨ H a = none) → Grow ι H ι' H' → RelS K H' fb' ι' st' → Y i H' x H'' → ∃ d, its[i]? = some d ∧ Grow ι' H' ι' H'' ∧ RelS K H'' fb' ι' st' ∧ Rel K H'' fb' ι' d x
/-- whether a list of the store comes to be walked -/
def lkOf (st : Store) (n : Option Nat) : Option Nat := match n with
  | some n => match st[n]? with
    | some o => if o.locked then none else some n
    | none => none
  | none => none
def lkS (st : Store) (n : Option Nat) : Store := match lkOf st n with
  | some n => match st[n]? with
    | some o => st.set n (o.setLock true)
    | none => st
  | none => st
section
variable {K : PySem.W.Frag} {H : Hp} {fb ι : List Addr} {st : Store}
theorem src_same {ds : List D} {xs : List V} {J : It} {G : Hp → Prop} (w : Walk J ds.length G (YAt xs)) (g : ∀ ι' H', Grow ι H ι' H' → G H') (r : Rels K H fb ι ds xs) : Src K fb ι H ds J :=
  ⟨G, _, w, g, fun i x ι' H' H'' st' fb' hlt hf gr S y => by
    obtain ⟨rfl, hx⟩ := y
    have r' := Rels.mono gr ds xs (r.mvfb hf)
    have hl : i < xs.length := (List.getElem?_eq_some_iff.mp hx).1
    have hd : i < ds.length := by rw [r.length]; exact hl
    obtain ⟨v, h1, h2⟩ := r'.get (i := i) (d := ds[i]) (by simp [hd])
    rw [hx] at h1; cases h1
    exact ⟨ds[i], by simp [hd], Grow.refl, S, h2⟩⟩
end
end Wk

set_option maxRecDepth 100000
set_option maxHeartbeats 1000000
/-! Wk7: what is wanted of a yield; loops' sources in the text. -/
namespace Wk
open PySem PySem.Spec PyProof.Rows L2

/-- r yields what ok | ex wants, wherever the heap may stand behind it -/
def Po {α : Type} (K : PySem.W.Frag) (fb : List Addr) (r : Option (Out α)) (ok : α → Store → List Addr → Hp → Prop) (ex : D → Store → List Addr → Hp → Prop) (ι : List Addr) (H : Hp) : Prop :=
  match r with
  | none => False
  | some (.ok a st') => ∀ ι' H', Grow ι H ι' H' → RelS K H' fb ι' st' → ok a st' ι' H'
  | some (.ex e st') => ∀ ι' H', Grow ι H ι' H' → RelS K H' fb ι' st' → ex e st' ι' H'
section
variable {α β : Type} {K : PySem.W.Frag} {fb : List Addr} {ok ok' : α → Store → List Addr → Hp → Prop} {ex ex' : D → Store → List Addr → Hp → Prop} {ι : List Addr} {H : Hp} {st : Store} {m : M α}
theorem Po.mono {r : Option (Out α)} (h : Po K fb r ok ex ι H) (h1 : ∀ a st' ι' H', Grow ι H ι' H' → RelS K H' fb ι' st' → ok a st' ι' H' → ok' a st' ι' H') (h2 : ∀ e st' ι' H', Grow ι H ι' H' → RelS K H' fb ι' st' → ex e st' ι' H' → ex' e st' ι' H') : Po K fb r ok' ex' ι H := by
  match r, h with
  | some (.ok a st'), h => exact fun ι' H' g S => h1 a st' ι' H' g S (h ι' H' g S)
  | some (.ex e st'), h => exact fun ι' H' g S => h2 e st' ι' H' g S (h ι' H' g S)
theorem Po.bind {f : α → M β} {ok : β → Store → List Addr → Hp → Prop} (h : Po K fb ((m >>= f) st) ok ex ι H) : Po K fb (m st) (fun a st1 ι1 H1 => Po K fb (f a st1) ok ex ι1 H1) ex ι H := by
  have h : Po K fb (M.bind m f st) ok ex ι H := h
  unfold M.bind at h
  match hm : m st, h with
  | none, h => exact h
  | some (.ok a st1), h =>
    intro ι1 H1 g1 S1
    match hf : f a st1, h with
    | none, h => simp only [hf] at h; exact h.elim
    | some (.ok b st2), h =>
      simp only [hf] at h
      exact fun ι2 H2 g2 S2 => h ι2 H2 (g1.trans g2) S2
    | some (.ex e st2), h =>
      simp only [hf] at h
      exact fun ι2 H2 g2 S2 => h ι2 H2 (g1.trans g2) S2
  | some (.ex e st1), h => exact h
theorem Po.ret {a : α} (h : Po K fb ((pure a : M α) st) ok ex ι H) (S : RelS K H fb ι st) : ok a st ι H := h ι H Grow.refl S
theorem Po.of {o : Option α} (h : Po K fb (M.of o st) ok ex ι H) : ∃ a, o = some a ∧ Po K fb (some (.ok a st)) ok ex ι H := by
  cases o with
  | none => exact h.elim
  | some a => exact ⟨a, rfl, h⟩
theorem Po.rd {f : Store → Option α} (h : Po K fb (M.rd f st) ok ex ι H) : ∃ a, f st = some a ∧ Po K fb (some (.ok a st)) ok ex ι H := by
  unfold M.rd at h
  cases q : f st with
  | none => rw [q] at h; exact h.elim
  | some a => rw [q] at h; exact ⟨a, rfl, h⟩
theorem Po.wr {f : Store → Option (α × Store)} (h : Po K fb (M.wr f st) ok ex ι H) : ∃ a st', f st = some (a, st') ∧ Po K fb (some (.ok a st')) ok ex ι H := by
  unfold M.wr at h
  cases q : f st with
  | none => rw [q] at h; exact h.elim
  | some p => obtain ⟨a, st'⟩ := p; rw [q] at h; exact ⟨a, st', rfl, h⟩
theorem Po.ite {c : Bool} {m1 m2 : M α} (h : Po K fb ((if c then m1 else m2) st) ok ex ι H) : if c = true then Po K fb (m1 st) ok ex ι H else Po K fb (m2 st) ok ex ι H := by
  cases c with
  | true => exact h
  | false => exact h
end
theorem Yl.of {K : PySem.W.Frag} {fb ι : List Addr} {st : Store} {d : D} {Q : VK} {H : Hp} {ex : D → Store → List Addr → Hp → Prop} (h : Po K fb (some (.ok d st)) (fun d _ ι' H' => ∀ v, Rel K H' fb ι' d v → Q v H') ex ι H) : Yl K fb ι st d Q H :=
  fun ι' H' g S v r => h ι' H' g S v r

/-! ### an own exception on its way -/
def RelX (mg : Str → Option Value) (e : D) (cls : Value) (dx : Option Addr) : Prop := ∃ c C, e = .exc c [] ∧ mg c = some (.ref C) ∧ cls = .ref C ∧ dx = none

/-- an expression's reading -/
def sE (X : Cx) (C : Ctx) (W : WX) (e : Ex) : TE := fun σ H Q => ∃ fb ι env st, RelE X.K H fb ι env σ ∧ RelS X.K H fb ι st ∧
  Po X.K fb (evE C e env st) (fun d _ ι' H' => ∀ v, Rel X.K H' fb ι' d v → Q v H') (fun e _ ι' H' => ∀ cls dx, RelX X.mg e cls dx → W cls dx σ H') ι H
def sT (X : Cx) (C : Ctx) (W : WX) (e : Ex) : TT := fun σ H Q => ∃ fb ι env st, RelE X.K H fb ι env σ ∧ RelS X.K H fb ι st ∧
  Po X.K fb ((evE C e env >>= asB) st) (fun b _ _ H' => Q b H') (fun e _ ι' H' => ∀ cls dx, RelX X.mg e cls dx → W cls dx σ H') ι H
def sA (X : Cx) (C : Ctx) (W : WX) (es : Exs) : TA := fun σ H Q => ∃ fb ι env st, RelE X.K H fb ι env σ ∧ RelS X.K H fb ι st ∧
  Po X.K fb (evA C es env st) (fun ds _ ι' H' => ∀ vs, Rels X.K H' fb ι' ds vs → Q vs H') (fun e _ ι' H' => ∀ cls dx, RelX X.mg e cls dx → W cls dx σ H') ι H
theorem PE.weaken {X : Cx} {e : Expr} {t t' : TE} (h : PE X e t) (w : ∀ σ H Q, t' σ H Q → t σ H Q) : PE X e t' := ⟨fun pins s σ H Q I q => h.run pins s σ H Q I (w σ H Q q)⟩
theorem PT.weaken {X : Cx} {e : Expr} {t t' : TT} (h : PT X e t) (w : ∀ σ H Q, t' σ H Q → t σ H Q) : PT X e t' := ⟨fun pins s σ H Q I q => h.run pins s σ H Q I (w σ H Q q)⟩
theorem PW.weaken {X : Cx} {e : Expr} {t t' : TT} (h : PW X e t) (w : ∀ σ H Q, t' σ H Q → t σ H Q) : PW X e t' := ⟨fun wh pins s σ H Q I q => h.run wh pins s σ H Q I (w σ H Q q)⟩
theorem PA.weaken {X : Cx} {e : List Expr} {t t' : TA} (h : PA X e t) (w : ∀ σ H Q, t' σ H Q → t σ H Q) : PA X e t' := ⟨fun pos pins s σ H Q I q => h.run pos pins s σ H Q I (w σ H Q q)⟩
theorem PS.weaken {X : Cx} {e : Stmt} {t t' : TS} (h : PS X e t) (w : ∀ D σ H, t' D σ H → t D σ H) : PS X e t' := ⟨fun pins s σ H D I q => h.run pins s σ H D I (w D σ H q)⟩
theorem PSs.weaken {X : Cx} {e : List Stmt} {t t' : TS} (h : PSs X e t) (w : ∀ D σ H, t' D σ H → t D σ H) : PSs X e t' := ⟨fun pins s σ H D I q => h.run pins s σ H D I (w D σ H q)⟩
theorem PI.weaken {X : Cx} {tg e : Expr} {t t' : TI} (h : PI X tg e t) (w : ∀ σ H R, t' σ H R → t σ H R) : PI X tg e t' := ⟨fun pins s σ H R I q => h.run pins s σ H R I (w σ H R q)⟩

/-! ### sources -/
/-- a source by values, what it walks locked where it is the store's own -/
def rSrc (X : Cx) (k : IK) (vs : List V) (H : Hp) (R : It → Hp → Prop) : Prop := ∃ fb ι st ds its n, RelS X.K H fb ι st ∧ Rels X.K H fb ι ds vs ∧ itD k ds st = some (its, n) ∧
  ((lkOf st n = none ∧ ∀ J, Src X.K fb ι H its J → R J H) ∨
   (∃ m a u, lkOf st n = some m ∧ ι[m]? = some a ∧ H a = some u ∧ Mut (some u) ∧ ((∀ o' u', X.H_0 a ≠ some (.frz o' u')) → ∀ od J, Src X.K fb ι (upd H a (.frz od u)) its J → R J (upd H a (.frz od u)))))
section
variable {K : PySem.W.Frag} {H : Hp} {fb ι : List Addr} {st : Store}
theorem src_tup {ds : List D} {xs : List V} {a : Addr} (S : RelS K H fb ι st) (h : H a = some (.tup xs)) (n : a ∉ ι) (r : Rels K H fb ι ds xs) : Src K fb ι H ds (Itt K a) := by
  refine src_same (G := fun H => SqT K H a xs) ?_ (fun ι' H' g => SqT.of (g.keep a _ h n)) r
  rw [r.length]
  exact walk_tup
theorem src_lst {ds : List D} {xs : List V} {a : Addr} (h : H a = some (.lst xs)) (n : a ∉ ι) (r : Rels K H fb ι ds xs) : Src K fb ι H ds (Itl K a) := by
  refine src_same (G := fun H => SqL K H a xs) ?_ (fun ι' H' g => SqL.of (g.keep a _ h n)) r
  rw [r.length]
  exact walk_list
theorem src_frz {ds : List D} {xs : List V} {a : Addr} {od : Obj} (h : H a = some (.frz od (.lst xs))) (r : Rels K H fb ι ds xs) : Src K fb ι H ds (Itl K a) := by
  refine src_same (G := fun H => SqL K H a xs) ?_ (fun ι' H' g => .inl (.inr ⟨od, g.frz a od _ h⟩)) r
  rw [r.length]
  exact walk_list
theorem src_str {x : Str} : Src K fb ι H (x.cps.toList.map fun c => .str ⟨#[c]⟩) (Its x) := by
  refine ⟨fun _ => True, fun i H v H' => H' = H ∧ ∃ c, x.cps[i]? = some c ∧ v = .str ⟨#[c]⟩, ?_, fun _ _ _ => trivial, ?_⟩
  · rw [List.length_map, Array.length_toList]
    exact walk_str
  · intro i v ι' H' H'' st' fb' hlt hf g S y
    obtain ⟨rfl, c, hc, rfl⟩ := y
    exact ⟨.str ⟨#[c]⟩, by simp [hc], Grow.refl, S, rfl⟩
theorem src_fn {J : It} {n : Nat} {G : Hp → Prop} {f : Nat → Int} (w : Walk J n G (YFn fun i => .int (f i))) (g : ∀ H, G H) : Src K fb ι H ((List.range n).map fun i => .int (f i)) J := by
  refine ⟨G, _, by rw [List.length_map, List.length_range]; exact w, fun _ H' _ => g H', ?_⟩
  intro i v ι' H' H'' st' fb' hlt hf gr S y
  obtain ⟨rfl, rfl⟩ := y
  rw [List.length_map, List.length_range] at hlt
  exact ⟨.int (f i), by simp [hlt], Grow.refl, S, rfl⟩
theorem src_pair {J : It} {its : List D} {G : Hp → Prop} {f g : Nat → Option V} {fd gd : Nat → D} (w : Walk J its.length G (YPair f g)) (hG : ∀ ι' H', Grow ι H ι' H' → G H') (hi : ∀ i, i < its.length → its[i]? = some (.tup [fd i, gd i]))
    (hff : ∀ i x ι' H' fb', i < its.length → (∀ a ∈ fb', a ∈ fb ∨ H a = none) → Grow ι H ι' H' → f i = some x → Rel K H' fb' ι' (fd i) x) (hgg : ∀ i x ι' H' fb', i < its.length → (∀ a ∈ fb', a ∈ fb ∨ H a = none) → Grow ι H ι' H' → g i = some x → Rel K H' fb' ι' (gd i) x) : Src K fb ι H its J := by
  refine ⟨G, _, w, hG, ?_⟩
  intro i v ι' H' H'' st' fb' hlt hf gr S y
  obtain ⟨T, x, y, rfl, hT, rfl, h1, h2⟩ := y
  refine ⟨_, hi i hlt, Grow.laid hT, S.laid hT, ?_⟩
  have r1 := hff i x ι' H' fb' hlt hf gr h1
  have r2 := hgg i y ι' H' fb' hlt hf gr h2
  exact rel_tup S hT ⟨x, [y], rfl, r1, y, [], rfl, r2, rfl⟩
theorem zipIdx_at {ds : List D} {i : Nat} (h : i < ds.length) : (ds.zipIdx.map fun p => D.tup [.int p.2, p.1])[i]? = some (.tup [.int i, ds.getD i .non]) := by
  simp [h, List.getD]
theorem rel_at {ds : List D} {xs : List V} {i : Nat} {x : V} (r : Rels K H fb ι ds xs) (h : xs[i]? = some x) : Rel K H fb ι (ds.getD i .non) x := by
  have hl : i < ds.length := by
    have := (List.getElem?_eq_some_iff.mp h).1
    rw [r.length]; exact this
  obtain ⟨v, h1, h2⟩ := r.get (i := i) (d := ds[i]) (by simp [hl])
  rw [h] at h1; cases h1
  simpa [List.getD, hl] using h2
theorem walk_enumT {K : PySem.W.Frag} {a : Addr} {xs : List V} : Walk (IteT K a) xs.length (fun H => SqT K H a xs) (YPair (fun i => some (.int (i : Nat))) (fun i => xs[i]?)) := by
  refine ⟨fun i _ hi q => ⟨xs, xs[i], q, by simp [hi]⟩, fun _ q => ⟨xs, q, rfl⟩, fun i H v H' _ q y => ?_⟩
  obtain ⟨T, x, h1, h2, h3, h4⟩ := y
  exact ⟨T, .int (i : Nat), x, h1, h2, h3, rfl, h4 xs q⟩
theorem src_enum {J : It} {ds : List D} {xs : List V} {G : Hp → Prop} (w : Walk J xs.length G (YPair (fun i => some (.int (i : Nat))) (fun i => xs[i]?))) (hG : ∀ ι' H', Grow ι H ι' H' → G H') (r : Rels K H fb ι ds xs) :
    Src K fb ι H (ds.zipIdx.map fun p => D.tup [.int p.2, p.1]) J := by
  have e : (ds.zipIdx.map fun p => D.tup [.int p.2, p.1]).length = xs.length := by simp [r.length]
  refine src_pair (fd := fun i => .int i) (gd := fun i => ds.getD i .non) (by rw [e]; exact w) hG (fun i hi => zipIdx_at (by rw [e] at hi; rw [r.length]; exact hi)) ?_ ?_
  · intro i x ι' H' fb' _ _ _ h; cases h; rfl
  · intro i x ι' H' fb' _ hf g h
    exact rel_at (Rels.mono g ds xs (r.mvfb hf)) h
theorem walk_zipT {K : PySem.W.Frag} {a b : Addr} {xs ys : List V} {n : Nat} (hn : n = min xs.length ys.length) : Walk (RZ.ItzT K a b) n (fun H => SqT K H a xs ∧ SqT K H b ys) (YPair (fun i => xs[i]?) (fun i => ys[i]?)) := by
  subst hn
  refine ⟨fun i _ hi q => ?_, fun _ q => ⟨xs, ys, q.1, q.2, by omega⟩, fun i H v H' _ q y => ?_⟩
  · have h1 : i < xs.length := by omega
    have h2 : i < ys.length := by omega
    exact ⟨xs, ys, xs[i], ys[i], q.1, q.2, by simp [h1], by simp [h2]⟩
  · obtain ⟨T, x, z, h1, h2, h3, h4, h5⟩ := y
    exact ⟨T, x, z, h1, h2, h3, h4 xs q.1, h5 ys q.2⟩
theorem src_zip {J : It} {ds es : List D} {xs ys : List V} {G : Hp → Prop} (w : Walk J (min xs.length ys.length) G (YPair (fun i => xs[i]?) (fun i => ys[i]?))) (hG : ∀ ι' H', Grow ι H ι' H' → G H') (r : Rels K H fb ι ds xs) (q : Rels K H fb ι es ys) :
    Src K fb ι H ((ds.zip es).map fun p => D.tup [p.1, p.2]) J := by
  have e : ((ds.zip es).map fun p => D.tup [p.1, p.2]).length = min xs.length ys.length := by simp [r.length, q.length]
  refine src_pair (fd := fun i => ds.getD i .non) (gd := fun i => es.getD i .non) (by rw [e]; exact w) hG (fun i hi => ?_) ?_ ?_
  · rw [e, ← r.length, ← q.length] at hi
    have h1 : i < ds.length := by omega
    have h2 : i < es.length := by omega
    simp [List.getD, h1, h2, List.getElem?_zip_eq_some]
  · intro i x ι' H' fb' _ hf g h
    exact rel_at (Rels.mono g ds xs (r.mvfb hf)) h
  · intro i x ι' H' fb' _ hf g h
    exact rel_at (Rels.mono g es ys (q.mvfb hf)) h
end
/-! ### sources in the text -/
section
variable {X : Cx} {tg : Expr}
/-- a walked value -/
theorem it_val {pins : List (Addr × Obj)} {σ : L2.St} {H : Hp} {s : Shared} {x : V} {v : Value} {R : It → Hp → Prop} (I : L2.Inv X pins σ H s) (r : L2.RelV x v) (h : rSrc X .val [x] H R) :
    wpAny (model X.prog X.w) X.A (pyIter v) (PIE X pins σ tg R) X.xe s := by
  obtain ⟨fb, ι, st, ds, its, n, S, hd, e, h⟩ := h
  have goL : ∀ {H2 : Hp} {a : Addr} {xs : List V}, L2.Inv X pins σ H2 s → v = .ref a → SqL X.K H2 a xs → R (Itl X.K a) H2 → wpAny (model X.prog X.w) X.A (pyIter v) (PIE X pins σ tg R) X.xe s := fun {H2 a xs} I2 ev hq q => by
    subst ev
    obtain ⟨its, rv, p, hz⟩ := I2.list hq
    refine wpAny_pyIter_list p.isList ?_
    refine ⟨s.heap.objs.size, [s.heap.objs.size], _, _, H2, rfl, I2.kept (t' := s.toks) fun b o e => Heap.get?_push_of_some _ e, turn_list a _, ⟨_, Heap.get?_push_size _ rfl, rfl, rfl⟩, fun b hb => ?_, q⟩
    have e : b = s.heap.objs.size := by simpa using hb
    subst e
    exact I2.fpOk (Nat.le_refl _) (I2.hok.fresh (Nat.le_refl _))
  replace e : itVal ds st = some (its, n) := e
  unfold itVal at e
  split at e
  · rename_i es
    cases e
    obtain ⟨y, ey, hx⟩ := rels1 hd
    cases ey
    obtain ⟨a, xs, rfl, q, na, _, rr⟩ := hx
    cases r
    rcases h with ⟨_, h⟩ | ⟨m, a, u, hm, _⟩
    · obtain ⟨its, rv, p, hz⟩ := I.tuple (SqT.of q)
      refine wpAny_pyIter_tuple (show s.heap.IsTuple a its.toArray from p) ?_
      refine ⟨s.heap.objs.size, [s.heap.objs.size], _, _, H, rfl, I.kept (t' := s.toks) fun b o e => Heap.get?_push_of_some _ e, turn_tuple a _, ⟨_, Heap.get?_push_size _ rfl, rfl, rfl⟩, fun b hb => ?_, h _ (src_tup S q na rr)⟩
      have e : b = s.heap.objs.size := by simpa using hb
      subst e
      exact I.fpOk (Nat.le_refl _) (I.hok.fresh (Nat.le_refl _))
    · cases hm
  · rename_i es
    cases e
    obtain ⟨y, ey, hx⟩ := rels1 hd
    cases ey
    obtain ⟨a, xs, rfl, q, na, _, rr⟩ := hx
    rcases h with ⟨_, h⟩ | ⟨m, a, u, hm, _⟩
    · exact goL I r (SqL.of q) (h _ (src_lst q na rr))
    · cases hm
  · rename_i z
    cases e
    obtain ⟨y, ey, hx⟩ := rels1 hd
    cases ey
    cases hx
    rcases h with ⟨_, h⟩ | ⟨m, a, u, hm, _⟩
    · obtain ⟨t, rfl⟩ := r
      have q := h _ (src_str (K := X.K) (fb := fb) (ι := ι) (H := H) (x := z))
      cases ha : z.cps.all (· < 128)
      · exact wpAny_pyIter_wide ha (pi_one (tk := s.toks) I _ (turn_str _ z t "str_iterator" (.inr rfl)) ⟨_, Heap.get?_push_size _ rfl, rfl, rfl⟩ q)
      · exact wpAny_pyIter_ascii ha (pi_one (tk := s.toks) I _ (turn_str _ z t "str_ascii_iterator" (.inl rfl)) ⟨_, Heap.get?_push_size _ rfl, rfl, rfl⟩ q)
    · cases hm
  · rename_i k
    obtain ⟨y, ey, hx⟩ := rels1 hd
    cases ey
    obtain ⟨a, rfl, hi⟩ := hx
    cases hk : st[k]? with
    | none => rw [hk] at e; cases e
    | some o =>
      rw [hk] at e
      cases o with
      | dic l d ks vs => cases e
      | lst l es =>
        cases e
        have ro := S.at_ k _ a hk hi
        cases l with
        | true =>
          obtain ⟨od, xs, h1, h2⟩ := ro
          rcases h with ⟨_, h⟩ | ⟨m, a', u, hm, _⟩
          · exact goL I r (.inl (.inr ⟨od, h1⟩)) (h _ (src_frz h1 h2))
          · simp [lkOf, hk, Ob.locked] at hm
        | false =>
          obtain ⟨xs, h1, h2⟩ := ro
          rcases h with ⟨hm, h⟩ | ⟨m, a', u, hm, hi', hu, mu, h⟩
          · simp [lkOf, hk, Ob.locked] at hm
          · have em : m = k := by simpa [lkOf, hk, Ob.locked] using hm.symm
            subst em
            rw [hi] at hi'; cases hi'
            rw [h1] at hu; cases hu
            obtain ⟨od, I2⟩ := I.lock h1 trivial
            refine goL I2 r (.inl (.inr ⟨od, upd_same⟩)) (h (I.nofrz h1 trivial) od _ ?_)
            exact src_frz (xs := xs) upd_same (Rels.mono (Grow.wr (List.mem_of_getElem? hi) h1 (fun _ _ z => nomatch z)) _ _ h2)
  · cases e
end
end Wk

set_option maxRecDepth 100000
set_option maxHeartbeats 1000000
/-! Wk8: each construct of an expression. -/
namespace Wk
open PySem PySem.Spec PyProof.Rows L2

/-! ### a def's promise -/
structure FnG (P : Program) (w : World) (K : PySem.W.Frag) (mg : Str → Option Value) (base : Heap) (k : Nat) (f : Addr) (fd : FuncData) (ps : List Str) (sp : Sp) : Prop where
  len : ∀ vs H Q E, sp vs H Q E → vs.length = ps.length
  run : ∀ (A : Around) (outer : List PySem.Env) (s : Shared) (H : Hp) (args : Args) (us : List Value) (vs : List V) (Q : VK) (E : XK), Room k A → A.guards = some [] → Env0 P w K mg base A outer s H →
    BindsTo s fd args (ps.zip us) → Vals vs us → sp vs H Q E → codeAny (model P w) A (.call (.ref f) args) (CR (L2.CX P w) outer P w H s Q E) s
/-- what the n-argument def f of the text keeps: it yields as C.call says -/
def spOf (K : PySem.W.Frag) (mg : Str → Option Value) (C : Ctx) (f : Str) : Sp := fun vs H Q E => ∃ fb ι st ds, RelS K H fb ι st ∧ Rels K H fb ι ds vs ∧
  Po K fb (C.call f ds st) (fun d _ ι' H' => ∀ v, Rel K H' fb ι' d v → Q v H') (fun e _ ι' H' => ∀ cls dx, RelX mg e cls dx → E cls dx H') ι H
/-- the text's tables -/
structure Pr where
  fns : Str → Option Fn
  globs : Str → Option D
  blts : List Str
  excs : List Str
structure Txt (G : Pr) (P : Program) (w : World) (K : PySem.W.Frag) (mg : Str → Option Value) (base : Heap) (C : Ctx) (k : Nat) : Prop where
  fn : ∀ f F, G.fns f = some F → ∃ fa fd ps, ps.length = F.p ∧ mg f = some (.ref fa) ∧ PySem.W.keepIn K (.ref fa) = true ∧ Binds K fd ps [] ∧ FnG P w K mg base k fa fd ps (spOf K mg C f)
  blt : ∀ b ∈ G.blts, mg b = none
  glo : ∀ x d, C.glob x = some d → ∃ v u, mg x = some u ∧ L2.RelV v u ∧ ∀ H fb ι, Rel K H fb ι d v
  exc : ∀ c ∈ G.excs, ∃ Ca, mg c = some (.ref Ca) ∧ PySem.W.excIn K Ca He.veBase "ValueError.__new__" = true ∧ PySem.W.keepIn K (.ref Ca) = true ∧ PySem.W.subIn K (.ref Ca) (.type "BaseException") = some true ∧ PySem.W.typeIn K (.ref Ca) = some (.type "type")
structure Cok (G : Pr) (X : Cx) (C : Ctx) (W : WX) (k : Nat) : Prop where
  calm : X.calm = true
  nd : X.N.Nodup
  gd : X.A.guards = some []
  room : Room k X.A
  tk : Takes X W
  txt : Txt G X.prog X.w X.K X.mg X.base C k
theorem Cok.hu {G : Pr} {X : Cx} {C : Ctx} {W : WX} {k : Nat} (h : Cok G X C W k) : X.A.units + 200 < cLine := by have := h.room.un; omega

section
variable {G : Pr} {X : Cx} {C : Ctx} {W : WX} {k : Nat}
abbrev okE (K : PySem.W.Frag) (fb : List Addr) (Q : VK) : D → Store → List Addr → Hp → Prop := fun d _ ι' H' => ∀ v, Rel K H' fb ι' d v → Q v H'
abbrev exE (mg : Str → Option Value) (W : WX) (σ : L2.St) : D → Store → List Addr → Hp → Prop := fun e _ _ H' => ∀ cls dx, RelX mg e cls dx → W cls dx σ H'
theorem retE {K : PySem.W.Frag} {fb ι : List Addr} {st : Store} {H : Hp} {d : D} {Q : VK} {ex : D → Store → List Addr → Hp → Prop} {v : V} (h : Po K fb ((pure d : M D) st) (okE K fb Q) ex ι H) (S : RelS K H fb ι st) (r : Rel K H fb ι d v) : Q v H := h ι H Grow.refl S v r
/-- one part, then f -/
theorem s_bind1 {ex a : Ex} {f : D → M D} (hev : ∀ env, evE C ex env = evE C a env >>= f) {σ : L2.St} {H : Hp} {Q : VK} (h : sE X C W ex σ H Q) :
    sE X C W a σ H fun x H1 => ∃ fb ι st dx, RelS X.K H1 fb ι st ∧ Rel X.K H1 fb ι dx x ∧ Po X.K fb (f dx st) (okE X.K fb Q) (exE X.mg W σ) ι H1 := by
  obtain ⟨fb, ι, env, st, he, hs, hp⟩ := h
  rw [hev] at hp
  exact ⟨fb, ι, env, st, he, hs, hp.bind.mono (fun d st1 ι1 H1 g S q v r => ⟨fb, ι1, st1, d, S, r, q⟩) fun _ _ _ _ _ _ q => q⟩
/-- two parts, then f -/
theorem s_bind2 {ex a b : Ex} {f : D → D → M D} (hev : ∀ env, evE C ex env = evE C a env >>= fun x => evE C b env >>= fun y => f x y) {σ : L2.St} {H : Hp} {Q : VK} (h : sE X C W ex σ H Q) :
    sE X C W a σ H fun x H1 => sE X C W b σ H1 fun y H2 => ∃ fb ι st dx dy, RelS X.K H2 fb ι st ∧ Rel X.K H2 fb ι dx x ∧ Rel X.K H2 fb ι dy y ∧ Po X.K fb (f dx dy st) (okE X.K fb Q) (exE X.mg W σ) ι H2 := by
  obtain ⟨fb, ι, env, st, he, hs, hp⟩ := h
  rw [hev] at hp
  exact ⟨fb, ι, env, st, he, hs, hp.bind.mono (fun d st1 ι1 H1 g S q v r => ⟨fb, ι1, env, st1, he.mono g, S, q.bind.mono (fun d2 st2 ι2 H2 g2 S2 q2 v2 r2 => ⟨fb, ι2, st2, d, d2, S2, r.mono g2, r2, q2⟩) fun _ _ _ _ _ _ q => q⟩) fun _ _ _ _ _ _ q => q⟩
theorem s_cst {c : D} {v : V} {e : Expr} (hv : ∀ K H fb ι, Rel K H fb ι c v) (he : PE X e (tC v)) : PE X e (sE X C W (.cst c)) :=
  PE.weaken he fun σ H Q ⟨fb, ι, env, st, hE, hS, hp⟩ => hp.ret hS v (hv _ _ _ _)
theorem s_var {i : Nat} {x : Str} {pos : Pos} (hN : X.N[i]? = some x) (hv : Vis X.env.scope x) (hd : (x == ("__debug__" : Str)) = false) (hcd : (x == ("__classdict__" : Str)) = false) : PE X (.Name x pos) (sE X C W (.var i)) :=
  PE.weaken (pe_var (i := i) hN hv hd hcd) fun σ H Q ⟨fb, ι, env, st, hE, hS, hp⟩ => by
    obtain ⟨d, e, q⟩ := Po.of hp
    have e : env[i]? = some (some d) := by
      cases h : env[i]? with
      | none => rw [h] at e; cases e
      | some o => rw [h] at e; have : o = some d := e; rw [this]
    obtain ⟨v, h1, h2⟩ := hE.2 i d e
    exact ⟨v, h1, q ι H Grow.refl hS v h2⟩
theorem s_gst (ok : Cok G X C W k) {x : Str} {pos : Pos} (hg : Gl X x) (hd : (x == ("__debug__" : Str)) = false) : PE X (.Name x pos) (sE X C W (.gst x)) := by
  cases h : C.glob x with
  | none => exact ⟨fun pins s σ H Q I ⟨fb, ι, env, st, hE, hS, hp⟩ => by
      obtain ⟨d, e, q⟩ := Po.of hp
      rw [h] at e; cases e⟩
  | some d =>
    obtain ⟨v, u, h1, h2, h3⟩ := ok.txt.glo x d h
    refine PE.weaken (pe_glob hg h1 h2 hd) fun σ H Q ⟨fb, ι, env, st, hE, hS, hp⟩ => ?_
    obtain ⟨d', e, q⟩ := Po.of hp
    rw [h] at e; cases e
    exact q ι H Grow.refl hS v (h3 _ _ _)
theorem sE.mono {a : Ex} {σ : L2.St} {H : Hp} {Q Q' : VK} (h : sE X C W a σ H Q) (m : ∀ x H1, Q x H1 → Q' x H1) : sE X C W a σ H Q' := by
  obtain ⟨fb, ι, env, st, he, hs, hp⟩ := h
  exact ⟨fb, ι, env, st, he, hs, hp.mono (fun d st1 ι1 H1 g S q v r => m v H1 (q v r)) fun _ _ _ _ _ _ q => q⟩
theorem sA.mono {a : Exs} {σ : L2.St} {H : Hp} {Q Q' : List V → Hp → Prop} (h : sA X C W a σ H Q) (m : ∀ x H1, Q x H1 → Q' x H1) : sA X C W a σ H Q' := by
  obtain ⟨fb, ι, env, st, he, hs, hp⟩ := h
  exact ⟨fb, ι, env, st, he, hs, hp.mono (fun d st1 ι1 H1 g S q v r => m v H1 (q v r)) fun _ _ _ _ _ _ q => q⟩
theorem s_bin {o : Operator} {a b : Ex} {a' b' : Expr} {pos : Pos} (ha : PE X a' (sE X C W a)) (hb : PE X b' (sE X C W b)) : PE X (.BinOp a' o b' pos) (sE X C W (.bin o a b)) :=
  PE.weaken (pe_op op_bin ha hb) fun σ H Q h =>
    (s_bind2 (f := fun x y => .rd (binD o x y)) (fun _ => rfl) h).mono fun x H1 q => q.mono fun y H2 ⟨fb, ι, st, dx, dy, S, rx, ry, q⟩ => by
      obtain ⟨d, e, q⟩ := q.rd
      exact ⟨fb, ι, st, dx, dy, d, S, rx, ry, e, Yl.of q⟩
theorem s_neg {a : Ex} {a' : Expr} {pos : Pos} (ha : PE X a' (sE X C W a)) : PE X (.UnaryOp .USub a' pos) (sE X C W (.neg a)) :=
  PE.weaken (pe_un un_neg ha) fun σ H Q h =>
    (s_bind1 (f := fun x => match x with
      | .int i => pure (.int (-i))
      | _ => .no) (fun _ => rfl) h).mono fun x H1 ⟨fb, ι, st, dx, S, rx, q⟩ => by
      cases dx with
      | int i => cases rx; exact ⟨i, rfl, q.ret S _ rfl⟩
      | _ => exact q.elim
theorem s_cmp (ok : Cok G X C W k) {o : CmpOp} {a b : Ex} {a' b' : Expr} {pos : Pos} (ha : PE X a' (sE X C W a)) (hb : PE X b' (sE X C W b)) (hm : behindInMarks o b' = false) : PE X (.Compare a' [o] [b'] pos) (sE X C W (.cmp o a b)) :=
  PE.weaken (pe_cmpR (op_cmpD ok.hu) ha hb hm) fun σ H Q h =>
    (s_bind2 (f := fun x y => .rd fun st => (cmpD o x y st).map .bl) (fun _ => rfl) h).mono fun x H1 q => q.mono fun y H2 ⟨fb, ι, st, dx, dy, S, rx, ry, q⟩ => by
      obtain ⟨d, e, q⟩ := q.rd
      exact ⟨fb, ι, st, dx, dy, d, S, rx, ry, e, Yl.of q⟩
/-- a bool at a yield -/
theorem asB_ok {α : Type} {K : PySem.W.Frag} {fb : List Addr} {d : D} {f : Bool → M α} {st : Store} {ok : α → Store → List Addr → Hp → Prop} {ex : D → Store → List Addr → Hp → Prop} {ι : List Addr} {H : Hp}
    (h : Po K fb ((asB d >>= f) st) ok ex ι H) : ∃ b, d = .bl b ∧ Po K fb (f b st) ok ex ι H := by
  cases d with
  | bl b => exact ⟨b, rfl, h⟩
  | _ => exact h.elim
theorem sT_of {a : Ex} {σ : L2.St} {H : Hp} {Q : Bool → Hp → Prop} (h : sT X C W a σ H Q) : sE X C W a σ H fun x H1 => ∃ b, x = .bl b ∧ Q b H1 := by
  obtain ⟨fb, ι, env, st, he, hs, hp⟩ := h
  refine ⟨fb, ι, env, st, he, hs, hp.bind.mono (fun d st1 ι1 H1 g S q v r => ?_) fun _ _ _ _ _ _ q => q⟩
  cases d with
  | bl b => cases r; exact ⟨b, rfl, Po.ret (a := b) q S⟩
  | _ => exact q.elim
/-- the rest behind a part, the names as they were -/
theorem s_seq {ex a : Ex} {f : D → Env → M D} (hev : ∀ env, evE C ex env = evE C a env >>= fun x => f x env) {σ : L2.St} {H : Hp} {Q : VK} (h : sE X C W ex σ H Q) :
    sE X C W a σ H fun x H1 => ∃ fb ι env st dx, RelE X.K H1 fb ι env σ ∧ RelS X.K H1 fb ι st ∧ Rel X.K H1 fb ι dx x ∧ Po X.K fb (f dx env st) (okE X.K fb Q) (exE X.mg W σ) ι H1 := by
  obtain ⟨fb, ι, env, st, he, hs, hp⟩ := h
  rw [hev] at hp
  exact ⟨fb, ι, env, st, he, hs, hp.bind.mono (fun d st1 ι1 H1 g S q v r => ⟨fb, ι1, env, st1, d, he.mono g, S, r, q⟩) fun _ _ _ _ _ _ q => q⟩
theorem s_and {a b : Ex} {a' b' : Expr} {rest : List Expr} {pos : Pos} (ha : PE X a' (sE X C W a)) (hb : PE X (.BoolOp .And (b' :: rest) pos) (sE X C W b)) : PE X (.BoolOp .And (a' :: b' :: rest) pos) (sE X C W (.and a b)) :=
  PE.weaken (pe_and ha hb) fun σ H Q h =>
    (s_seq (f := fun x env => asB x >>= fun r => if r then evE C b env else pure (.bl false)) (fun _ => rfl) h).mono fun x H1 ⟨fb, ι, env, st, dx, he, S, rx, q⟩ => by
      obtain ⟨c, rfl, q⟩ := asB_ok q
      cases rx
      refine ⟨c, rfl, ?_⟩
      cases c with
      | true => exact ⟨fb, ι, env, st, he, S, q⟩
      | false => exact retE (d := .bl false) q S rfl
theorem s_or {a b : Ex} {a' b' : Expr} {rest : List Expr} {pos : Pos} (ha : PE X a' (sE X C W a)) (hb : PE X (.BoolOp .Or (b' :: rest) pos) (sE X C W b)) : PE X (.BoolOp .Or (a' :: b' :: rest) pos) (sE X C W (.or a b)) :=
  PE.weaken (pe_or ha hb) fun σ H Q h =>
    (s_seq (f := fun x env => asB x >>= fun r => if r then pure (.bl true) else evE C b env) (fun _ => rfl) h).mono fun x H1 ⟨fb, ι, env, st, dx, he, S, rx, q⟩ => by
      obtain ⟨c, rfl, q⟩ := asB_ok q
      cases rx
      refine ⟨c, rfl, ?_⟩
      cases c with
      | false => exact ⟨fb, ι, env, st, he, S, q⟩
      | true => exact retE (d := .bl true) q S rfl
theorem s_not {a : Ex} {a' : Expr} {pos : Pos} (ha : PE X a' (sE X C W a)) : PE X (.UnaryOp .Not a' pos) (sE X C W (.not a)) :=
  PE.weaken (pe_not ha) fun σ H Q h =>
    (s_bind1 (f := fun x => asB x >>= fun r => pure (.bl (!r))) (fun _ => rfl) h).mono fun x H1 ⟨fb, ι, st, dx, S, rx, q⟩ => by
      obtain ⟨c, rfl, q⟩ := asB_ok q
      cases rx
      exact ⟨c, rfl, retE (d := .bl (!c)) q S rfl⟩
theorem s_one {op} {a : Ex} {a' : Expr} {pos : Pos} (ha : PE X a' (sE X C W a)) : PE X (.BoolOp op [a'] pos) (sE X C W a) := pe_one ha
/-- as tests -/
theorem sT.mono {a : Ex} {σ : L2.St} {H : Hp} {Q Q' : Bool → Hp → Prop} (h : sT X C W a σ H Q) (m : ∀ x H1, Q x H1 → Q' x H1) : sT X C W a σ H Q' := by
  obtain ⟨fb, ι, env, st, he, hs, hp⟩ := h
  exact ⟨fb, ι, env, st, he, hs, hp.mono (fun d st1 ι1 H1 g S q => m d H1 q) fun _ _ _ _ _ _ q => q⟩
theorem t_seq {ex a : Ex} {f : Bool → Env → M D} (hev : ∀ env, evE C ex env = evE C a env >>= fun x => asB x >>= fun r => f r env) {σ : L2.St} {H : Hp} {Q : Bool → Hp → Prop} (h : sT X C W ex σ H Q) :
    sT X C W a σ H fun r H1 => ∃ fb ι env st, RelE X.K H1 fb ι env σ ∧ RelS X.K H1 fb ι st ∧ Po X.K fb ((f r env >>= asB) st) (fun b _ _ H' => Q b H') (exE X.mg W σ) ι H1 := by
  obtain ⟨fb, ι, env, st, he, hs, hp⟩ := h
  rw [hev] at hp
  have e : ((evE C a env >>= fun x => asB x >>= fun r => f r env) >>= asB) st = ((evE C a env >>= asB) >>= fun r => f r env >>= asB) st := by
    show M.bind (M.bind _ _) _ st = M.bind (M.bind _ _) _ st
    unfold M.bind
    cases q : evE C a env st with
    | none => simp
    | some o =>
      cases o with
      | ex e' st' => simp
      | ok d st' =>
        cases d with
        | bl b => rfl
        | _ => rfl
  rw [e] at hp
  exact ⟨fb, ι, env, st, he, hs, hp.bind.mono (fun d st1 ι1 H1 g S q => ⟨fb, ι1, env, st1, he.mono g, S, q⟩) fun _ _ _ _ _ _ q => q⟩
theorem t_and {a b : Ex} {a' b' : Expr} {rest : List Expr} {pos : Pos} (ha : PT X a' (sT X C W a)) (hb : PW X (.BoolOp .And (b' :: rest) pos) (sT X C W b)) : PW X (.BoolOp .And (a' :: b' :: rest) pos) (sT X C W (.and a b)) :=
  PW.weaken (pw_and ha hb) fun σ H Q h =>
    (t_seq (f := fun r env => if r then evE C b env else pure (.bl false)) (fun _ => rfl) h).mono fun c H1 ⟨fb, ι, env, st, he, S, q⟩ => by
      cases c with
      | true => exact ⟨fb, ι, env, st, he, S, q⟩
      | false => exact Po.ret (a := false) q S
theorem t_or {a b : Ex} {a' b' : Expr} {rest : List Expr} {pos : Pos} (ha : PT X a' (sT X C W a)) (hb : PW X (.BoolOp .Or (b' :: rest) pos) (sT X C W b)) : PW X (.BoolOp .Or (a' :: b' :: rest) pos) (sT X C W (.or a b)) :=
  PW.weaken (pw_or ha hb) fun σ H Q h =>
    (t_seq (f := fun r env => if r then pure (.bl true) else evE C b env) (fun _ => rfl) h).mono fun c H1 ⟨fb, ι, env, st, he, S, q⟩ => by
      cases c with
      | false => exact ⟨fb, ι, env, st, he, S, q⟩
      | true => exact Po.ret (a := true) q S
theorem t_not {a : Ex} {a' : Expr} {pos : Pos} (ha : PT X a' (sT X C W a)) : PT X (.UnaryOp .Not a' pos) (sT X C W (.not a)) :=
  PT.weaken (pt_not ha) fun σ H Q h =>
    (t_seq (f := fun r env => pure (.bl (!r))) (fun _ => rfl) h).mono fun c H1 ⟨fb, ι, env, st, he, S, q⟩ => Po.ret (a := (!c)) q S
theorem t_val {a : Ex} {e : Expr} (h : PE X e (sE X C W a)) (he : ∀ whole, isTrue e X.env whole = (do let v ← whole; standAt e.pos; holding [v] (truthy v))) : PT X e (sT X C W a) :=
  PT.weaken (pt_val h he) fun σ H Q q => sT_of q
theorem t_cmp (ok : Cok G X C W k) {o : CmpOp} {a b : Ex} {a' b' : Expr} {pos : Pos} (ha : PE X a' (sE X C W a)) (hb : PE X b' (sE X C W b)) (hm : behindInMarks o b' = false) : PT X (.Compare a' [o] [b'] pos) (sT X C W (.cmp o a b)) :=
  PT.weaken (pt_cmpR (op_cmpD ok.hu) ha hb hm) fun σ H Q h =>
    (s_bind2 (f := fun x y => .rd fun st => (cmpD o x y st).map .bl) (fun _ => rfl) (sT_of h)).mono fun x H1 q => q.mono fun y H2 ⟨fb, ι, st, dx, dy, S, rx, ry, q⟩ => by
      obtain ⟨d, e, q⟩ := q.rd
      exact ⟨fb, ι, st, dx, dy, d, S, rx, ry, e, Yl.of q⟩
theorem s_cmp2F (ok : Cok G X C W k) {o o' : CmpOp} {a b c : Ex} {σ : L2.St} {H : Hp} {Q : VK} (h : sE X C W (.cmp2 o o' a b c) σ H Q) : tChain (rCmp X.K o) (rCmp X.K o') (sE X C W a) (sE X C W b) (sE X C W c) σ H Q := by
  obtain ⟨fb, ι, env, st, he, hs, hp⟩ := h
  refine ⟨fb, ι, env, st, he, hs, (Po.bind (m := evE C a env) hp).mono (fun dx st1 ι1 H1 g1 S1 q v r => ?_) fun _ _ _ _ _ _ q => q⟩
  refine ⟨fb, ι1, env, st1, he.mono g1, S1, q.bind.mono (fun dy st2 ι2 H2 g2 S2 q v2 r2 => ?_) fun _ _ _ _ _ _ q => q⟩
  obtain ⟨b1, e1, q⟩ := (Po.bind q).rd
  refine ⟨fb, ι2, st2, dx, dy, .bl b1, S2, r.mono g2, r2, by show Option.map D.bl (cmpD o dx dy st2) = _; rw [e1]; rfl, fun ι3 H3 g3 S3 v3 r3 => ?_⟩
  cases r3
  refine ⟨b1, rfl, ?_⟩
  have q := q ι3 H3 g3 S3
  cases b1 with
  | false =>
    rw [if_neg Bool.false_ne_true]
    exact retE (d := .bl false) q S3 rfl
  | true =>
    rw [if_pos rfl]
    refine ⟨fb, ι3, env, st2, ((he.mono g1).mono g2).mono g3, S3, (Po.bind (m := evE C c env) q).mono (fun dz st4 ι4 H4 g4 S4 q v4 r4 => ?_) fun _ _ _ _ _ _ q => q⟩
    obtain ⟨d, e, q⟩ := q.rd
    exact ⟨fb, ι4, st4, dy, dz, d, S4, (r2.mono g3).mono g4, r4, e, Yl.of q⟩
theorem s_cmp2 (ok : Cok G X C W k) {o o' : CmpOp} {a b c : Ex} {a' b' c' : Expr} {pos : Pos} (ha : PE X a' (sE X C W a)) (hb : PE X b' (sE X C W b)) (hc : PE X c' (sE X C W c)) (hm : lastMarks [o, o'] [b', c'] = false) :
    PE X (.Compare a' [o, o'] [b', c'] pos) (sE X C W (.cmp2 o o' a b c)) :=
  PE.weaken (pe_chain (op_cmpD ok.hu) (op_cmpD ok.hu) ha hb hc hm) fun σ H Q h => s_cmp2F ok h
theorem t_cmp2 (ok : Cok G X C W k) {o o' : CmpOp} {a b c : Ex} {a' b' c' : Expr} {pos : Pos} (ha : PE X a' (sE X C W a)) (hb : PE X b' (sE X C W b)) (hc : PE X c' (sE X C W c)) (hm : lastMarks [o, o'] [b', c'] = false) :
    PT X (.Compare a' [o, o'] [b', c'] pos) (sT X C W (.cmp2 o o' a b c)) :=
  PT.weaken (pt_chain (op_cmpD ok.hu) (op_cmpD ok.hu) ha hb hc hm) fun σ H Q h => s_cmp2F ok (sT_of h)
theorem s_ife {c a b : Ex} {c' a' b' : Expr} {pos : Pos} (hc : PT X c' (sT X C W c)) (ha : PE X a' (sE X C W a)) (hb : PE X b' (sE X C W b)) : PE X (.IfExp c' a' b' pos) (sE X C W (.ife c a b)) :=
  PE.weaken (pe_ifExp hc ha hb) fun σ H Q h => by
    obtain ⟨fb, ι, env, st, he, hs, hp⟩ := h
    have e : (evE C c env >>= fun x => asB x >>= fun r => if r then evE C a env else evE C b env) st = ((evE C c env >>= asB) >>= fun r => if r then evE C a env else evE C b env) st := by
      show M.bind _ _ st = M.bind (M.bind _ _) _ st
      unfold M.bind
      cases q : evE C c env st with
      | none => simp
      | some o =>
        cases o with
        | ex e' st' => simp
        | ok d st' => cases d <;> rfl
    have hp : Po X.K fb ((evE C c env >>= fun x => asB x >>= fun r => if r then evE C a env else evE C b env) st) (okE X.K fb Q) (exE X.mg W σ) ι H := hp
    rw [e] at hp
    refine ⟨fb, ι, env, st, he, hs, hp.bind.mono (fun r st1 ι1 H1 g S q => ?_) fun _ _ _ _ _ _ q => q⟩
    cases r with
    | true => exact ⟨fb, ι1, env, st1, he.mono g, S, q⟩
    | false => exact ⟨fb, ι1, env, st1, he.mono g, S, q⟩
/-! ### argument lists, displays -/
theorem a_nil : PA X [] (sA X C W .nil) := PA.weaken pa_nil fun σ H Q ⟨fb, ι, env, st, hE, hS, hp⟩ => hp.ret hS [] rfl
theorem a_cons {e : Ex} {r : Exs} {e' : Expr} {es : List Expr} (he : PE X e' (sE X C W e)) (hr : PA X es (sA X C W r)) (hs : starEach (e' :: es) X.env = (false, eval e' X.env) :: starEach es X.env) : PA X (e' :: es) (sA X C W (.cons false e r)) :=
  PA.weaken (pa_cons he hr hs) fun σ H Q ⟨fb, ι, env, st, hE, hS, hp⟩ => by
    refine ⟨fb, ι, env, st, hE, hS, (Po.bind (m := evE C e env) hp).mono (fun d st1 ι1 H1 g S q v rv => ?_) fun _ _ _ _ _ _ q => q⟩
    refine ⟨fb, ι1, env, st1, hE.mono g, S, (Po.bind (m := evA C r env) q).mono (fun ds st2 ι2 H2 g2 S2 q vs rs => ?_) fun _ _ _ _ _ _ q => q⟩
    exact Po.ret (a := (d :: ds)) q S2 _ ⟨v, vs, rfl, rv.mono g2, rs⟩
theorem a_star {e : Ex} {r : Exs} {e' : Expr} {es : List Expr} {p : Pos} (he : PE X e' (sE X C W e)) (hr : PA X es (sA X C W r)) : PA X (.Starred e' p :: es) (sA X C W (.cons true e r)) :=
  PA.weaken (StX.pa_star he hr) fun σ H Q ⟨fb, ι, env, st, hE, hS, hp⟩ => by
    refine ⟨fb, ι, env, st, hE, hS, (Po.bind (m := evE C e env) hp).mono (fun d st1 ι1 H1 g S q v rv => ?_) fun _ _ _ _ _ _ q => q⟩
    obtain ⟨ys, ey, q⟩ := (Po.bind q).rd
    obtain ⟨a, xs, rfl, hx, rx⟩ := sq_of S rv ey
    have q := q ι1 H1 Grow.refl S
    refine ⟨a, xs, rfl, hx.symm, fb, ι1, env, st1, hE.mono g, S, (Po.bind (m := evA C r env) q).mono (fun ds st2 ι2 H2 g2 S2 q vs rs => ?_) fun _ _ _ _ _ _ q => q⟩
    exact Po.ret (a := (ys ++ ds)) q S2 _ ((Rels.mono g2 _ _ rx).append rs)
theorem s_tup {es : Exs} {es' : List Expr} {x1} {pos : Pos} (h : PA X es' (sA X C W es)) : PE X (.Tuple es' x1 pos) (sE X C W (.tup es)) :=
  PE.weaken (pe_tup h) fun σ H Q ⟨fb, ι, env, st, hE, hS, hp⟩ => by
    refine ⟨fb, ι, env, st, hE, hS, (Po.bind (m := evA C es env) hp).mono (fun ds st1 ι1 H1 g S q vs rs => ?_) fun _ _ _ _ _ _ q => q⟩
    have q := q.ite
    cases hf : fit ds.length with
    | false => rw [hf] at q; exact q.elim
    | true =>
      rw [hf, if_pos rfl] at q
      exact ⟨by rw [← rs.length]; exact fit_le hf, fun p hp => q ι1 _ (Grow.laid hp) (S.laid hp) _ (rel_tup S hp rs)⟩
/-- a new list: as data, or in the store -/
theorem mk_ok {K : PySem.W.Frag} {fb ι : List Addr} {st : Store} {H : Hp} {al : Bool} {ds : List D} {xs : List V} {Q : VK} {ex : D → Store → List Addr → Hp → Prop} (S : RelS K H fb ι st) (r : Rels K H fb ι ds xs) (h : Po K fb (mkL al ds st) (okE K fb Q) ex ι H) :
    ds.length ≤ sizeLine ∧ ∀ p, H p = none → Q (.ref p) (upd H p (.lst xs)) := by
  unfold mkL at h
  have h := h.ite
  cases hf : fit ds.length with
  | false => rw [hf] at h; exact h.elim
  | true =>
    rw [hf, if_pos rfl] at h
    refine ⟨fit_le hf, fun p hp => ?_⟩
    cases al with
    | false => exact h ι _ (Grow.laid hp) (S.laid hp) _ (rel_lst S hp r)
    | true =>
      have g : Grow ι H (ι ++ [p]) (upd H p (.lst xs)) := Grow.alloc hp
      refine h _ _ g (S.alloc hp ⟨xs, upd_same, Rels.mono g _ _ r⟩) _ ⟨p, rfl, ?_⟩
      rw [← S.len]
      simp
theorem s_lst {al : Bool} {es : Exs} {es' : List Expr} {pos : Pos} (h : PA X es' (sA X C W es)) : PE X (.List es' pos) (sE X C W (.lst al es)) :=
  PE.weaken (pe_lst h) fun σ H Q ⟨fb, ι, env, st, hE, hS, hp⟩ => by
    refine ⟨fb, ι, env, st, hE, hS, (Po.bind (m := evA C es env) hp).mono (fun ds st1 ι1 H1 g S q vs rs => ?_) fun _ _ _ _ _ _ q => q⟩
    obtain ⟨h1, h2⟩ := mk_ok S rs q
    exact ⟨by rw [← rs.length]; exact h1, h2⟩
theorem s_ix {a b : Ex} {a' b' : Expr} {pos : Pos} (ha : PE X a' (sE X C W a)) (hb : PE X b' (sE X C W b)) (hs : PlainIx b') : PE X (.Subscript a' b' pos) (sE X C W (.ix a b)) :=
  PE.weaken (pe_ix ix_dat ha hb hs) fun σ H Q h =>
    (s_bind2 (f := fun x y => .rd fun st => ixD st x y) (fun _ => rfl) h).mono fun x H1 q => q.mono fun y H2 ⟨fb, ι, st, dx, dy, S, rx, ry, q⟩ => by
      obtain ⟨d, e, q⟩ := q.rd
      exact ⟨fb, ι, st, dx, dy, d, S, rx, ry, e, Yl.of q⟩
end
end Wk

set_option maxRecDepth 100000
set_option maxHeartbeats 1000000
/-! Wk9: loops' sources in the text, targets, comprehensions. -/
namespace Wk
open PySem PySem.Spec PyProof.Rows L2

section
variable {G : Pr} {X : Cx} {C : Ctx} {W : WX} {k : Nat} {tg : Expr}
def sI (X : Cx) (C : Ctx) (W : WX) (k : IK) (xs : Exs) : TI := fun σ H R => sA X C W xs σ H fun vs H1 => rSrc X k vs H1 R
theorem sA1 {e : Ex} {σ : L2.St} {H : Hp} {Q : List V → Hp → Prop} (h : sA X C W (.cons false e .nil) σ H Q) : sE X C W e σ H fun x H1 => Q [x] H1 := by
  obtain ⟨fb, ι, env, st, he, hs, hp⟩ := h
  refine ⟨fb, ι, env, st, he, hs, (Po.bind (m := evE C e env) hp).mono (fun d st1 ι1 H1 g S q v r => ?_) fun _ _ _ _ _ _ q => q⟩
  have q : Po X.K fb ((evA C .nil env >>= fun xs => (pure (d :: xs) : M (List D))) st1) _ _ ι1 H1 := q
  exact q ι1 H1 Grow.refl S [v] (Rels.one r)
theorem i_val {e : Ex} {e' : Expr} (he : PE X e' (sE X C W e)) : PI X tg e' (sI X C W .val (.cons false e .nil)) :=
  ⟨fun pins s σ H R I h => thn (he.run pins s σ H _ I (sA1 h)) fun v s1 ⟨x, H1, I1, r1, q1⟩ => it_val I1 r1 q1⟩
theorem no_lk {n : Option Nat} {st : Store} {m : Nat} (h : lkOf st n = some m) (hn : n = none) : False := by subst hn; cases h
theorem i_range1 {xs : Exs} {a : Expr} {p pos : Pos} (hg : Gl X "range") (hm : X.mg "range" = none) (ha : PA X [a] (sA X C W xs)) (hs : starEach [a] X.env = [(false, eval a X.env)]) : PI X tg (.Call (.Name "range" p) [a] [] pos) (sI X C W .range1 xs) :=
  PI.weaken (pi_range1 hg hm ha hs) fun σ H R h => sA.mono h fun vs H1 ⟨fb, ι, st, ds, its, n, S, hd, e, h⟩ => by
    replace e : itR1 ds = some (its, n) := e
    unfold itR1 at e
    split at e
    · rename_i j
      obtain ⟨v, rfl, r⟩ := rels1 hd
      cases r
      split at e
      · rename_i hc
        simp only [Bool.and_eq_true, decide_eq_true_eq] at hc
        cases e
        rcases h with ⟨_, h⟩ | ⟨m, a, u, hm, _⟩
        · refine ⟨j, rfl, hc.1, hc.2, h _ ?_⟩
          have w : Walk (Itr 0 j.toNat) j.toNat (fun _ => True) (YFn fun i => .int ((i : Nat) : Int)) := by
            have w := walk_range (lo := 0) (n := j.toNat)
            simpa using w
          exact src_fn w fun _ => trivial
        · cases hm
      · cases e
    · cases e
theorem i_range2 {xs : Exs} {a b : Expr} {p pos : Pos} (hg : Gl X "range") (hm : X.mg "range" = none) (ha : PA X [a, b] (sA X C W xs)) (hs : starEach [a, b] X.env = [(false, eval a X.env), (false, eval b X.env)]) (hs2 : starEach [b] X.env = [(false, eval b X.env)]) :
    PI X tg (.Call (.Name "range" p) [a, b] [] pos) (sI X C W .range2 xs) :=
  PI.weaken (pi_range2 hg hm ha hs hs2) fun σ H R h => sA.mono h fun vs H1 ⟨fb, ι, st, ds, its, n, S, hd, e, h⟩ => by
    replace e : itR2 ds = some (its, n) := e
    unfold itR2 at e
    split at e
    · rename_i i j
      split at e
      · rename_i hc
        simp only [Bool.and_eq_true, decide_eq_true_eq] at hc
        cases e
        obtain ⟨v, w, rfl, r, r2⟩ := rels2 hd
        cases r; cases r2
        rcases h with ⟨_, h⟩ | ⟨m, a, u, hm, _⟩
        · exact ⟨i, j, rfl, ⟨hc.1.1.1, hc.1.1.2, hc.1.2, hc.2⟩, h _ (src_fn (walk_range (lo := i) (n := (j - i).toNat)) fun _ => trivial)⟩
        · cases hm
      · cases e
    · cases e
theorem i_enum {xs : Exs} {a : Expr} {elts : List Expr} {kk : Nat} {tpos p pos : Pos} (hg : Gl X "enumerate") (hm : X.mg "enumerate" = none) (ha : PA X [a] (sA X C W xs)) (hs : starEach [a] X.env = [(false, eval a X.env)]) :
    PI X (.Tuple elts kk tpos) (.Call (.Name "enumerate" p) [a] [] pos) (sI X C W .enum xs) := by
  refine ⟨fun pins s σ H R I h => ?_⟩
  refine Call_ (ld_blt I hg hm boot_enumerate (PyProof.Rows.callWith_type1 (thn (ha.run pos pins s σ H _ I h) fun us s1 ⟨vs, H1, I1, r1, q1⟩ => ?_) hs rfl))
  obtain ⟨fb, ι, st, ds, its, n, S, hd, e, h⟩ := q1
  replace e : itEn ds = some (its, n) := e
  have pair : ∀ {b : Addr}, b ∈ [s1.heap.objs.size + 1, s1.heap.objs.size] → FpOk X pins H1 b := fun {b} hb => by
    have e' : b = s1.heap.objs.size + 1 ∨ b = s1.heap.objs.size := by simpa using hb
    have hle : s1.heap.objs.size ≤ b := by exact e'.elim (fun z => z ▸ Nat.le_succ _) (fun z => z ▸ Nat.le_refl _)
    exact I1.fpOk hle (I1.hok.fresh hle)
  unfold itEn at e
  split at e
  · rename_i es
    cases e
    obtain ⟨v, rfl, r⟩ := rels1 hd
    obtain ⟨a, ws, rfl, q, na, _, rr⟩ := r
    cases r1 with
    | cons r rr2 =>
      cases rr2
      cases r
      rcases h with ⟨_, h⟩ | ⟨m, a, u, hm, _⟩
      · obtain ⟨its, rv, p', hz⟩ := I1.tuple (SqT.of q)
        have hal : a < s1.heap.objs.size := by obtain ⟨o, ho, _⟩ := p'; exact Heap.lt_size ho
        refine enumT_call (show s1.heap.IsTuple a its.toArray from p') fun h' he hit hk => wpAny_pyIter_enum he ?_
        have I2 : L2.Inv X pins σ H1 { s1 with heap := h' } := I1.kept (t' := s1.toks) hk
        refine ⟨s1.heap.objs.size + 1, [s1.heap.objs.size + 1, s1.heap.objs.size], _, _, H1, rfl, I2, turn_enumT a (s1.heap.objs.size + 1) s1.heap.objs.size (Nat.ne_of_gt (Nat.lt_succ_of_lt hal)) (Nat.ne_of_lt hal), ⟨⟨.none, he⟩, hit, Nat.succ_ne_self _⟩, fun b hb => pair hb, h _ ?_⟩
        exact src_enum walk_enumT (fun ι' H' g => SqT.of (g.keep a _ q na)) rr
      · cases hm
  · rename_i es
    cases e
    obtain ⟨v, rfl, r⟩ := rels1 hd
    obtain ⟨a, ws, rfl, q, na, _, rr⟩ := r
    cases r1 with
    | cons r rr2 =>
      cases rr2
      cases r
      rcases h with ⟨_, h⟩ | ⟨m, a, u, hm, _⟩
      · obtain ⟨its, rv, p', hz⟩ := I1.list (SqL.of q)
        refine call_enumerate_list p'.isList fun h' he hit hsz hk => wpAny_pyIter_enum he ?_
        have I2 : L2.Inv X pins σ H1 { s1 with heap := h' } := I1.kept (t' := s1.toks) hk
        refine ⟨s1.heap.objs.size + 1, [s1.heap.objs.size + 1, s1.heap.objs.size], _, _, H1, rfl, I2, turn_enum a (s1.heap.objs.size + 1) s1.heap.objs.size, ⟨⟨.none, he⟩, hit, Nat.succ_ne_self _⟩, fun b hb => pair hb, h _ ?_⟩
        exact src_enum walk_enum (fun ι' H' g => SqL.of (g.keep a _ q na)) rr
      · cases hm
  · cases e
theorem i_zip {xs : Exs} {a b : Expr} {elts : List Expr} {kk : Nat} {tpos p pos : Pos} (hg : Gl X "zip") (hm : X.mg "zip" = none) (ha : PA X [a, b] (sA X C W xs)) (hs : starEach [a, b] X.env = (false, eval a X.env) :: starEach [b] X.env) (hpl : (backTo pos (starEach [b] X.env)).any (·.1) = false) :
    PI X (.Tuple elts kk tpos) (.Call (.Name "zip" p) [a, b] [] pos) (sI X C W .zip xs) :=
  PI.weaken (RZ.pi_zipA hg hm ha hs hpl) fun σ H R h => sA.mono h fun vs H1 ⟨fb, ι, st, ds, its, n, S, hd, e, h⟩ => by
    replace e : itZip ds = some (its, n) := e
    unfold itZip at e
    split at e
    · cases e
      obtain ⟨v, w, rfl, r, r2⟩ := rels2 hd
      obtain ⟨a, ws, rfl, q, na, _, rr⟩ := r
      obtain ⟨b, zs, rfl, q2, nb, _, rr2⟩ := r2
      rcases h with ⟨_, h⟩ | ⟨m, a, u, hm, _⟩
      · exact ⟨a, b, ws, zs, rfl, .inr ⟨SqT.of q, SqT.of q2, h _ (src_zip (walk_zipT rfl) (fun ι' H' g => ⟨SqT.of (g.keep a _ q na), SqT.of (g.keep b _ q2 nb)⟩) rr rr2)⟩⟩
      · cases hm
    · cases e
      obtain ⟨v, w, rfl, r, r2⟩ := rels2 hd
      obtain ⟨a, ws, rfl, q, na, _, rr⟩ := r
      obtain ⟨b, zs, rfl, q2, nb, _, rr2⟩ := r2
      rcases h with ⟨_, h⟩ | ⟨m, a, u, hm, _⟩
      · exact ⟨a, b, ws, zs, rfl, .inl ⟨SqL.of q, SqL.of q2, h _ (src_zip (walk_zip rfl) (fun ι' H' g => ⟨SqL.of (g.keep a _ q na), SqL.of (g.keep b _ q2 nb)⟩) rr rr2)⟩⟩
      · cases hm
    · cases e
end
end Wk

set_option maxRecDepth 100000
set_option maxHeartbeats 1000000
/-! Wk10: slices, calls. -/
namespace Wk
open PySem PySem.Spec PyProof.Rows L2

section
variable {G : Pr} {X : Cx} {C : Ctx} {W : WX} {k : Nat}
theorem M.assoc {α β γ : Type} (m : M α) (f : α → M β) (g : β → M γ) : ((m >>= f) >>= g) = (m >>= fun x => f x >>= g) := by
  funext st
  show M.bind (M.bind m f) g st = M.bind m (fun x => M.bind (f x) g) st
  unfold M.bind
  cases m st with
  | none => rfl
  | some o =>
    cases o with
    | ok a st' => rfl
    | ex e st' => rfl
/-! ### slices -/
def sO (X : Cx) (C : Ctx) (W : WX) (lo : Ex) : TO := fun σ H Q => ∃ fb ι env st, RelE X.K H fb ι env σ ∧ RelS X.K H fb ι st ∧
  Po X.K fb ((evE C lo env >>= fun d => M.of (endP lo d)) st) (fun l _ _ H' => Q l H') (exE X.mg W σ) ι H
theorem PO.weaken {e : Option Expr} {t t' : TO} (h : PO X e t) (w : ∀ σ H Q, t' σ H Q → t σ H Q) : PO X e t' := ⟨fun pins s σ H Q I q => h.run pins s σ H Q I (w σ H Q q)⟩
theorem o_none : PO X none (sO X C W (.cst .non)) := PO.weaken po_none fun σ H Q ⟨fb, ι, env, st, hE, hS, hp⟩ => hp ι H Grow.refl hS
def isNon : Ex → Bool
  | .cst .non => true
  | _ => false
theorem o_some {lo : Ex} {e : Expr} (h : PE X e (sE X C W lo)) (hn : isNon lo = false) : PO X (some e) (sO X C W lo) :=
  PO.weaken (po_some h) fun σ H Q ⟨fb, ι, env, st, hE, hS, hp⟩ => by
    refine ⟨fb, ι, env, st, hE, hS, hp.bind.mono (fun d st1 ι1 H1 g S q v r => ?_) fun _ _ _ _ _ _ q => q⟩
    obtain ⟨l, e, q⟩ := Po.of q
    unfold endP at e
    split at e
    · cases hn
    · cases e; cases r
      exact ⟨_, rfl, q ι1 H1 Grow.refl S⟩
    · cases e
theorem s_sl {a lo hi : Ex} {a' : Expr} {lo' hi' : Option Expr} {p2 pos : Pos} (ha : PE X a' (sE X C W a)) (hl : PO X lo' (sO X C W lo)) (hu : PO X hi' (sO X C W hi)) : PE X (.Subscript a' (.Slice lo' hi' none p2) pos) (sE X C W (.sl a lo hi)) :=
  PE.weaken (pe_slice sl_dat ha hl hu) fun σ H Q ⟨fb, ι, env, st, hE, hS, hp⟩ => by
    refine ⟨fb, ι, env, st, hE, hS, (Po.bind (m := evE C a env) hp).mono (fun dx st1 ι1 H1 g S q v r => ?_) fun _ _ _ _ _ _ q => q⟩
    have q : Po X.K fb ((evE C lo env >>= fun l => M.of (endP lo l) >>= fun l => evE C hi env >>= fun h => M.of (endP hi h) >>= fun h => M.rd fun st => sliceD st dx l h) st1) (okE X.K fb Q) (exE X.mg W σ) ι1 H1 := q
    rw [← M.assoc] at q
    refine ⟨fb, ι1, env, st1, hE.mono g, S, q.bind.mono (fun l st2 ι2 H2 g2 S2 q => ?_) fun _ _ _ _ _ _ q => q⟩
    rw [← M.assoc] at q
    refine ⟨fb, ι2, env, st2, (hE.mono g).mono g2, S2, q.bind.mono (fun h st3 ι3 H3 g3 S3 q => ?_) fun _ _ _ _ _ _ q => q⟩
    obtain ⟨d, e, q⟩ := q.rd
    exact ⟨fb, ι3, st3, dx, d, S3, (r.mono g2).mono g3, e, Yl.of q⟩

/-! ### what a call hands over -/
variable {K : PySem.W.Frag} {H : Hp} {fb fb' ι ι' : List Addr} {st st' : Store}
mutual
theorem Rel.move (hs : ∀ a, a ∉ ι → a ∉ fb → a ∉ ι' ∧ a ∉ fb') : ∀ (d : D) (v : V), d.pure = true → Rel K H fb ι d v → Rel K H fb' ι' d v
  | .non, v, _, h => h
  | .bl b, v, _, h => h
  | .int i, v, _, h => h
  | .str x, v, _, h => h
  | .tup ds, v, p, h => by
    obtain ⟨a, xs, e, q, n, m, r⟩ := h
    exact ⟨a, xs, e, q, (hs a n m).1, (hs a n m).2, Rels.move hs ds xs p r⟩
  | .lst ds, v, p, h => by
    obtain ⟨a, xs, e, q, n, m, r⟩ := h
    exact ⟨a, xs, e, q, (hs a n m).1, (hs a n m).2, Rels.move hs ds xs p r⟩
  | .dic ks vs, v, p, h => h.elim
  | .loc n, v, p, h => nomatch p
  | .scr ns, v, p, h => by
    obtain ⟨a, e, q | q⟩ := h
    · obtain ⟨o, q, n, m⟩ := q
      exact ⟨a, e, .inl ⟨o, q, hs a n m⟩⟩
    · exact ⟨a, e, .inr q⟩
  | .exc c vs, v, p, h => h.elim
theorem Rels.move (hs : ∀ a, a ∉ ι → a ∉ fb → a ∉ ι' ∧ a ∉ fb') : ∀ (ds : List D) (vs : List V), D.pures ds = true → Rels K H fb ι ds vs → Rels K H fb' ι' ds vs
  | [], vs, _, h => h
  | d :: ds, vs, p, h => by
    obtain ⟨y, ys, e, r, rs⟩ := h
    have p : (d.pure && D.pures ds) = true := p
    rw [Bool.and_eq_true] at p
    exact ⟨y, ys, e, Rel.move hs d y p.1 r, Rels.move hs ds ys p.2 rs⟩
end
theorem RelO.move (hs : ∀ a, a ∉ ι → a ∉ fb → a ∉ ι' ∧ a ∉ fb') {a : Addr} {o : Ob} (p : o.pure = true) (h : RelO K H fb ι a o) : RelO K H fb' ι' a o := by
  cases o with
  | lst l ds =>
    cases l with
    | false => obtain ⟨xs, e, r⟩ := h; exact ⟨xs, e, Rels.move hs ds xs p r⟩
    | true => obtain ⟨od, xs, e, r⟩ := h; exact ⟨od, xs, e, Rels.move hs ds xs p r⟩
  | dic l d ks vs => exact h.elim
/-- what stands for ρ's -/
def Rho (K : PySem.W.Frag) (H : Hp) (fb ι fb' ι' : List Addr) (ρ : Nat → Option D) : Prop := ∀ n d a, ρ n = some d → ι[n]? = some a → Rel K H fb' ι' d (.ref a)
mutual
theorem Rel.sub {ρ : Nat → Option D} (hs : ∀ a, a ∉ ι → a ∉ fb → a ∉ ι' ∧ a ∉ fb') (hr : Rho K H fb ι fb' ι' ρ) : ∀ (d e : D) (v : V), d.sub ρ = some e → Rel K H fb ι d v → Rel K H fb' ι' e v
  | .non, e, v, p, h => by cases p; exact h
  | .bl b, e, v, p, h => by cases p; exact h
  | .int i, e, v, p, h => by cases p; exact h
  | .str x, e, v, p, h => by cases p; exact h
  | .tup ds, e, v, p, h => by
    obtain ⟨a, xs, ev, q, n, m, r⟩ := h
    have p : (D.subs ρ ds).map D.tup = some e := p
    cases z : D.subs ρ ds with
    | none => rw [z] at p; cases p
    | some es =>
      rw [z] at p; cases p
      exact ⟨a, xs, ev, q, (hs a n m).1, (hs a n m).2, Rels.sub hs hr ds es xs z r⟩
  | .lst ds, e, v, p, h => by
    obtain ⟨a, xs, ev, q, n, m, r⟩ := h
    have p : (D.subs ρ ds).map D.lst = some e := p
    cases z : D.subs ρ ds with
    | none => rw [z] at p; cases p
    | some es =>
      rw [z] at p; cases p
      exact ⟨a, xs, ev, q, (hs a n m).1, (hs a n m).2, Rels.sub hs hr ds es xs z r⟩
  | .dic ks vs, e, v, p, h => h.elim
  | .loc n, e, v, p, h => by
    obtain ⟨a, ev, q⟩ := h
    subst ev
    exact hr n e a p q
  | .scr ns, e, v, p, h => by
    cases p
    obtain ⟨a, e, q | q⟩ := h
    · obtain ⟨o, q, n, m⟩ := q
      exact ⟨a, e, .inl ⟨o, q, hs a n m⟩⟩
    · exact ⟨a, e, .inr q⟩
  | .exc c vs, e, v, p, h => h.elim
theorem Rels.sub {ρ : Nat → Option D} (hs : ∀ a, a ∉ ι → a ∉ fb → a ∉ ι' ∧ a ∉ fb') (hr : Rho K H fb ι fb' ι' ρ) : ∀ (ds es : List D) (vs : List V), D.subs ρ ds = some es → Rels K H fb ι ds vs → Rels K H fb' ι' es vs
  | [], es, vs, p, h => by cases p; exact h
  | d :: ds, es, vs, p, h => by
    obtain ⟨y, ys, e, r, rs⟩ := h
    have p : ((D.sub ρ d).bind fun y => (D.subs ρ ds).map fun ys => y :: ys) = some es := p
    cases z : D.sub ρ d with
    | none => rw [z] at p; cases p
    | some d' =>
      rw [z] at p
      cases z2 : D.subs ρ ds with
      | none => rw [z2] at p; cases p
      | some ds' =>
        rw [z2] at p
        cases p
        exact ⟨y, ys, e, Rel.sub hs hr d d' y z r, Rels.sub hs hr ds ds' ys z2 rs⟩
end
/-- the things from k on, as data -/
theorem rho_deep (S : RelS K H fb ι st) (hs : ∀ a, a ∉ ι → a ∉ fb → a ∉ ι' ∧ a ∉ fb') {n0 : Nat} (hn : ∀ n a, n0 ≤ n → ι[n]? = some a → a ∉ ι' ∧ a ∉ fb') : ∀ f, Rho K H fb ι fb' ι' (deepAt st n0 f)
  | 0 => fun n d a e _ => by cases e
  | f + 1 => fun n d a e hi => by
    unfold deepAt at e
    split at e
    · cases e
    · rename_i hlt
      cases q : st[n]? with
      | none => rw [q] at e; cases e
      | some o =>
        rw [q] at e
        have ro := S.at_ n o a q hi
        cases o with
        | dic l d ks vs => exact ro.elim
        | lst l ds =>
          cases l with
          | true => cases e
          | false =>
            have e : (D.subs (deepAt st n0 f) ds).map D.lst = some d := e
            cases z : D.subs (deepAt st n0 f) ds with
            | none => rw [z] at e; cases e
            | some es =>
              rw [z] at e; cases e
              obtain ⟨xs, h1, r⟩ := ro
              have w := hn n a (Nat.le_of_not_lt hlt) hi
              exact ⟨a, xs, rfl, h1, w.1, w.2, Rels.sub hs (rho_deep S hs hn f) ds es xs z r⟩
end
end Wk

set_option maxRecDepth 100000
set_option maxHeartbeats 1000000
/-! Wk11: calls: there and back. -/
namespace Wk
open PySem PySem.Spec PyProof.Rows L2

section
variable {K : PySem.W.Frag} {H H2 : Hp} {fb fb' ι ι' ι2 ι3 : List Addr} {st st1 st2 : Store} {ls : List Nat}
def adr (ι : List Addr) (ls : List Nat) : List Addr := ls.map fun n => ι.getD n 0
def fbc (fb ι : List Addr) (ls : List Nat) : List Addr := fb ++ ι.filter fun a => !decide (a ∈ adr ι ls)
theorem adr_at {j n : Nat} (h : ls[j]? = some n) (hn : n < ι.length) : ∃ a, (adr ι ls)[j]? = some a ∧ ι[n]? = some a := by
  refine ⟨ι[n], ?_, by simp [hn]⟩
  simp [adr, h, List.getD, hn]
theorem adr_len : (adr ι ls).length = ls.length := by simp [adr]
theorem adr_sub (hl : ∀ n ∈ ls, n < ι.length) {a : Addr} (h : a ∈ adr ι ls) : ∃ n, n ∈ ls ∧ ι[n]? = some a := by
  unfold adr at h
  obtain ⟨n, hn, e⟩ := List.mem_map.mp h
  refine ⟨n, hn, ?_⟩
  have := hl n hn
  simp [List.getD, this] at e
  simp [this, e]
mutual
theorem D.sub_pure {ρ : Nat → Option D} : ∀ d : D, d.pure = true → d.sub ρ = some d
  | .non, _ => rfl
  | .bl b, _ => rfl
  | .int i, _ => rfl
  | .str x, _ => rfl
  | .tup ds, p => by show (D.subs ρ ds).map D.tup = _; rw [D.subs_pure ds p]; rfl
  | .lst ds, p => by show (D.subs ρ ds).map D.lst = _; rw [D.subs_pure ds p]; rfl
  | .dic ks vs, p => by
    have p : (D.pures ks && D.pures vs) = true := p
    rw [Bool.and_eq_true] at p
    show ((D.subs ρ ks).bind fun a => (D.subs ρ vs).map fun b => D.dic a b) = _
    rw [D.subs_pure ks p.1, D.subs_pure vs p.2]; rfl
  | .loc n, p => nomatch p
  | .scr ns, _ => rfl
  | .exc c vs, p => by show (D.subs ρ vs).map (D.exc c) = _; rw [D.subs_pure vs p]; rfl
theorem D.subs_pure {ρ : Nat → Option D} : ∀ ds : List D, D.pures ds = true → D.subs ρ ds = some ds
  | [], _ => rfl
  | d :: ds, p => by
    have p : (d.pure && D.pures ds) = true := p
    rw [Bool.and_eq_true] at p
    show ((D.sub ρ d).bind fun y => (D.subs ρ ds).map fun ys => y :: ys) = _
    rw [D.sub_pure d p.1, D.subs_pure ds p.2]; rfl
end
theorem wr_len : ∀ (ls : List Nat) (os : List Ob) (st : Store), (wrBack ls os st).length = st.length
  | [], os, st => by cases os <;> rfl
  | n :: r, [], st => rfl
  | n :: r, o :: os, st => by
    show (wrBack r os (st.set n o)).length = _
    rw [wr_len r os, List.length_set]
theorem wr_at : ∀ (ls : List Nat) (os : List Ob) (st : Store) (n : Nat) (o : Ob), os.length = ls.length → (wrBack ls os st)[n]? = some o → (n ∉ ls ∧ st[n]? = some o) ∨ ∃ j : Nat, ls[j]? = some n ∧ os[j]? = some o
  | [], os, st, n, o, hl, h => by
    cases os with
    | nil => exact .inl ⟨by simp, h⟩
    | cons a b => simp at hl
  | m :: r, [], st, n, o, hl, h => by simp at hl
  | m :: r, p :: os, st, n, o, hl, h => by
    have h : (wrBack r os (st.set m p))[n]? = some o := h
    rcases wr_at r os _ n o (by simpa using hl) h with ⟨h1, h2⟩ | ⟨j, h1, h2⟩
    · by_cases e : n = m
      · subst e
        have hlt : n < st.length := by
          have := (List.getElem?_eq_some_iff.mp h2).1
          simpa using this
        rw [List.getElem?_set_self hlt] at h2
        cases h2
        exact .inr ⟨0, rfl, rfl⟩
      · rw [List.getElem?_set_ne (Ne.symm e)] at h2
        exact .inl ⟨fun hm => by rcases List.mem_cons.mp hm with z | z; exact e z; exact h1 z, h2⟩
    · exact .inr ⟨j + 1, by simpa using h1, by simpa using h2⟩
theorem obs_at : ∀ {ls : List Nat} {os : List Ob}, obsAt st ls = some os → os.length = ls.length ∧ (∀ (j n : Nat), ls[j]? = some n → ∃ o, os[j]? = some o ∧ st[n]? = some o)
  | [], os, h => by cases h; simp
  | m :: r, os, h => by
    have h : ((st[m]?).bind fun o => (obsAt st r).map fun os => o :: os) = some os := h
    cases q : st[m]? with
    | none => rw [q] at h; cases h
    | some o =>
      rw [q] at h
      cases z : obsAt st r with
      | none => rw [z] at h; cases h
      | some os' =>
        rw [z] at h; cases h
        obtain ⟨h1, h2⟩ := obs_at z
        refine ⟨by simp [h1], fun j n e => ?_⟩
        cases j with
        | zero => simp at e; subst e; exact ⟨o, rfl, q⟩
        | succ j => obtain ⟨o', a, b⟩ := h2 j n (by simpa using e); exact ⟨o', by simpa using a, b⟩
theorem frz_at {n0 : Nat} : ∀ {os os' : List Ob}, frzs st n0 os = some os' → os'.length = os.length ∧ (∀ (j : Nat) o', os'[j]? = some o' → ∃ o, os[j]? = some o ∧ o.frz st n0 = some o')
  | [], os', h => by cases h; simp
  | o :: os, os', h => by
    have h : ((o.frz st n0).bind fun a => (frzs st n0 os).map fun as => a :: as) = some os' := h
    cases q : o.frz st n0 with
    | none => rw [q] at h; cases h
    | some a =>
      rw [q] at h
      cases z : frzs st n0 os with
      | none => rw [z] at h; cases h
      | some as =>
        rw [z] at h; cases h
        obtain ⟨h1, h2⟩ := frz_at z
        refine ⟨by simp [h1], fun j o' e => ?_⟩
        cases j with
        | zero => simp at e; subst e; exact ⟨o, rfl, q⟩
        | succ j => obtain ⟨o', a, b⟩ := h2 j o' (by simpa using e); exact ⟨o', by simpa using a, b⟩
theorem frz_rel (hs : ∀ a, a ∉ ι → a ∉ fb → a ∉ ι' ∧ a ∉ fb') {n0 : Nat} (hr : ∀ f, Rho K H fb ι fb' ι' (deepAt st n0 f)) {a : Addr} {o o' : Ob} (e : o.frz st n0 = some o') (h : RelO K H fb ι a o) : RelO K H fb' ι' a o' := by
  cases o with
  | dic l d ks vs => exact h.elim
  | lst l ds =>
    have e : (D.subs (deepAt st n0 st.length) ds).map (Ob.lst l) = some o' := e
    cases z : D.subs (deepAt st n0 st.length) ds with
    | none => rw [z] at e; cases e
    | some es =>
      rw [z] at e; cases e
      cases l with
      | false => obtain ⟨xs, h1, r⟩ := h; exact ⟨xs, h1, Rels.sub hs (hr _) ds es xs z r⟩
      | true => obtain ⟨od, xs, h1, r⟩ := h; exact ⟨od, xs, h1, Rels.sub hs (hr _) ds es xs z r⟩
theorem Ob.frz_pure {o : Ob} {n0 : Nat} (h : o.pure = true) : o.frz st n0 = some o := by
  cases o with
  | lst l ds => show (D.subs _ ds).map _ = _; rw [D.subs_pure ds h]; rfl
  | dic l d ks vs =>
    have h : (D.pures ks && D.pures vs) = true := h
    rw [Bool.and_eq_true] at h
    show ((D.subs _ ks).bind fun a => (D.subs _ vs).map fun b => Ob.dic l d a b) = _
    rw [D.subs_pure ks h.1, D.subs_pure vs h.2]; rfl
/-- there -/
theorem there (S : RelS K H fb ι st) {os : List Ob} (e : obsAt st ls = some os) (nd : ls.Nodup) (hp : os.all Ob.pure = true) : (∀ n ∈ ls, n < st.length) ∧ RelS K H (fbc fb ι ls) (adr ι ls) os := by
  obtain ⟨h1, h2⟩ := obs_at e
  have hl : ∀ n ∈ ls, n < st.length := fun n hn => by
    obtain ⟨j, hj, ej⟩ := List.getElem_of_mem hn
    obtain ⟨o, _, z⟩ := h2 j n (by simp [hj, ej])
    exact (List.getElem?_eq_some_iff.mp z).1
  have hl' : ∀ n ∈ ls, n < ι.length := fun n hn => by rw [S.len]; exact hl n hn
  refine ⟨hl, ⟨by rw [adr_len, h1], ?_, fun a ha => ?_, fun a ha hf => ?_, fun j o a ho ha => ?_⟩⟩
  · unfold adr
    refine List.pairwise_map.mpr (List.Pairwise.imp_of_mem (fun {m n} hm hn hne e => ?_) nd)
    have w1 := hl' m hm
    have w2 := hl' n hn
    simp [List.getD, w1, w2] at e
    exact hne ((List.getElem_inj S.nd).mp e)
  · rcases List.mem_append.mp ha with z | z
    · exact S.fbs a z
    · obtain ⟨u, q⟩ := S.live ((List.mem_filter.mp z).1)
      rw [q]; exact fun z => nomatch z
  · obtain ⟨n, hn, hi⟩ := adr_sub hl' ha
    rcases List.mem_append.mp hf with z | z
    · exact S.dj a (List.mem_of_getElem? hi) z
    · have := (List.mem_filter.mp z).2
      simp [ha] at this
  · have hj : j < ls.length := by rw [← h1]; exact (List.getElem?_eq_some_iff.mp ho).1
    obtain ⟨o', z1, z2⟩ := h2 j ls[j] (by simp [hj])
    rw [ho] at z1; cases z1
    obtain ⟨a', z3, z4⟩ := adr_at (ι := ι) (ls := ls) (j := j) (n := ls[j]) (by simp [hj]) (hl' _ (List.getElem_mem hj))
    rw [ha] at z3; cases z3
    refine RelO.move (fun b n1 n2 => ?_) (List.all_eq_true.mp hp o (List.mem_of_getElem? ho)) (S.at_ _ o a z2 z4)
    refine ⟨fun z => ?_, fun z => ?_⟩
    · obtain ⟨n, _, hi⟩ := adr_sub hl' z
      exact n1 (List.mem_of_getElem? hi)
    · rcases List.mem_append.mp z with z | z
      · exact n2 z
      · exact n1 ((List.mem_filter.mp z).1)
theorem rels_renum (S : RelS K H fb ι st) (all : List Nat) (hl : ∀ n ∈ all, n < ι.length) : ∀ (ds : List D) (vs : List V) (j : Nat), ds.all argOk = true → (∀ i n, (locs ds)[i]? = some n → all[j + i]? = some n) → Rels K H fb ι ds vs → Rels K H (fbc fb ι all) (adr ι all) (renum j ds) vs
  | [], vs, j, _, _, h => by have h : vs = [] := h; subst h; exact rfl
  | d :: ds, vs, j, p, hi, h => by
    obtain ⟨y, ys, rfl, r, rs⟩ := h
    rw [List.all_cons, Bool.and_eq_true] at p
    have mv : ∀ b, b ∉ ι → b ∉ fb → b ∉ adr ι all ∧ b ∉ fbc fb ι all := fun b n1 n2 => by
      refine ⟨fun z => ?_, fun z => ?_⟩
      · obtain ⟨n, _, hi⟩ := adr_sub hl z
        exact n1 (List.mem_of_getElem? hi)
      · rcases List.mem_append.mp z with z | z
        · exact n2 z
        · exact n1 ((List.mem_filter.mp z).1)
    cases d with
    | loc n =>
      obtain ⟨a, e, q⟩ := r
      have hn := hi 0 n rfl
      obtain ⟨a', z3, z4⟩ := adr_at (ι := ι) hn (hl n (List.mem_of_getElem? hn))
      rw [q] at z4; cases z4
      refine ⟨y, ys, rfl, ⟨a, e, z3⟩, rels_renum S all hl ds ys (j + 1) p.2 (fun i m e => ?_) rs⟩
      have := hi (i + 1) m (by simpa [locs] using e)
      rw [← this]; congr 1; omega
    | _ => exact ⟨y, ys, rfl, Rel.move mv _ _ p.1 r, rels_renum S all hl ds ys j p.2 (fun i m e => hi i m (by simpa [locs] using e)) rs⟩
/-- back -/
theorem back_ok {kp : Bool} {d e : D} (S : RelS K H fb ι st) (hl : ∀ n ∈ ls, n < st.length) (g : Grow (adr ι ls) H ι2 H2) (S2 : RelS K H2 (fbc fb ι ls) ι2 st2) (hb : backD kp ls d st2 st = some (e, st1)) :
    ∃ ι3, Grow ι H ι3 H2 ∧ RelS K H2 fb ι3 st1 ∧ ∀ v, Rel K H2 (fbc fb ι ls) ι2 d v → Rel K H2 fb ι3 e v := by
  have hl' : ∀ n ∈ ls, n < ι.length := fun n hn => by rw [S.len]; exact hl n hn
  obtain ⟨new, e2, hnew⟩ := g.pre
  have hs : ∀ a, a ∉ ι2 → a ∉ fbc fb ι ls → a ∉ ι ∧ a ∉ fb := fun a n1 n2 => by
    refine ⟨fun z => ?_, fun z => n2 (List.mem_append_left _ z)⟩
    by_cases q : a ∈ adr ι ls
    · exact n1 (by rw [e2]; exact List.mem_append_left _ q)
    · exact n2 (List.mem_append_right _ (List.mem_filter.mpr ⟨z, by simp [q]⟩))
  have hnw : ∀ n a, ls.length ≤ n → ι2[n]? = some a → H a = none := fun n a hn hi => by
    rw [e2, List.getElem?_append_right (by rw [adr_len]; exact hn)] at hi
    exact hnew a (List.mem_of_getElem? hi)
  have hn : ∀ n a, ls.length ≤ n → ι2[n]? = some a → a ∉ ι ∧ a ∉ fb := fun n a h1 h2 => S.fresh (hnw n a h1 h2)
  have hk : ∀ a o, H a = some o → a ∉ ι → H2 a = some o := fun a o h1 h2 => g.keep a o h1 fun z => by
    obtain ⟨n, _, hi⟩ := adr_sub hl' z
    exact h2 (List.mem_of_getElem? hi)
  have g1 : Grow ι H ι H2 := ⟨⟨⟨[], by simp, by simp⟩, hk⟩, g.live, g.frz⟩
  have hj2 : ∀ j n a, ls[j]? = some n → ι[n]? = some a → ι2[j]? = some a := fun j n a h1 h2 => by
    obtain ⟨a', z3, z4⟩ := adr_at (ι := ι) h1 (hl' n (List.mem_of_getElem? h1))
    rw [h2] at z4; cases z4
    exact g.at_ z3
  unfold backD at hb
  cases hf : frzs st2 ls.length (st2.take ls.length) with
  | none => rw [hf] at hb; cases hb
  | some os =>
    rw [hf] at hb
    have hb := hb
    simp only [Option.bind_some] at hb
    split at hb
    · rename_i hlen
      have hlen : os.length = ls.length := by simpa using hlen
      obtain ⟨f1, f2⟩ := frz_at hf
      have old : ∀ {ι3 : List Addr}, Grow0 ι H ι3 H2 → (∀ j o0 o a, st2[j]? = some o0 → (st2.take ls.length)[j]? = some o0 → o0.frz st2 ls.length = some o → ι2[j]? = some a → RelO K H2 (fbc fb ι ls) ι2 a o0 → RelO K H2 fb ι3 a o) →
          ∀ n o a, (wrBack ls os st)[n]? = some o → ι[n]? = some a → RelO K H2 fb ι3 a o := fun {ι3} g0 hO n o a h1 h2 => by
        rcases wr_at ls os st n o hlen h1 with ⟨q1, q2⟩ | ⟨j, q1, q2⟩
        · have na : a ∉ adr ι ls := fun z => by
            obtain ⟨m, hm, hi⟩ := adr_sub hl' z
            obtain ⟨l1, e1⟩ := List.getElem?_eq_some_iff.mp h2
            obtain ⟨l2, e2⟩ := List.getElem?_eq_some_iff.mp hi
            exact q1 ((List.getElem_inj S.nd).mp (e1.trans e2.symm) ▸ hm)
          exact RelO.mono0 g0 (fun u e => g.keep a u e na) (S.at_ n o a q2 h2)
        · obtain ⟨o0, z1, z2⟩ := f2 j o q2
          have z1' : st2[j]? = some o0 := by
            rw [List.getElem?_take] at z1
            split at z1
            · exact z1
            · cases z1
          have hi := hj2 j n a q1 h2
          exact hO j o0 o a z1' z1 z2 hi (S2.at_ j o0 a z1' hi)
      have rd : ∀ f, Rho K H2 (fbc fb ι ls) ι2 fb ι (deepAt st2 ls.length f) := rho_deep S2 hs hn
      have R0 : RelS K H2 fb ι (wrBack ls os st) := ⟨by rw [wr_len]; exact S.len, S.nd, fun a m e => S.fbs a m (g1.none e), S.dj,
        old g1.toGrow0 fun j o0 o a _ _ e _ r => frz_rel hs rd e r⟩
      have gen : ∀ {d : D}, (d.sub (deepAt st2 ls.length st2.length)).map (fun e => (e, wrBack ls os st)) = some (e, st1) → ∃ ι3, Grow ι H ι3 H2 ∧ RelS K H2 fb ι3 st1 ∧ ∀ v, Rel K H2 (fbc fb ι ls) ι2 d v → Rel K H2 fb ι3 e v := fun {d} hb => by
        cases q : d.sub (deepAt st2 ls.length st2.length) with
        | none => rw [q] at hb; cases hb
        | some e' =>
          rw [q] at hb; cases hb
          exact ⟨ι, g1, R0, fun v r => Rel.sub hs (rd _) d _ v q r⟩
      cases d with
      | loc j =>
        simp only at hb
        split at hb
        · cases q : ls[j]? with
          | none => rw [q] at hb; cases hb
          | some n =>
            rw [q] at hb; cases hb
            refine ⟨ι, g1, R0, fun v r => ?_⟩
            obtain ⟨a, e, hi⟩ := r
            obtain ⟨a', z3, z4⟩ := adr_at (ι := ι) q (hl' n (List.mem_of_getElem? q))
            have := g.at_ z3
            rw [hi] at this; cases this
            exact ⟨a, e, z4⟩
        · rename_i hjn
          split at hb
          · split at hb
            · rename_i hpu
              cases q : st2[j]? with
              | none => rw [q] at hb; cases hb
              | some o =>
                rw [q] at hb
                cases o with
                | dic l d ks vs => cases hb
                | lst l xs =>
                  cases l with
                  | true => cases hb
                  | false =>
                    simp only at hb
                    split at hb
                    · rename_i hx
                      cases hb
                      have hj : j < ι2.length := by rw [S2.len]; exact (List.getElem?_eq_some_iff.mp q).1
                      have hi : ι2[j]? = some ι2[j] := by simp [hj]
                      generalize ι2[j] = a at hi
                      have ha := hnw j a (Nat.le_of_not_lt hjn) hi
                      have hfr := S.fresh ha
                      have g3 : Grow ι H (ι ++ [a]) H2 := ⟨⟨⟨[a], rfl, fun b hb => by simp at hb; subst hb; exact ha⟩, hk⟩, g.live, g.frz⟩
                      have hs3 : ∀ b, b ∉ ι2 → b ∉ fbc fb ι ls → b ∉ ι ++ [a] ∧ b ∉ fb := fun b n1 n2 => by
                        refine ⟨fun z => ?_, (hs b n1 n2).2⟩
                        rcases List.mem_append.mp z with z | z
                        · exact (hs b n1 n2).1 z
                        · simp at z; subst z; exact n1 (List.mem_of_getElem? hi)
                      refine ⟨ι ++ [a], g3, ⟨by simp [wr_len, S.len], ?_, fun b m e => S.fbs b m (g1.none e), fun b m => ?_, fun n o b h1 h2 => ?_⟩, fun v r => ?_⟩
                      · rw [List.nodup_append]
                        refine ⟨S.nd, by simp, fun b hb c hc => ?_⟩
                        simp at hc; subst hc
                        exact fun z => hfr.1 (z ▸ hb)
                      · rcases List.mem_append.mp m with z | z
                        · exact S.dj b z
                        · simp at z; subst z; exact hfr.2
                      · by_cases hlt : n < st.length
                        · rw [List.getElem?_append_left (by rw [wr_len]; exact hlt)] at h1
                          rw [List.getElem?_append_left (by rw [S.len]; exact hlt)] at h2
                          refine old g3.toGrow0 (fun j o0 o a _ ht e _ r => ?_) n o b h1 h2
                          have hp := List.all_eq_true.mp hpu o0 (List.mem_of_getElem? ht)
                          rw [Ob.frz_pure hp] at e; cases e
                          exact RelO.move hs3 hp r
                        · have en : n = st.length := by
                            have := (List.getElem?_eq_some_iff.mp h1).1
                            simp [wr_len] at this
                            omega
                          subst en
                          rw [List.getElem?_append_right (by rw [wr_len]; exact Nat.le_refl _)] at h1
                          rw [List.getElem?_append_right (by rw [S.len]; exact Nat.le_refl _)] at h2
                          simp [S.len, wr_len] at h1 h2
                          subst h1 h2
                          exact RelO.move (o := .lst false xs) hs3 hx (S2.at_ j _ a q hi)
                      · obtain ⟨b, e, hi'⟩ := r
                        rw [hi] at hi'; cases hi'
                        exact ⟨a, e, by simp [← S.len]⟩
                    · cases hb
            · cases hb
          · cases q : deepAt st2 ls.length st2.length j with
            | none => rw [q] at hb; cases hb
            | some e' =>
              rw [q] at hb; cases hb
              refine ⟨ι, g1, R0, fun v r => ?_⟩
              obtain ⟨a, e, hi⟩ := r
              subst e
              exact rd _ j _ a q hi
      | _ => exact gen hb
    · cases hb
theorem back_exc {kp : Bool} {c : Str} {e : D} (hb : backD kp ls (.exc c []) st2 st = some (e, st1)) : e = .exc c [] := by
  unfold backD at hb
  cases hf : frzs st2 ls.length (st2.take ls.length) with
  | none => rw [hf] at hb; cases hb
  | some os =>
    rw [hf] at hb
    simp only [Option.bind_some] at hb
    split at hb
    · have hb : some (D.exc c [], wrBack ls os st) = some (e, st1) := hb
      cases hb; rfl
    · cases hb
theorem call_ok {C : Ctx} {kp : Bool} {f : Str} {mg : Str → Option Value} {ds : List D} {vs : List V} {Q : VK} {E : XK} (S : RelS K H fb ι st) (r : Rels K H fb ι ds vs)
    (h : Po K fb (callD C kp f ds st) (okE K fb Q) (fun e _ ι' H' => ∀ cls dx, RelX mg e cls dx → E cls dx H') ι H) :
    spOf K mg C f vs H Q E := by
  unfold callD at h
  split at h
  · rename_i hc
    rw [Bool.and_eq_true, decide_eq_true_eq] at hc
    cases ho : obsAt st (locs ds) with
    | none => rw [ho] at h; exact h.elim
    | some os =>
      rw [ho] at h
      simp only at h
      split at h
      · rename_i hp
        obtain ⟨hl, St⟩ := there S ho hc.2 hp
        refine ⟨_, _, _, _, St, rels_renum S (locs ds) (fun n hn => by rw [S.len]; exact hl n hn) ds vs 0 hc.1 (fun i n e => by rw [Nat.zero_add]; exact e) r, ?_⟩
        cases q : C.call f (renum 0 ds) os with
        | none => rw [q] at h; exact h.elim
        | some o =>
          rw [q] at h
          cases o with
          | ok d st2 =>
            simp only at h
            intro ι2 H2 g S2 v rv
            cases hb : backD kp (locs ds) d st2 st with
            | none => rw [hb] at h; exact h.elim
            | some p =>
              obtain ⟨e, st1⟩ := p
              rw [hb] at h
              obtain ⟨ι3, g3, S3, r3⟩ := back_ok S hl g S2 hb
              exact h ι3 H2 g3 S3 v (r3 v rv)
          | ex d st2 =>
            simp only at h
            intro ι2 H2 g S2 cls dx rx
            cases hb : backD false (locs ds) d st2 st with
            | none => rw [hb] at h; exact h.elim
            | some p =>
              obtain ⟨e, st1⟩ := p
              rw [hb] at h
              obtain ⟨ι3, g3, S3, r3⟩ := back_ok S hl g S2 hb
              obtain ⟨c, Ca, rfl, z⟩ := rx
              have := back_exc hb
              subst this
              exact h ι3 H2 g3 S3 cls dx ⟨c, Ca, rfl, z⟩
      · exact h.elim
  · exact h.elim
end
end Wk

set_option maxRecDepth 100000
set_option maxHeartbeats 1000000
/-! Wk12: side conditions by the text's form; calls, built-ins, methods, targets in the text. -/
namespace Wk
open PySem PySem.Spec PyProof.Rows L2

/-! ### by form -/
def nst : Expr → Bool
  | .Starred .. => false
  | _ => true
theorem star_one {e : Expr} {es : List Expr} {env : PySem.Env} (h : nst e = true) : starEach (e :: es) env = (false, eval e env) :: starEach es env := by
  cases e <;> first | rfl | cases h
theorem star_all {pos : Pos} {env : PySem.Env} : ∀ {es : List Expr}, es.all nst = true → (backTo pos (starEach es env)).any (·.1) = false
  | [], _ => rfl
  | e :: es, h => by
    rw [List.all_cons, Bool.and_eq_true] at h
    rw [star_one h.1]
    show (false || (backTo pos (starEach es env)).any (·.1)) = false
    rw [star_all h.2]; rfl
def plainB : Expr → Bool
  | .Slice .. => false
  | _ => true
theorem plain_ix {b : Expr} (h : plainB b = true) : PlainIx b := by
  intro o i
  cases b <;> first | rfl | cases h
def ncpB : Expr → Bool
  | .ListComp .. | .SetComp .. | .DictComp .. => false
  | _ => true
theorem ncp_sw {e : Expr} {t : Option Expr} {l : Nat} {env : PySem.Env} (h : ncpB e = true) : swapsWith e t l env = pure false := by
  cases e <;> first | rfl | cases h
def valB : Expr → Bool
  | .UnaryOp .Not _ _ | .BoolOp .. | .IfExp .. | .Compare .. => false
  | _ => true
theorem val_true {e : Expr} {env : PySem.Env} (h : valB e = true) : ∀ whole, isTrue e env whole = (do let v ← whole; standAt e.pos; holding [v] (truthy v)) := by
  intro whole
  cases e with
  | UnaryOp o x p => cases o <;> first | rfl | cases h
  | BoolOp => cases h
  | IfExp => cases h
  | Compare => cases h
  | _ => rfl
def nsetB : Expr → Bool
  | .Set .. => false
  | _ => true
theorem nset_fold {e : Expr} {env : PySem.Env} (h : nsetB e = true) : ∀ x, foldedSetIterable e env x = pure x := by
  intro x
  cases e <;> first | rfl | cases h

section
variable {G : Pr} {X : Cx} {C : Ctx} {W : WX} {k : Nat}
/-! ### calls -/
theorem run_g {sp : Sp} {fa : Addr} {fd : FuncData} {ps : List Str} {E : L2.St → XK} {pins : List (Addr × Obj)} {σ : L2.St} {H : Hp} {s : Shared} {Q : VK} {us : List Value} {vs : List V} (F : FnG X.prog X.w X.K X.mg X.base k fa fd ps sp) (hr : Room k X.A) (hgd : X.A.guards = some []) (hb : Binds X.K fd ps []) (hx : PassesAt (L2.CX X.prog X.w) X σ (E σ))
    (I : L2.Inv X pins σ H s) (r : Vals vs us) (h : sp vs H Q (E σ)) : wpAny (model X.prog X.w) X.A (call (.ref fa) us) (EP X pins σ Q) X.xe s := by
  have hl : us.length = ps.length := by rw [← r.length]; exact F.len _ _ _ _ h
  have b := hb s us I.kIn (by rw [List.append_nil]; exact hl)
  rw [List.append_nil] at b
  refine wpAny_call (codeAny_mono (F.run X.A X.stack s H ⟨us, []⟩ us vs Q (E σ) hr hgd I.env0 b r h) fun r s' hq => ?_)
  cases r with
  | error e => exact hx pins H s e s' I hq
  | ok fl =>
    cases fl with
    | ret u => exact I.after hq
    | next => exact False.elim hq
    | brk => exact False.elim hq
    | cont => exact False.elim hq
theorem s_callF {kp : Bool} {f : Str} {xs : Exs} {σ : L2.St} {H : Hp} {Q : VK} (h : sE X C W (.call kp f xs) σ H Q) : sA X C W xs σ H fun vs H1 => spOf X.K X.mg C f vs H1 Q (WE W σ) := by
  obtain ⟨fb, ι, env, st, hE, hS, hp⟩ := h
  exact ⟨fb, ι, env, st, hE, hS, (Po.bind (m := evA C xs env) hp).mono (fun ds st1 ι1 H1 g S q vs r => call_ok S r q) fun _ _ _ _ _ _ q => q⟩
theorem s_call (ok : Cok G X C W k) {kp : Bool} {f : Str} {F : Fn} {xs : Exs} {e : Expr} {es : List Expr} {p pos : Pos} (hF : G.fns f = some F) (hg : Gl X f) (ha : PA X (e :: es) (sA X C W xs)) (hdb : (f == ("__debug__" : Str)) = false) (h1 : nst e = true) (h2 : es.all nst = true) :
    PE X (.Call (.Name f p) (e :: es) [] pos) (sE X C W (.call kp f xs)) := by
  obtain ⟨fa, fd, ps, hps, hm, hk, hb, FG⟩ := ok.txt.fn f F hF
  refine ⟨fun pins s σ H Q I h => ?_⟩
  refine wpAny_Call_Name_kw (ld_glob I hg hm ?_ hdb)
  refine PySem.W.callWith_K (h₀ := X.base) I.ok.mod.kin hk (thn (ha.run pos pins s σ H _ I (s_callF h)) fun us s1 ⟨vs, H1, I1, r, q⟩ => ⟨I1.kIn, ?_⟩) (star_one h1) (star_all h2)
  exact run_g FG ok.room ok.gd hb (passAt ok.tk σ) I1 r q
theorem s_call0 (ok : Cok G X C W k) {kp : Bool} {f : Str} {F : Fn} {p pos : Pos} (hF : G.fns f = some F) (hg : Gl X f) (hdb : (f == ("__debug__" : Str)) = false) :
    PE X (.Call (.Name f p) [] [] pos) (sE X C W (.call kp f .nil)) := by
  obtain ⟨fa, fd, ps, hps, hm, hk, hb, FG⟩ := ok.txt.fn f F hF
  refine ⟨fun pins s σ H Q I h => ?_⟩
  refine wpAny_Call_Name_kw (ld_glob I hg hm ?_ hdb)
  have q : spOf X.K X.mg C f [] H Q (WE W σ) := by
    obtain ⟨fb, ι, env, st, hE, hS, hp⟩ := s_callF h
    exact Po.ret (a := ([] : List D)) hp hS [] rfl
  exact PySem.W.callWith_K0 I.kIn hk (run_g (us := []) FG ok.room ok.gd hb (passAt ok.tk σ) I .nil q)

/-! ### built-ins -/
inductive Bt (X : Cx) (f : Str) : Prop where
  | fn (id : String) (h : bootBuiltins f = some (.builtin id)) (r : CallR X (.builtin id) (rBlt X.K (bltD f)))
  | ty (T : String) (h : bootBuiltins f = some (.type T)) (r : CallR X (.type T) (rBlt X.K (bltD f)))
def btNames : List Str := ["len", "all", "any", "tuple", "list", "sum", "max", "min", "int", "repr"]
theorem bt_of (ok : Cok G X C W k) {f : Str} (h : f ∈ btNames) : Bt X f := by
  simp only [btNames, List.mem_cons, List.not_mem_nil, or_false] at h
  rcases h with rfl | rfl | rfl | rfl | rfl | rfl | rfl | rfl | rfl | rfl
  · exact .fn "len" (by decide +kernel) bt_len
  · exact .fn "all" (by decide +kernel) (bt_all ok.calm)
  · exact .fn "any" (by decide +kernel) (bt_any ok.calm)
  · exact .ty "tuple" (by decide +kernel) bt_tuple
  · exact .ty "list" (by decide +kernel) bt_list
  · exact .fn "sum" (by decide +kernel) (bt_sum ok.calm)
  · exact .fn "max" (by decide +kernel) (bt_max ok.calm)
  · exact .fn "min" (by decide +kernel) (bt_min ok.calm)
  · exact .ty "int" (by decide +kernel) bt_int
  · exact .fn "repr" (by decide +kernel) (bt_repr ok.gd ok.hu)
theorem bt_nm {f : Str} (h : f ∈ btNames) : f ≠ "__name__" ∧ (f == ("__debug__" : Str)) = false := by
  have : btNames.all (fun f => f != "__name__" && !(f == ("__debug__" : Str))) = true := by decide +kernel
  have := List.all_eq_true.mp this f h
  simpa using this
theorem s_bltF {f : Str} {xs : Exs} {σ : L2.St} {H : Hp} {Q : VK} (h : sE X C W (.blt f xs) σ H Q) : sA X C W xs σ H fun vs H1 => rBlt X.K (bltD f) vs H1 Q := by
  obtain ⟨fb, ι, env, st, hE, hS, hp⟩ := h
  refine ⟨fb, ι, env, st, hE, hS, (Po.bind (m := evA C xs env) hp).mono (fun ds st1 ι1 H1 g S q vs r => ?_) fun _ _ _ _ _ _ q => q⟩
  obtain ⟨d, e, q⟩ := q.rd
  exact ⟨fb, ι1, st1, ds, d, S, r, e, Yl.of q⟩
theorem s_blt (ok : Cok G X C W k) {f : Str} {xs : Exs} {e : Expr} {es : List Expr} {p pos : Pos} (hf : f ∈ btNames) (hm : f ∈ G.blts) (hg : Gl X f) (ha : PA X (e :: es) (sA X C W xs)) (h1 : nst e = true) (h2 : es.all nst = true) :
    PE X (.Call (.Name f p) (e :: es) [] pos) (sE X C W (.blt f xs)) := by
  obtain ⟨n1, n2⟩ := bt_nm hf
  cases bt_of ok hf with
  | fn id hv r => exact PE.weaken (pe_callB r hg (ok.txt.blt f hm) hv ha n1 n2 (star_one h1) (star_all h2)) fun σ H Q h => s_bltF h
  | ty T hv r => exact PE.weaken (pe_callTy r hg (ok.txt.blt f hm) hv ha n1 n2 (star_one h1) (star_all h2)) fun σ H Q h => s_bltF h
/-- list(x), to be changed -/
theorem s_lsa (ok : Cok G X C W k) {xs : Exs} {e : Expr} {p pos : Pos} (hm : ("list" : Str) ∈ G.blts) (hg : Gl X "list") (ha : PA X [e] (sA X C W xs)) (h1 : nst e = true) : PE X (.Call (.Name "list" p) [e] [] pos) (sE X C W (.lsa xs)) :=
  PE.weaken (pe_callTy bt_listA hg (ok.txt.blt _ hm) (by decide +kernel) ha (by decide) (by decide) (star_one h1) rfl) fun σ H Q ⟨fb, ι, env, st, hE, hS, hp⟩ => by
    refine ⟨fb, ι, env, st, hE, hS, (Po.bind (m := evA C xs env) hp).mono (fun ds st1 ι1 H1 g S q vs r => ?_) fun _ _ _ _ _ _ q => q⟩
    obtain ⟨d, e1, q⟩ := (Po.bind q).rd
    have q := q ι1 H1 Grow.refl S
    cases d with
    | lst ys => exact ⟨fb, ι1, st1, ds, ys, S, r, e1, q⟩
    | _ => exact q.elim
theorem s_isi (ok : Cok G X C W k) {t : String} {a : Ex} {a' : Expr} {p p2 pos : Pos} (ht : t ∈ isiTys) (hi : ("isinstance" : Str) ∈ G.blts) (hg : Gl X "isinstance") (hm : Str.ofString t ∈ G.blts) (hg2 : Gl X (Str.ofString t)) (ha : PE X a' (sE X C W a)) (h1 : nst a' = true) :
    PE X (.Call (.Name "isinstance" p) [a', .Name (Str.ofString t) p2] [] pos) (sE X C W (.isi a t)) := by
  have ft : bootBuiltins (Str.ofString t) = some (.type t) ∧ Str.ofString t ≠ "__name__" ∧ (Str.ofString t == ("__debug__" : Str)) = false := by
    simp only [isiTys, List.mem_cons, List.not_mem_nil, or_false] at ht
    rcases ht with rfl | rfl | rfl | rfl | rfl <;> exact ⟨by decide +kernel, by decide +kernel, by decide +kernel⟩
  have pt : PE X (.Name (Str.ofString t) p2) (tC (.ty t)) := pe_bltn hg2 (ok.txt.blt _ hm) ft.1 rfl ft.2.1 ft.2.2
  refine PE.weaken (pe_callB (bt_isi ht) hg (ok.txt.blt _ hi) (by decide +kernel) (pa_cons ha (pa_cons pt pa_nil (by rfl)) (star_one h1)) (by decide) (by decide) (star_one h1) rfl) fun σ H Q h => ?_
  exact (s_bind1 (f := fun x => M.rd fun st => (tyOf st x).map fun u => .bl (isTy u t)) (fun _ => rfl) h).mono fun x H1 ⟨fb, ι, st, dx, S, rx, q⟩ => by
    obtain ⟨d, e, q⟩ := q.rd
    cases hu : tyOf st dx with
    | none => rw [hu] at e; cases e
    | some u =>
      rw [hu] at e; cases e
      exact ⟨fb, ι, st, dx, x, u, S, rx, hu, rfl, Yl.of q⟩
/-! ### methods -/
theorem metTy_list {m : Str} {x : D} {st : Store} (hm : m = "append" ∨ m = "insert") (h : metTy m x st = some ()) {K : PySem.W.Frag} {H : Hp} {fb ι : List Addr} {v : V} (S : RelS K H fb ι st) (r : Rel K H fb ι x v) : tyV K "list" v H := by
  cases x with
  | loc n =>
    obtain ⟨a, rfl, hi⟩ := r
    unfold metTy at h
    cases q : st[n]? with
    | none => simp only [q] at h; cases h
    | some o =>
      simp only [q] at h
      cases o with
      | dic l d ks vs => cases h
      | lst l ds =>
        have ro := S.at_ n _ a q hi
        refine .inl ⟨rfl, ?_⟩
        cases l with
        | true => obtain ⟨od, xs, h1, _⟩ := ro; exact ⟨xs, .inl (.inr ⟨od, h1⟩)⟩
        | false => obtain ⟨xs, h1, _⟩ := ro; exact ⟨xs, SqL.of h1⟩
  | int i =>
    have h : (if m == ("bit_length" : Str) then some () else none) = some () := h
    have z : (m == ("bit_length" : Str)) = false := by rcases hm with rfl | rfl <;> decide +kernel
    rw [z] at h
    cases h
  | _ => cases h
theorem s_metF {m : Str} {a : Ex} {xs : Exs} (hm : m = "append" ∨ m = "insert") {σ : L2.St} {H : Hp} {Q : VK} (h : sE X C W (.met m a xs) σ H Q) : tBM X.K "list" (rMet X.K (metD m)) (sE X C W a) (sA X C W xs) σ H Q := by
  obtain ⟨fb, ι, env, st, hE, hS, hp⟩ := h
  refine ⟨fb, ι, env, st, hE, hS, (Po.bind (m := evE C a env) hp).mono (fun dx st1 ι1 H1 g S q v r => ?_) fun _ _ _ _ _ _ q => q⟩
  obtain ⟨u, hu, q⟩ := (Po.bind (m := M.rd (metTy m dx)) q).rd
  have q := q ι1 H1 Grow.refl S
  refine ⟨metTy_list hm hu S r, fb, ι1, env, st1, hE.mono g, S, (Po.bind (m := evA C xs env) q).mono (fun ds st2 ι2 H2 g2 S2 q vs rs => ?_) fun _ _ _ _ _ _ q => q⟩
  obtain ⟨d, st3, e, q⟩ := q.wr
  exact ⟨fb, ι2, st2, dx, ds, d, st3, S2, r.mono g2, rs, e, q⟩
theorem s_app {a : Ex} {xs : Exs} {x : Str} {p apos cpos : Pos} {e : Expr} (ha : PE X (.Name x p) (sE X C W a)) (he : PA X [e] (sA X C W xs)) (h1 : nst e = true) (hline : (apos.endLine == cpos.line) = true) : PE X (.Call (.Attribute (.Name x p) "append" apos) [e] [] cpos) (sE X C W (.met "append" a xs)) :=
  PE.weaken (pe_bm F.plainAttrs_list F.slot_list_append F.type_list_append md_append ha he rfl (by rw [star_one h1]; rfl) hline (star_one h1) rfl) fun σ H Q h => s_metF (.inl rfl) h
theorem s_ins {a : Ex} {xs : Exs} {x : Str} {p apos cpos : Pos} {e e2 : Expr} (ha : PE X (.Name x p) (sE X C W a)) (he : PA X [e, e2] (sA X C W xs)) (h1 : nst e = true) (h2 : nst e2 = true) (hline : (apos.endLine == cpos.line) = true) : PE X (.Call (.Attribute (.Name x p) "insert" apos) [e, e2] [] cpos) (sE X C W (.met "insert" a xs)) :=
  PE.weaken (pe_bm F.plainAttrs_list F.slot_list_insert F.type_list_insert md_insert ha he rfl (by rw [star_one h1, star_one h2]; rfl) hline (star_one h1) (by rw [star_one h2]; rfl)) fun σ H Q h => s_metF (.inr rfl) h
theorem metD_bits {x : D} {vs : List D} {st : Store} : metD "bit_length" x vs st = match x, vs with
    | .int i, [] => some (.int (Builtin.Int.intBits i : Nat), st)
    | _, _ => none := by
  unfold metD
  rw [if_neg (by decide +kernel), if_neg (by decide +kernel), if_pos (by decide +kernel)]
  all_goals rfl
theorem s_bitl {a : Ex} {x : Str} {p apos cpos : Pos} (ha : PE X (.Name x p) (sE X C W a)) (hline : (apos.endLine == cpos.line) = true) : PE X (.Call (.Attribute (.Name x p) "bit_length" apos) [] [] cpos) (sE X C W (.met "bit_length" a .nil)) :=
  PE.weaken (pe_bits ha rfl hline) fun σ H Q ⟨fb, ι, env, st, hE, hS, hp⟩ => by
    refine ⟨fb, ι, env, st, hE, hS, (Po.bind (m := evE C a env) hp).mono (fun dx st1 ι1 H1 g S q v r => ?_) fun _ _ _ _ _ _ q => q⟩
    obtain ⟨u, hu, q⟩ := (Po.bind (m := M.rd (metTy "bit_length" dx)) q).rd
    have q := q ι1 H1 Grow.refl S
    have q := q.bind
    have q : Po X.K fb (M.wr (metD "bit_length" dx []) st1) (okE X.K fb Q) (exE X.mg W σ) ι1 H1 := q ι1 H1 Grow.refl S
    obtain ⟨d, st3, e, q⟩ := q.wr
    rw [metD_bits] at e
    cases dx with
    | int i =>
      cases e
      cases r
      exact ⟨i, rfl, q ι1 H1 Grow.refl S _ rfl⟩
    | _ => cases e
/-! ### targets -/
mutual
def gOf (K : PySem.W.Frag) : Tg → TG
  | .nm i => gName i
  | .tp ts => gTup K (tgLen ts) (gsOf K ts)
def gsOf (K : PySem.W.Frag) : Tgs → TGs
  | .nil => gNil
  | .cons t r => gCons (gOf K t) (gsOf K r)
def tgLen : Tgs → Nat
  | .nil => 0
  | .cons _ r => tgLen r + 1
end
mutual
def tgIx : Tg → List Nat
  | .nm i => [i]
  | .tp ts => tgsIx ts
def tgsIx : Tgs → List Nat
  | .nil => []
  | .cons t r => tgIx t ++ tgsIx r
end
theorem RelE.set {K : PySem.W.Frag} {H : Hp} {fb ι : List Addr} {env : Env} {σ : L2.St} {i : Nat} {d : D} {v : V} (h : RelE K H fb ι env σ) (r : Rel K H fb ι d v) : RelE K H fb ι (env.set i (some d)) (σ.set i (some v)) := by
  refine ⟨by simp [h.1], fun j d' e => ?_⟩
  by_cases z : i = j
  · subst z
    by_cases hl : i < env.length
    · rw [List.getElem?_set_self hl] at e; cases e
      exact ⟨v, by rw [List.getElem?_set_self (by rw [← h.1]; exact hl)], r⟩
    · rw [List.getElem?_eq_none (by simpa using hl)] at e; cases e
  · rw [List.getElem?_set_ne z] at e ⊢
    exact h.2 j d' e
/-- the slots as the target leaves them -/
structure Sets (ix : List Nat) (σ σ' : L2.St) : Prop where
  len : σ'.length = σ.length
  out : ∀ i, i ∉ ix → σ'[i]? = σ[i]?
theorem tgs_len : ∀ {ts : Tgs} {ds : List D} {env env' : Env}, tgsSet ts ds env = some env' → ds.length = tgLen ts
  | .nil, [], _, _, _ => rfl
  | .nil, _ :: _, _, _, h => by cases h
  | .cons t ts, [], _, _, h => by cases h
  | .cons t ts, d :: ds, env, env', h => by
    have h : (tgSet t d env).bind (fun e => tgsSet ts ds e) = some env' := h
    cases z : tgSet t d env with
    | none => rw [z] at h; cases h
    | some e1 =>
      rw [z] at h
      show ds.length + 1 = tgLen ts + 1
      rw [tgs_len h]
mutual
theorem tg_ok {K : PySem.W.Frag} {H : Hp} {fb ι : List Addr} : ∀ (t : Tg) {d : D} {v : V} {env env' : Env} {σ : L2.St} {Q : L2.St → Hp → Prop}, Rel K H fb ι d v → RelE K H fb ι env σ → tgSet t d env = some env' → (∀ σ', RelE K H fb ι env' σ' → Sets (tgIx t) σ σ' → Q σ' H) → gOf K t v σ H Q
  | .nm i, d, v, env, env', σ, Q, r, he, h, q => by
    have h : (if i < env.length then some (env.set i (some d)) else none) = some env' := h
    split at h
    · cases h
      exact q _ (he.set r) ⟨by simp, fun j hj => by rw [List.getElem?_set_ne]; simpa [tgIx, eq_comm] using hj⟩
    · cases h
  | .tp ts, d, v, env, env', σ, Q, r, he, h, q => by
    cases d with
    | tup ds =>
      obtain ⟨a, xs, rfl, hq, rx⟩ := tup_of r
      have h : tgsSet ts ds env = some env' := h
      obtain ⟨hl, hg⟩ := tgs_ok ts rx he h q
      exact ⟨a, xs, rfl, hq, hl, hg⟩
    | _ => cases h
theorem tgs_ok {K : PySem.W.Frag} {H : Hp} {fb ι : List Addr} : ∀ (ts : Tgs) {ds : List D} {vs : List V} {env env' : Env} {σ : L2.St} {Q : L2.St → Hp → Prop}, Rels K H fb ι ds vs → RelE K H fb ι env σ → tgsSet ts ds env = some env' → (∀ σ', RelE K H fb ι env' σ' → Sets (tgsIx ts) σ σ' → Q σ' H) → vs.length = tgLen ts ∧ gsOf K ts vs σ H Q
  | .nil, ds, vs, env, env', σ, Q, r, he, h, q => by
    cases ds with
    | nil =>
      cases h
      have r : vs = [] := r
      subst r
      exact ⟨rfl, rfl, q σ he ⟨rfl, fun _ _ => rfl⟩⟩
    | cons d ds => cases h
  | .cons t ts, ds, vs, env, env', σ, Q, r, he, h, q => by
    cases ds with
    | nil => cases h
    | cons d ds =>
      obtain ⟨y, ys, rfl, r1, r2⟩ := r
      have h : (tgSet t d env).bind (fun e => tgsSet ts ds e) = some env' := h
      cases z : tgSet t d env with
      | none => rw [z] at h; cases h
      | some e1 =>
        rw [z] at h
        have hl : ys.length = tgLen ts := by rw [← r2.length]; exact tgs_len h
        refine ⟨by simp [tgLen, hl], y, ys, rfl, tg_ok t r1 he z fun σ1 he1 s1 => ?_⟩
        refine (tgs_ok ts r2 he1 h fun σ2 he2 s2 => q σ2 he2 ⟨s2.len.trans s1.len, fun i hi => ?_⟩).2
        have hi : i ∉ tgIx t ∧ i ∉ tgsIx ts := by simpa [tgsIx] using hi
        rw [s2.out i hi.2, s1.out i hi.1]
end
end
end Wk

set_option maxRecDepth 100000
set_option maxHeartbeats 1000000
/-! Wk13: locks, a thing kept apart, list comprehensions. -/
namespace Wk
open PySem PySem.Spec PyProof.Rows L2

section
variable {K : PySem.W.Frag} {H H' : Hp} {fb ι ι' : List Addr} {st st' : Store}
/-! ### locks -/
theorem lock_grow {a : Addr} {od : Obj} {u : HO} (m : a ∈ ι) (h : H a = some u) (mu : Mut (some u)) : Grow ι H ι (upd H a (.frz od u)) := Grow.wr m h fun o' u' z => by subst z; exact mu
theorem RelS.lock {n : Nat} {a : Addr} {u : HO} {od : Obj} (S : RelS K H fb ι st) (hn : lkOf st (some n) = some n) (hi : ι[n]? = some a) (h : H a = some u) : ∃ o, st[n]? = some o ∧ o.locked = false ∧ Mut (some u) ∧ RelS K (upd H a (.frz od u)) fb ι (st.set n (o.setLock true)) := by
  unfold lkOf at hn
  cases q : st[n]? with
  | none => simp only [q] at hn; cases hn
  | some o =>
    simp only [q] at hn
    have ro := S.at_ n o a q hi
    cases o with
    | dic l d ks vs => exact ro.elim
    | lst l ds =>
      cases l with
      | true => cases hn
      | false =>
        obtain ⟨xs, h1, r⟩ := ro
        rw [h] at h1; cases h1
        refine ⟨_, rfl, rfl, trivial, S.wr0 hi h ⟨od, xs, upd_same, ?_⟩⟩
        exact Rels.mono0 (lock_grow (List.mem_of_getElem? hi) h trivial).toGrow0 _ _ r
/-- behind it -/
theorem RelS.unlock {n : Nat} {a : Addr} {u : HO} {od0 : Obj} {s : Store} (S : RelS K H' fb ι' st') (hu : unlk n st' = some s) (hi : ι[n]? = some a) (h : H a = some u) (mu : Mut (some u)) (g : Grow ι (upd H a (.frz od0 u)) ι' H') :
    ∃ od u', H' a = some (.frz od u') ∧ RelS K (upd H' a u') fb ι' s ∧ Grow ι H ι' (upd H' a u') := by
  unfold unlk at hu
  cases q : st'[n]? with
  | none => rw [q] at hu; cases hu
  | some o =>
    rw [q] at hu
    simp only at hu
    split at hu
    · rename_i hl
      cases hu
      have hi' : ι'[n]? = some a := g.at_ hi
      have ro := S.at_ n o a q hi'
      cases o with
      | dic l d ks vs => exact ro.elim
      | lst l ds =>
        cases l with
        | false => cases hl
        | true =>
          obtain ⟨od, xs, h1, r⟩ := ro
          have g0 : Grow0 ι' H' ι' (upd H' a (.lst xs)) := ⟨⟨[], by simp, by simp⟩, fun b w e m => by rw [upd_ne (fun z => m (by rw [z]; exact List.mem_of_getElem? hi'))]; exact e⟩
          refine ⟨od, .lst xs, h1, S.wr0 hi' h1 ⟨xs, upd_same, Rels.mono0 g0 _ _ r⟩, ⟨⟨?_, fun b w e m => ?_⟩, fun b w e => ?_, fun b o' u' e => ?_⟩⟩
          · obtain ⟨new, e, f⟩ := g.pre
            refine ⟨new, e, fun b hb => ?_⟩
            have := f b hb
            by_cases z : b = a
            · subst z; rw [upd_same] at this; cases this
            · rw [upd_ne z] at this; exact this
          · have z : b ≠ a := fun z => m (by rw [z]; exact List.mem_of_getElem? hi)
            rw [upd_ne z]
            exact g.keep b w (by rw [upd_ne z]; exact e) m
          · by_cases z : b = a
            · subst z; exact ⟨_, upd_same⟩
            · rw [upd_ne z]
              exact g.live b w (by rw [upd_ne z]; exact e)
          · have z : b ≠ a := fun z => by subst z; rw [h] at e; cases e; exact mu
            rw [upd_ne z]
            exact g.frz b o' u' (by rw [upd_ne z]; exact e)
    · cases hu
/-! ### a thing kept apart -/
def del (H : Hp) (p : Addr) : Hp := fun a => if a = p then none else H a
theorem del_same {p : Addr} : del H p p = none := by unfold del; rw [if_pos rfl]
theorem del_ne {a p : Addr} (h : a ≠ p) : del H p a = H a := by unfold del; rw [if_neg h]
theorem upd_del {p : Addr} {o : HO} : upd (del H p) p o = upd H p o := by
  funext a
  by_cases z : a = p
  · subst z; rw [upd_same, upd_same]
  · rw [upd_ne z, upd_ne z, del_ne z]
theorem upd_at {p : Addr} {o : HO} (h : H p = some o) : upd H p o = H := by
  funext a
  by_cases z : a = p
  · subst z; rw [upd_same, h]
  · rw [upd_ne z]
theorem grow_del {p : Addr} {o : HO} (hD : H p = none) (g : Grow ι (upd H p o) ι' H') : Grow ι H ι' (del H' p) := by
  have ne : ∀ {b u}, H b = some u → b ≠ p := fun e z => by rw [z, hD] at e; cases e
  refine ⟨⟨?_, fun b w e m => ?_⟩, fun b w e => ?_, fun b o' u' e => ?_⟩
  · obtain ⟨new, e, f⟩ := g.pre
    refine ⟨new, e, fun b hb => ?_⟩
    have := f b hb
    by_cases z : b = p
    · subst z; rw [upd_same] at this; cases this
    · rw [upd_ne z] at this; exact this
  · rw [del_ne (ne e)]; exact g.keep b w (by rw [upd_ne (ne e)]; exact e) m
  · rw [del_ne (ne e)]; exact g.live b w (by rw [upd_ne (ne e)]; exact e)
  · rw [del_ne (ne e)]; exact g.frz b o' u' (by rw [upd_ne (ne e)]; exact e)
theorem Rel.hide {p : Addr} {o : HO} (hD : H p = none) {d : D} {v : V} (r : Rel K H fb ι d v) : Rel K (upd H p o) (p :: fb) ι d v :=
  Rel.tr (fun a u e n m => by
    have z : a ≠ p := fun z => by rw [z, hD] at e; cases e
    exact ⟨by rw [upd_ne z]; exact e, n, fun w => (List.mem_cons.mp w).elim z m⟩) (fun _ _ e => e) d v r
theorem Rel.bare {p : Addr} {d : D} {v : V} (r : Rel K H (p :: fb) ι d v) : Rel K (del H p) fb ι d v :=
  Rel.tr (fun a u e n m => by
    have z : a ≠ p := fun z => m (by rw [z]; exact List.mem_cons_self)
    exact ⟨by rw [del_ne z]; exact e, n, fun w => m (List.mem_cons_of_mem _ w)⟩) (fun _ _ e => e) d v r
theorem RelS.hide {p : Addr} {o : HO} (hD : H p = none) (S : RelS K H fb ι st) : RelS K (upd H p o) (p :: fb) ι st := by
  have f := S.fresh hD
  refine ⟨S.len, S.nd, fun a m e => ?_, fun a m w => ?_, fun n ob a h1 h2 => ?_⟩
  · by_cases z : a = p
    · subst z; rw [upd_same] at e; cases e
    · rw [upd_ne z] at e
      exact S.fbs a ((List.mem_cons.mp m).resolve_left z) e
  · rcases List.mem_cons.mp w with z | z
    · subst z; exact f.1 m
    · exact S.dj a m z
  · refine RelO.tr (fun b u e n m => ?_) (fun _ _ e => e) (fun u e => ?_) (S.at_ n ob a h1 h2)
    · have z : b ≠ p := fun z => by rw [z, hD] at e; cases e
      exact ⟨by rw [upd_ne z]; exact e, n, fun w => (List.mem_cons.mp w).elim z m⟩
    · have z : a ≠ p := fun z => by rw [z, hD] at e; cases e
      rw [upd_ne z]; exact e
theorem RelS.bare {p : Addr} (hf : ∀ a ∈ fb, a ≠ p) (S : RelS K H (p :: fb) ι st) : RelS K (del H p) fb ι st := by
  refine ⟨S.len, S.nd, fun a m e => ?_, fun a m w => S.dj a m (List.mem_cons_of_mem _ w), fun n ob a h1 h2 => ?_⟩
  · rw [del_ne (hf a m)] at e
    exact S.fbs a (List.mem_cons_of_mem _ m) e
  · have z : a ≠ p := fun z => S.dj a (List.mem_of_getElem? h2) (by rw [z]; exact List.mem_cons_self)
    refine RelO.tr (fun b u e n m => ?_) (fun _ _ e => e) (fun u e => by rw [del_ne z]; exact e) (S.at_ n ob a h1 h2)
    have z : b ≠ p := fun z => m (by rw [z]; exact List.mem_cons_self)
    exact ⟨by rw [del_ne z]; exact e, n, fun w => m (List.mem_cons_of_mem _ w)⟩
theorem RelE.tr {fb' : List Addr} {env : Env} {σ : L2.St} (h : RelE K H fb ι env σ) (m : ∀ (d : D) v, Rel K H fb ι d v → Rel K H' fb' ι' d v) : RelE K H' fb' ι' env σ :=
  ⟨h.1, fun i d e => let ⟨v, h1, r⟩ := h.2 i d e; ⟨v, h1, m d v r⟩⟩
/-! ### the block's names -/
theorem wipeE_get {env : Env} {i : Nat} {d : D} : ∀ {vs : List Nat}, (wipeE env vs)[i]? = some (some d) → env[i]? = some (some d) ∧ i ∉ vs
  | [], h => ⟨h, by simp⟩
  | v :: vs, h => by
    unfold wipeE at h
    by_cases hi : v = i
    · subst hi
      by_cases hv : v < (wipeE env vs).length
      · rw [List.getElem?_set_self hv] at h; cases h
      · rw [List.getElem?_eq_none (by simpa using hv)] at h; cases h
    · rw [List.getElem?_set_ne hi] at h
      obtain ⟨h1, h2⟩ := wipeE_get h
      exact ⟨h1, by simp only [List.mem_cons, not_or]; exact ⟨fun e => hi e.symm, h2⟩⟩
theorem wipeE_len {env : Env} : ∀ {vs : List Nat}, (wipeE env vs).length = env.length
  | [] => rfl
  | v :: vs => by unfold wipeE; rw [List.length_set, wipeE_len]
theorem wipe_out {σ : L2.St} {i : Nat} : ∀ {vs : List Nat}, i ∉ vs → (wipe σ vs)[i]? = σ[i]?
  | [], _ => rfl
  | v :: vs, h => by
    unfold wipe
    rw [List.getElem?_set_ne (fun e => h (by rw [e]; exact List.mem_cons_self)), wipe_out fun z => h (List.mem_cons_of_mem _ z)]
theorem wipe_in {σ : L2.St} {i : Nat} : ∀ {vs : List Nat}, i ∈ vs → i < σ.length → (wipe σ vs)[i]? = some none
  | [], h, _ => by cases h
  | v :: vs, h, hl => by
    unfold wipe
    by_cases e : v = i
    · subst e
      rw [List.getElem?_set_self (by rw [wipe_length]; exact hl)]
    · rw [List.getElem?_set_ne e]
      exact wipe_in ((List.mem_cons.mp h).resolve_left fun z => e z.symm) hl
theorem RelE.wipe {env : Env} {σ : L2.St} {vs : List Nat} (h : RelE K H fb ι env σ) : RelE K H fb ι (wipeE env vs) (wipe σ vs) := by
  refine ⟨by rw [wipeE_len, wipe_length]; exact h.1, fun i d e => ?_⟩
  obtain ⟨h1, h2⟩ := wipeE_get e
  rw [wipe_out h2]
  exact h.2 i d h1
theorem wipe_sets {σ σ2 : L2.St} {vs ix : List Nat} (h : Sets ix (wipe σ vs) σ2) (hs : ∀ i ∈ ix, i ∈ vs) : wipe σ2 vs = wipe σ vs := by
  have hl : σ2.length = σ.length := by rw [h.len, wipe_length]
  refine List.ext_getElem? fun i => ?_
  by_cases hi : i ∈ vs
  · by_cases hlt : i < σ.length
    · rw [wipe_in hi (by rw [hl]; exact hlt), wipe_in hi hlt]
    · rw [List.getElem?_eq_none (by rw [wipe_length, hl]; omega), List.getElem?_eq_none (by rw [wipe_length]; omega)]
  · rw [wipe_out hi, h.out i fun z => hi (hs i z)]
end
end Wk

set_option maxRecDepth 100000
set_option maxHeartbeats 1000000
/-! Wk14: list comprehensions. -/
namespace Wk
open PySem PySem.Spec PyProof.Rows L2

section
variable {G : Pr} {X : Cx} {C : Ctx} {W : WX} {k : Nat}
def unQ (X : Cx) (Q : VK) : VK := fun v H => Q v H ∨ ∃ a od u, H a = some (.frz od u) ∧ (∀ o' u', X.H_0 a ≠ some (.frz o' u')) ∧ Q v (upd H a u)
theorem PE.unl {e : Expr} {t : TE} (h : PE X e t) : PE X e (fun σ H Q => t σ H (unQ X Q)) :=
  ⟨fun pins s σ H Q I q => thn (h.run pins s σ H _ I q) fun v s1 ⟨x, H1, I1, r1, q1⟩ => by
    rcases q1 with q1 | ⟨a, od, u, h1, h2, q1⟩
    · exact ⟨x, H1, I1, r1, q1⟩
    · exact ⟨x, _, I1.unlock h1 h2, r1, q1⟩⟩
/-! ### a comprehension's turns -/
def WN : WX := fun _ _ _ _ => False
def lcF (C : Ctx) (e : Ex) (tg : Tg) (hi : Bool) (c : Ex) (vs : List Nat) (env : Env) (d : D) : M (Option D) := M.of (tgSet tg d (wipeE env vs)) >>= fun env' =>
  (if hi then evE C c env' >>= asB else pure true) >>= fun r => if r then evE C e env' >>= fun y => pure (some y) else pure none
def cons? (y : Option D) (ys : List D) : List D := match y with
  | some y => y :: ys
  | none => ys
theorem each_inv {f : D → M (Option D)} {d : D} {ds ys : List D} {st st2 : Store} (h : eachM f (d :: ds) st = some (.ok ys st2)) : ∃ y st3 ys3, f d st = some (.ok y st3) ∧ eachM f ds st3 = some (.ok ys3 st2) ∧ ys = cons? y ys3 := by
  have h : M.bind (f d) (fun y => M.bind (eachM f ds) fun ys => M.ret (cons? y ys)) st = some (.ok ys st2) := h
  unfold M.bind at h
  cases q : f d st with
  | none => rw [q] at h; cases h
  | some o =>
    rw [q] at h
    cases o with
    | ex e s => cases h
    | ok y st3 =>
      simp only at h
      cases q2 : eachM f ds st3 with
      | none => rw [q2] at h; cases h
      | some o =>
        rw [q2] at h
        cases o with
        | ex e s => cases h
        | ok ys3 st4 =>
          cases h
          exact ⟨y, st3, ys3, rfl, q2, rfl⟩
def tTst (X : Cx) (C : Ctx) (hi : Bool) (c : Ex) : TT := if hi then sT X C WN c else tYes
theorem each_lc {J : It} {its ys : List D} {fb ι0 : List Addr} {H0 : Hp} {st0 st2 : Store} {σ : L2.St} {env : Env} {e c : Ex} {tg : Tg} {hi : Bool} {vs : List Nat} {Qd : Hp → Prop} {p : Addr}
    (S0 : RelS X.K H0 fb ι0 st0) (he : RelE X.K H0 fb ι0 env σ) (hJ : Src X.K fb ι0 H0 its J) (hz : its.length ≤ sizeLine) (htg : ∀ i ∈ tgIx tg, i ∈ vs)
    (hev : eachM (lcF C e tg hi c vs env) its st0 = some (.ok ys st2)) (hp : H0 p = none)
    (hd : ∀ ι' H' xs, Grow ι0 H0 ι' H' → RelS X.K H' fb ι' st2 → Rels X.K H' fb ι' ys xs → H' p = none → Qd (upd H' p (.lst xs))) :
    ∃ W : Nat → Nat → Hp → Prop, (∃ m, W 0 m (upd H0 p (.lst []))) ∧ ∀ i m H, W i m H →
      (J.stop i H ∧ Qd H) ∨ (J.go i H ∧ ∃ Nx : Hp → Prop, (∀ H', Nx H' → ∃ m', m' < m ∧ W (i + 1) m' H') ∧ ∀ x H', J.yld i H x H' → gOf X.K tg x (wipe σ vs) H' fun σ2 H2 => wipe σ2 vs = wipe σ vs ∧ tTst X C hi c σ2 H2 fun b H3 =>
        if b = true then sE X C WN e σ2 H3 fun y H4 => ∃ acc, H4 p = some (.lst acc) ∧ acc.length < sizeLine ∧ Nx (upd H4 p (.lst (acc ++ [y]))) else Nx H3) := by
  obtain ⟨Gp, Y, w, hG, hY⟩ := hJ.ex
  have hfb : ∀ a ∈ p :: fb, a ∈ fb ∨ H0 a = none := fun a m => (List.mem_cons.mp m).elim (fun z => .inr (z ▸ hp)) .inl
  have nfb : ∀ a ∈ fb, a ≠ p := fun a m z => S0.fbs a m (z ▸ hp)
  refine lc_it w (fun i H => ∃ ι st done xs Hc ys', H = upd Hc p (.lst xs) ∧ Hc p = none ∧ Grow ι0 H0 ι Hc ∧ RelS X.K Hc fb ι st ∧ Rels X.K Hc fb ι done xs ∧ done.length ≤ i ∧ eachM (lcF C e tg hi c vs env) (its.drop i) st = some (.ok ys' st2) ∧ ys = done ++ ys')
    ⟨ι0, st0, [], [], H0, ys, rfl, hp, Grow.refl, S0, rfl, Nat.le_refl _, hev, rfl⟩ ?_ ?_ ?_
  · rintro i H _ ⟨ι, st, done, xs, Hc, ys', rfl, hc, g, S, r, hl, h1, h2⟩
    exact hG ι _ (g.trans (Grow.laid hc))
  · rintro i x _ H' hlt ⟨ι, st, done, xs, Hc, ys', rfl, hc, g, S, r, hl, h1, h2⟩ y
    have gH : Grow ι0 H0 ι (upd Hc p (.lst xs)) := g.trans (Grow.laid hc)
    obtain ⟨d, hdi, gY, SY, rd⟩ := hY i x ι _ H' st (p :: fb) hlt hfb gH (S.hide hc) y
    have hdr : its.drop i = d :: its.drop (i + 1) := by
      rw [List.drop_eq_getElem_cons hlt]
      congr 1
      rw [List.getElem?_eq_getElem hlt] at hdi
      exact Option.some.inj hdi
    rw [hdr] at h1
    obtain ⟨yo, st3, ys3, hf, hrest, rfl⟩ := each_inv h1
    have np : p ∉ ι := (S.fresh hc).1
    have hE : RelE X.K H' (p :: fb) ι (wipeE env vs) (wipe σ vs) := ((he.tr fun d v r => (Rel.mvfb hfb r).mono (gH.trans gY)).wipe)
    -- what is wanted behind the turn
    have fin : ∀ {ι3 : List Addr} {H3 : Hp} {xs' : List V} {done' : List D}, Grow ι H' ι3 H3 → RelS X.K H3 (p :: fb) ι3 st3 → Rels X.K (del H3 p) fb ι3 done' xs' → done'.length ≤ i + 1 → ys = done' ++ ys3 →
        ∃ ι st done xs Hc ys', upd H3 p (.lst xs') = upd Hc p (.lst xs) ∧ Hc p = none ∧ Grow ι0 H0 ι Hc ∧ RelS X.K Hc fb ι st ∧ Rels X.K Hc fb ι done xs ∧ done.length ≤ i + 1 ∧ eachM (lcF C e tg hi c vs env) (its.drop (i + 1)) st = some (.ok ys' st2) ∧ ys = done ++ ys' := fun {ι3 H3 xs' done'} g3 S3 r3 hl3 e3 =>
      ⟨ι3, st3, done', xs', del H3 p, ys3, upd_del.symm, del_same, g.trans (grow_del hc (gY.trans g3)), S3.bare nfb, r3, hl3, hrest, e3⟩
    have old : ∀ {ι3 : List Addr} {H3 : Hp}, Grow ι H' ι3 H3 → Rels X.K (del H3 p) fb ι3 done xs := fun {ι3 H3} g3 => Rels.mono (grow_del hc (gY.trans g3)) _ _ r
    have pk : ∀ {ι3 : List Addr} {H3 : Hp}, Grow ι H' ι3 H3 → H3 p = some (.lst xs) := fun {ι3 H3} g3 => (gY.trans g3).keep p _ upd_same np
    let okF : Option D → Store → List Addr → Hp → Prop := fun yo st' ι3 H3 => match yo with
      | none => ∃ ι st done xs Hc ys', H3 = upd Hc p (.lst xs) ∧ Hc p = none ∧ Grow ι0 H0 ι Hc ∧ RelS X.K Hc fb ι st ∧ Rels X.K Hc fb ι done xs ∧ done.length ≤ i + 1 ∧ eachM (lcF C e tg hi c vs env) (its.drop (i + 1)) st = some (.ok ys' st2) ∧ ys = done ++ ys'
      | some y => ∀ v, Rel X.K H3 (p :: fb) ι3 y v → ∃ acc, H3 p = some (.lst acc) ∧ acc.length < sizeLine ∧ ∃ ι st done xs Hc ys', upd H3 p (.lst (acc ++ [v])) = upd Hc p (.lst xs) ∧ Hc p = none ∧ Grow ι0 H0 ι Hc ∧ RelS X.K Hc fb ι st ∧ Rels X.K Hc fb ι done xs ∧ done.length ≤ i + 1 ∧ eachM (lcF C e tg hi c vs env) (its.drop (i + 1)) st = some (.ok ys' st2) ∧ ys = done ++ ys'
    have po : Po X.K (p :: fb) (lcF C e tg hi c vs env d st) okF (fun _ _ _ _ => False) ι H' := by
      rw [hf]
      intro ι3 H3 g3 S3
      cases yo with
      | none =>
        obtain ⟨a1, a2, a3, a4, a5, a6, q, rest⟩ := fin g3 S3 (old g3) (Nat.le_succ_of_le hl) h2
        exact ⟨a1, a2, a3, a4, a5, a6, by rw [← q, upd_at (pk g3)], rest⟩
      | some y =>
        intro v rv
        refine ⟨xs, pk g3, by rw [← r.length]; omega, fin g3 S3 ((old g3).append (Rels.one rv.bare)) (by simp; omega) (by rw [h2]; show done ++ y :: ys3 = _; simp)⟩
    obtain ⟨env', htgs, po⟩ := (Po.bind (m := M.of (tgSet tg d (wipeE env vs))) po).of
    have po := po ι H' Grow.refl SY
    refine tg_ok tg rd hE htgs fun σ2 hE2 sets => ⟨wipe_sets sets htg, ?_⟩
    have els : ∀ {b : Bool} {st3' : Store} {ι3 : List Addr} {H3 : Hp}, Grow ι H' ι3 H3 → RelS X.K H3 (p :: fb) ι3 st3' → Po X.K (p :: fb) ((if b = true then evE C e env' >>= fun y => pure (some y) else pure none : M (Option D)) st3') okF (fun _ _ _ _ => False) ι3 H3 →
        if b = true then sE X C WN e σ2 H3 fun y H4 => ∃ acc, H4 p = some (.lst acc) ∧ acc.length < sizeLine ∧ ∃ ι st done xs Hc ys', upd H4 p (.lst (acc ++ [y])) = upd Hc p (.lst xs) ∧ Hc p = none ∧ Grow ι0 H0 ι Hc ∧ RelS X.K Hc fb ι st ∧ Rels X.K Hc fb ι done xs ∧ done.length ≤ i + 1 ∧ eachM (lcF C e tg hi c vs env) (its.drop (i + 1)) st = some (.ok ys' st2) ∧ ys = done ++ ys'
        else ∃ ι st done xs Hc ys', H3 = upd Hc p (.lst xs) ∧ Hc p = none ∧ Grow ι0 H0 ι Hc ∧ RelS X.K Hc fb ι st ∧ Rels X.K Hc fb ι done xs ∧ done.length ≤ i + 1 ∧ eachM (lcF C e tg hi c vs env) (its.drop (i + 1)) st = some (.ok ys' st2) ∧ ys = done ++ ys' := fun {b st3' ι3 H3} g3 S3 q => by
      cases b with
      | false => exact Po.ret (a := (none : Option D)) q S3
      | true =>
        rw [if_pos rfl]
        have q : Po X.K (p :: fb) ((evE C e env' >>= fun y => (pure (some y) : M (Option D))) st3') okF (fun _ _ _ _ => False) ι3 H3 := q
        refine ⟨p :: fb, ι3, env', st3', hE2.mono g3, S3, q.bind.mono (fun y st4 ι4 H4 g4 S4 q v rv => ?_) fun _ _ _ _ _ _ q => q.elim⟩
        exact Po.ret (a := some y) q S4 v rv
    cases hi with
    | false => exact els (b := true) Grow.refl SY (Po.bind (m := (pure true : M Bool)) po ι H' Grow.refl SY)
    | true =>
      have po : Po X.K (p :: fb) (((evE C c env' >>= asB) >>= fun r => if r = true then evE C e env' >>= fun y => pure (some y) else pure none) st) okF (fun _ _ _ _ => False) ι H' := po
      refine ⟨p :: fb, ι, env', st, hE2, SY, po.bind.mono (fun b st3' ι3 H3 g3 S3 q => els g3 S3 q) fun _ _ _ _ _ _ q => q.elim⟩
  · rintro H ⟨ι, st, done, xs, Hc, ys', rfl, hc, g, S, r, hl, h1, h2⟩
    rw [List.drop_length] at h1
    cases h1
    rw [List.append_nil] at h2
    subst h2
    exact hd ι Hc xs g S r hc
end
end Wk

set_option maxRecDepth 100000
set_option maxHeartbeats 1000000
/-! Wk15: list comprehensions in the text. -/
namespace Wk
open PySem PySem.Spec PyProof.Rows L2

theorem upd_sw {H : Hp} {a b : Addr} {o u : HO} (h : a ≠ b) : upd (upd H a o) b u = upd (upd H b u) a o := by
  funext c
  by_cases z : c = b
  · subst z; rw [upd_same, upd_ne (fun e => h e.symm), upd_same]
  · rw [upd_ne z]
    by_cases y : c = a
    · subst y; rw [upd_same, upd_same]
    · rw [upd_ne y, upd_ne y, upd_ne z]
theorem lkOf_some {st : Store} {n : Option Nat} {m : Nat} (h : lkOf st n = some m) : n = some m := by
  cases n with
  | none => cases h
  | some n =>
    unfold lkOf at h
    cases q : st[n]? with
    | none => simp only [q] at h; cases h
    | some o =>
      simp only [q] at h
      split at h
      · cases h
      · exact h
theorem wl_free {α : Type} {st : Store} {n : Option Nat} {m : M α} {o : Out α} (hk : lkOf st n = none) (h : withLock n m st = some o) : m st = some o := by
  cases n with
  | none => exact h
  | some n =>
    unfold lkOf at hk
    unfold withLock at h
    cases q : st[n]? with
    | none => simp only [q] at h; cases h
    | some ob =>
      simp only [q] at h hk
      split at hk
      · rename_i hl; rw [if_pos hl] at h; exact h
      · cases hk
theorem wl_ok {α : Type} {st st3 : Store} {n : Nat} {m : M α} {a : α} {ob : Ob} (hq : st[n]? = some ob) (hl : ob.locked = false) (h : withLock (some n) m st = some (.ok a st3)) : ∃ st2, m (st.set n (ob.setLock true)) = some (.ok a st2) ∧ unlk n st2 = some st3 := by
  unfold withLock at h
  simp only [hq, hl] at h
  rw [if_neg Bool.false_ne_true] at h
  cases z : m (st.set n (ob.setLock true)) with
  | none => rw [z] at h; cases h
  | some o =>
    rw [z] at h
    cases o with
    | ok b st2 =>
      have h : (unlk n st2).map (fun s => Out.ok b s) = some (.ok a st3) := h
      cases y : unlk n st2 with
      | none => rw [y] at h; cases h
      | some s => rw [y] at h; cases h; exact ⟨st2, rfl, y⟩
    | ex e st2 =>
      have h : (unlk n st2).map (fun s => (Out.ex e s : Out α)) = some (.ok a st3) := h
      cases y : unlk n st2 with
      | none => rw [y] at h; cases h
      | some s => rw [y] at h; cases h
section
variable {G : Pr} {X : Cx} {C : Ctx} {W : WX} {k : Nat}
theorem lcF_eq {al : Bool} {e c : Ex} {tg : Tg} {ik : IK} {xs : Exs} {hi : Bool} {own : List (Str × Nat)} {env : Env} :
    evE C (.lc al e tg ik xs hi c own) env = (evA C xs env >>= fun vs => M.rd (itD ik vs) >>= fun p => if fit p.1.length then calm (withLock p.2 (eachM (lcF C e tg hi c (own.map (·.2)) env) p.1)) >>= fun ys => mkL al ys else .no) := rfl
theorem s_lcF {al : Bool} {e c : Ex} {tg : Tg} {ik : IK} {xs : Exs} {hi : Bool} {own : List (Str × Nat)} (htg : ∀ i ∈ tgIx tg, i ∈ own.map (·.2)) {σ : L2.St} {H : Hp} {Q : VK} (h : sE X C W (.lc al e tg ik xs hi c own) σ H Q) :
    tLc (sI X C W ik xs) (gOf X.K tg) (tTst X C hi c) (sE X C WN e) (own.map (·.2)) σ H (unQ X Q) := by
  obtain ⟨fb, ι, env, st, hE, hS, hp⟩ := h
  rw [lcF_eq] at hp
  refine ⟨fb, ι, env, st, hE, hS, hp.bind.mono (fun ds st1 ι1 H1 g S q vs r => ?_) fun _ _ _ _ _ _ q => q⟩
  obtain ⟨⟨its, n⟩, e1, q⟩ := (Po.bind q).rd
  have q := (q ι1 H1 Grow.refl S).ite
  cases hf : fit its.length with
  | false => simp only [hf] at q; exact q.elim
  | true =>
    simp only [hf, if_true] at q
    have q := q.bind
    unfold calm at q
    cases hw : withLock n (eachM (lcF C e tg hi c (own.map (·.2)) env) its) st1 with
    | none => rw [hw] at q; exact q.elim
    | some o =>
      rw [hw] at q
      cases o with
      | ex e' s => exact q.elim
      | ok ys st3 =>
        have qf : ∀ ι' H', Grow ι1 H1 ι' H' → RelS X.K H' fb ι' st3 → Po X.K fb (mkL al ys st3) (okE X.K fb Q) (exE X.mg W σ) ι' H' := q
        have he1 := hE.mono g
        refine ⟨fb, ι1, st1, ds, its, n, S, r, e1, ?_⟩
        cases hk : lkOf st1 n with
        | none =>
          refine .inl ⟨rfl, fun J hJ p hp => each_lc S he1 hJ (fit_le hf) htg (wl_free hk hw) hp fun ι' H' zs g' S' r' hp' => .inl ?_⟩
          exact (mk_ok S' r' (qf ι' H' g' S')).2 p hp'
        | some m =>
          have hn := lkOf_some hk
          subst hn
          have hi : ∃ a, ι1[m]? = some a := by
            unfold lkOf at hk
            cases z : st1[m]? with
            | none => simp only [z] at hk; cases hk
            | some o =>
              have hlt : m < ι1.length := by rw [S.len]; exact (List.getElem?_eq_some_iff.mp z).1
              exact ⟨ι1[m], by simp [hlt]⟩
          obtain ⟨a, hi⟩ := hi
          obtain ⟨u, hu⟩ := S.live (List.mem_of_getElem? hi)
          obtain ⟨ob, ho, hol, mu, _⟩ := S.lock (od := default) hk hi hu
          obtain ⟨st2, hev, hul⟩ := wl_ok ho hol hw
          refine .inr ⟨m, a, u, rfl, hi, hu, mu, fun nf od J hJ p hp => ?_⟩
          obtain ⟨ob', ho', _, _, SL⟩ := S.lock (od := od) hk hi hu
          rw [ho] at ho'; cases ho'
          have gl : Grow ι1 H1 ι1 (upd H1 a (.frz od u)) := lock_grow (List.mem_of_getElem? hi) hu mu
          refine each_lc SL (he1.mono gl) hJ (fit_le hf) htg hev hp fun ι' H' zs g' S' r' hp' => .inr ?_
          obtain ⟨od', u', h1, S3, g3⟩ := RelS.unlock S' hul hi hu mu g'
          have hne : a ≠ p := fun z => by rw [z, hp'] at h1; cases h1
          refine ⟨a, od', u', by rw [upd_ne hne]; exact h1, nf, ?_⟩
          rw [upd_sw (Ne.symm hne)]
          have hi' : ι'[m]? = some a := g'.at_ hi
          have g0 : Grow0 ι' H' ι' (upd H' a u') := ⟨⟨[], by simp, by simp⟩, fun b w e m => by rw [upd_ne (fun z => m (by rw [z]; exact List.mem_of_getElem? hi'))]; exact e⟩
          exact (mk_ok S3 (Rels.mono0 g0 _ _ r') (qf ι' _ g3 S3)).2 p (by rw [upd_ne (Ne.symm hne)]; exact hp')
theorem s_lc (ok : Cok G X C W k) {al : Bool} {e c : Ex} {tg : Tg} {ik : IK} {xs : Exs} {hi : Bool} {own : List (Str × Nat)} {elt tg' iter : Expr} {ifs : List Expr} {scope : Scope} {pos : Pos} (htg : ∀ i ∈ tgIx tg, i ∈ own.map (·.2)) (hit : PI X tg' iter (sI X C W ik xs)) (hb : BlkOk X.N X.env.scope scope own)
    (hg : ∀ (s : Shared) (H : Hp) (C : Addr) (cl : List (Str × Addr)) (fp : List Addr), PG (X.blk s H scope (compEnvC scope cl C X.env) fp) tg' (gOf X.K tg)) (ht : ∀ (s : Shared) (H : Hp) (C' : Addr) (cl : List (Str × Addr)) (fp : List Addr), PTs (X.blk s H scope (compEnvC scope cl C' X.env) fp) ifs (tTst X C hi c))
    (he : ∀ (s : Shared) (H : Hp) (C' : Addr) (cl : List (Str × Addr)) (fp : List Addr), PE (X.blk s H scope (compEnvC scope cl C' X.env) fp) elt (sE X C WN e)) (hs : nsetB iter = true) :
    PE X (.ListComp elt [⟨tg', iter, ifs, 0⟩] scope pos) (sE X C W (.lc al e tg ik xs hi c own)) :=
  PE.weaken (PE.unl (pe_lc ok.calm ok.nd hit hb hg ht he (nset_fold hs))) fun σ H Q h => s_lcF htg h
end
end Wk

set_option maxRecDepth 100000
set_option maxHeartbeats 1000000
/-! Wk16: statements. -/
namespace Wk
open PySem PySem.Spec PyProof.Rows L2

theorem Po.up {α : Type} {K : PySem.W.Frag} {fb ι ι1 : List Addr} {H H1 : Hp} {r : Option (Out α)} {ok : α → Store → List Addr → Hp → Prop} {ex : D → Store → List Addr → Hp → Prop} (g : Grow ι H ι1 H1) (h : Po K fb r ok ex ι H) : Po K fb r ok ex ι1 H1 := by
  match r, h with
  | some (.ok a st'), h => exact fun ι' H' g' S => h ι' H' (g.trans g') S
  | some (.ex e st'), h => exact fun ι' H' g' S => h ι' H' (g.trans g') S
theorem Po.tr {α : Type} {K : PySem.W.Frag} {fb ι : List Addr} {H : Hp} {env : Env} {m : M α} {k : α → M Fl} {st : Store} {ok : Fl → Store → List Addr → Hp → Prop} {ex : D → Store → List Addr → Hp → Prop} (h : Po K fb (M.tr env m k st) ok ex ι H) :
    Po K fb (m st) (fun a st1 ι1 H1 => Po K fb (k a st1) ok ex ι1 H1) (fun e st1 ι1 H1 => ok (.er env e) st1 ι1 H1) ι H := by
  unfold M.tr at h
  cases q : m st with
  | none => rw [q] at h; exact h.elim
  | some o =>
    rw [q] at h
    cases o with
    | ok a st1 => exact fun ι' H' g S => Po.up g h
    | ex e st1 => exact fun ι' H' g S => h ι' H' g S
section
variable {G : Pr} {X : Cx} {C : Ctx} {W : WX} {k : Nat}
/-- what is wanted behind a statement -/
def flE (X : Cx) (W : WX) (fb : List Addr) (D : Ends) : Fl → Store → List Addr → Hp → Prop := fun f _ ι' H' => match f with
  | .nx env => ∀ σ', RelE X.K H' fb ι' env σ' → D.nx σ' H'
  | .rt d => ∀ v, Rel X.K H' fb ι' d v → D.rt v H'
  | .bk env => ∀ σ', RelE X.K H' fb ι' env σ' → D.bk σ' H'
  | .ct env => ∀ σ', RelE X.K H' fb ι' env σ' → D.ct σ' H'
  | .er env e => ∀ σ', RelE X.K H' fb ι' env σ' → ∀ cls dx, RelX X.mg e cls dx → W cls dx σ' H'
def exS (X : Cx) (W : WX) : D → Store → List Addr → Hp → Prop := fun e _ _ H' => ∀ σ' cls dx, RelX X.mg e cls dx → W cls dx σ' H'
def sS (X : Cx) (C : Ctx) (W : WX) (x : Sx) : TS := fun D σ H => ∃ fb ι env st, RelE X.K H fb ι env σ ∧ RelS X.K H fb ι st ∧ Po X.K fb (evS C x env st) (flE X W fb D) (exS X W) ι H
def sSs (X : Cx) (C : Ctx) (W : WX) (x : Sxs) : TS := fun D σ H => ∃ fb ι env st, RelE X.K H fb ι env σ ∧ RelS X.K H fb ι st ∧ Po X.K fb (evSs C x env st) (flE X W fb D) (exS X W) ι H
/-- an expression first -/
theorem tr1 {e : Ex} {f : D → M Fl} {D : Ends} {σ : L2.St} {H : Hp} {fb ι : List Addr} {env : Env} {st : Store} (hE : RelE X.K H fb ι env σ) (hS : RelS X.K H fb ι st) (hp : Po X.K fb (M.tr env (evE C e env) f st) (flE X W fb D) (exS X W) ι H) :
    sE X C W e σ H fun x H1 => ∃ ι st dx, RelE X.K H1 fb ι env σ ∧ RelS X.K H1 fb ι st ∧ Rel X.K H1 fb ι dx x ∧ Po X.K fb (f dx st) (flE X W fb D) (exS X W) ι H1 :=
  ⟨fb, ι, env, st, hE, hS, hp.tr.mono (fun dx st1 ι1 H1 g S q v r => ⟨ι1, st1, dx, hE.mono g, S, r, q⟩) fun e st1 ι1 H1 g S q cls dx rx => q σ (hE.mono g) cls dx rx⟩
theorem put_ok {i : Nat} {d : D} {x : V} {D : Ends} {σ : L2.St} {H : Hp} {fb ι : List Addr} {env : Env} {st : Store} (hE : RelE X.K H fb ι env σ) (hS : RelS X.K H fb ι st) (r : Rel X.K H fb ι d x) (hp : Po X.K fb (putE i d env st) (flE X W fb D) (exS X W) ι H) : D.nx (σ.set i (some x)) H := by
  unfold putE at hp
  split at hp
  · exact hp ι H Grow.refl hS _ (hE.set r)
  · exact hp.elim
theorem setF {i : Nat} {e : Ex} {D : Ends} {σ : L2.St} {H : Hp} (h : sS X C W (.set i e) D σ H) : tAsg (sE X C W e) (gName i) D σ H := by
  obtain ⟨fb, ι, env, st, hE, hS, hp⟩ := h
  exact (tr1 hE hS hp).mono fun x H1 ⟨ι1, st1, dx, hE1, S1, r, q⟩ => put_ok hE1 S1 r q
theorem ss_set (ok : Cok G X C W k) {i : Nat} {x : Str} {e : Ex} {e' : Expr} {pos pos' : Pos} (hi : X.N[i]? = some x) (hx : Loc X.env.scope x) (hf : X.fn x = true ∨ X.env.scope.names.lookup x = some .local) (he : PE X e' (sE X C W e)) (hs : swapsWith e' (some (.Name x pos')) pos.line X.env = pure false) :
    PS X (.Assign [.Name x pos'] e' pos) (sS X C W (.set i e)) :=
  PS.weaken (ps_set ok.nd hi hx he hs hf) fun D σ H h => setF h
/-- a target of any form -/
theorem ss_unp (ok : Cok G X C W k) {tg : Tg} {tg' : Expr} {e : Ex} {e' : Expr} {pos : Pos} (hg : PG X tg' (gOf X.K tg)) (he : PE X e' (sE X C W e)) (hs : swapsWithSole [tg'] e' pos.line X.env = pure false) (hw : swappedStores [tg'] e' X.env = pure none) (h1 : (assignEach [tg'] X.env).map (·.2) = [assign tg' X.env]) :
    PS X (.Assign [tg'] e' pos) (sS X C W (.unp tg e)) :=
  PS.weaken (ps_asg he hg hs hw h1) fun D σ H ⟨fb, ι, env, st, hE, hS, hp⟩ => (tr1 hE hS hp).mono fun x H1 ⟨ι1, st1, dx, hE1, S1, r, q⟩ => by
    obtain ⟨env', e1, q⟩ := (Po.bind q).of
    exact tg_ok tg r hE1 e1 fun σ' he' _ => q ι1 H1 Grow.refl S1 ι1 H1 Grow.refl S1 σ' he'
/-- a, b = x, y -/
theorem ss_par (ok : Cok G X C W k) {i j : Nat} {x y : Str} {xs : Exs} {a b : Expr} {px py pt pt2 pos : Pos} {kt k2} (hi : X.N[i]? = some x) (hj : X.N[j]? = some y) (hij : i ≠ j) (hx : X.env.scope.names.lookup x = some .local) (hy : X.env.scope.names.lookup y = some .local) (ha : PA X [a, b] (sA X C W xs))
    (hw : swappedStores [.Tuple [.Name x px, .Name y py] kt pt] (.Tuple [a, b] k2 pt2) X.env = pure (some [x, y])) : PS X (.Assign [.Tuple [.Name x px, .Name y py] kt pt] (.Tuple [a, b] k2 pt2) pos) (sS X C W (.unp (.tp (.cons (.nm i) (.cons (.nm j) .nil))) (.tup xs))) :=
  PS.weaken (ps_par ok.calm ok.nd hi hj hij hx hy ha hw rfl) fun D σ H ⟨fb, ι, env, st, hE, hS, hp⟩ => by
    have hp := Po.tr hp
    refine ⟨fb, ι, env, st, hE, hS, (Po.bind (m := evA C xs env) hp).mono (fun ds st1 ι1 H1 g S q vs r => ?_) fun e st1 ι1 H1 g S q cls dx rx => q σ (hE.mono g) cls dx rx⟩
    have q := q.ite
    cases hf : fit ds.length with
    | false => rw [hf] at q; exact q.elim
    | true =>
      rw [hf, if_pos rfl] at q
      have q := Po.ret (a := Wk.D.tup ds) q S
      obtain ⟨env', e1, q⟩ := (Po.bind q).of
      have e1 : tgsSet (.cons (.nm i) (.cons (.nm j) .nil)) ds env = some env' := e1
      obtain ⟨hl, v, r1, rfl, w, r2, rfl, hn, hq⟩ := tgs_ok (Q := fun σ' H' => D.nx σ' H') _ r (hE.mono g) e1 fun σ' he' _ => q ι1 H1 Grow.refl S ι1 H1 Grow.refl S σ' he'
      subst hn
      exact ⟨v, w, rfl, hq⟩
theorem ss_aug (ok : Cok G X C W k) {i : Nat} {x : Str} {o : Operator} {e : Ex} {e' : Expr} {pos pos' : Pos} (hi : X.N[i]? = some x) (hx : Loc X.env.scope x) (hf : X.fn x = true ∨ X.env.scope.names.lookup x = some .local) (he : PE X e' (sE X C W e)) :
    PS X (.AugAssign (.Name x pos') o e' pos) (sS X C W (.aug o i e)) :=
  PS.weaken (ps_aug ok.nd hi hx he ip_dat hf) fun D σ H ⟨fb, ι, env, st, hE, hS, hp⟩ => by
    obtain ⟨d0, e0, hp⟩ := (Po.bind (m := M.of (env[i]?.join)) hp).of
    have hp := hp ι H Grow.refl hS
    have e0 : env[i]? = some (some d0) := by
      cases h : env[i]? with
      | none => rw [h] at e0; cases e0
      | some o => rw [h] at e0; have : o = some d0 := e0; rw [this]
    obtain ⟨v0, h1, r0⟩ := hE.2 i d0 e0
    refine ⟨v0, h1, fb, ι, env, st, hE, hS, hp.tr.mono (fun dy st1 ι1 H1 g S q v r => ?_) fun e st1 ι1 H1 g S q cls dx rx => q σ (hE.mono g) cls dx rx⟩
    obtain ⟨d, st2, e2, q⟩ := (Po.bind q).wr
    exact ⟨fb, ι1, st1, d0, dy, d, st2, S, r0.mono g, r, e2, fun ι2 H2 g2 S2 w rw => put_ok ((hE.mono g).mono g2) S2 rw (q ι2 H2 g2 S2)⟩
theorem ss_six {a b e : Ex} {a' b' e' : Expr} {pos tpos : Pos} (ha : PE X a' (sE X C W a)) (hb : PE X b' (sE X C W b)) (he : PE X e' (sE X C W e)) (hs : swapsWithSole [.Subscript a' b' tpos] e' pos.line X.env = pure false) (hp : plainB b' = true) :
    PS X (.Assign [.Subscript a' b' tpos] e' pos) (sS X C W (.six a b e)) :=
  PS.weaken (ps_asg he (pg_sub ha hb set_dat (fun v => by cases b' <;> first | rfl | cases hp)) hs rfl rfl) fun D σ H ⟨fb, ι, env, st, hE, hS, hp⟩ => (tr1 hE hS hp).mono fun x H1 ⟨ι1, st1, dx, hE1, S1, r, q⟩ => by
    refine ⟨fb, ι1, env, st1, hE1, S1, q.tr.mono (fun da st2 ι2 H2 g2 S2 q va ra => ?_) fun e st1 ι1 H1 g S q cls dx rx => q σ (hE1.mono g) cls dx rx⟩
    refine ⟨fb, ι2, env, st2, hE1.mono g2, S2, q.tr.mono (fun db st3 ι3 H3 g3 S3 q vb rb => ?_) fun e st1 ι1 H1 g S q cls dx rx => q σ ((hE1.mono g2).mono g) cls dx rx⟩
    obtain ⟨u, st4, e4, q⟩ := (Po.bind q).wr
    cases u
    refine ⟨fb, ι3, st3, da, db, dx, st4, S3, ra.mono g3, rb, (r.mono g2).mono g3, e4, fun ι4 H4 g4 S4 => ?_⟩
    exact q ι4 H4 g4 S4 ι4 H4 Grow.refl S4 σ (((hE1.mono g2).mono g3).mono g4)
theorem ss_ex {e : Ex} {e' : Expr} {pos : Pos} (he : PE X e' (sE X C W e)) (hs : swapsWith e' none pos.line X.env = pure false) : PS X (.Expr e' pos) (sS X C W (.ex e)) :=
  PS.weaken (ps_expr he hs) fun D σ H ⟨fb, ι, env, st, hE, hS, hp⟩ => (tr1 hE hS hp).mono fun x H1 ⟨ι1, st1, dx, hE1, S1, r, q⟩ => q ι1 H1 Grow.refl S1 σ hE1
theorem ss_ret {e : Ex} {e' : Expr} {pos : Pos} (he : PE X e' (sE X C W e)) : PS X (.Return (some e') pos) (sS X C W (.ret e)) :=
  PS.weaken (ps_ret he) fun D σ H ⟨fb, ι, env, st, hE, hS, hp⟩ => (tr1 hE hS hp).mono fun x H1 ⟨ι1, st1, dx, hE1, S1, r, q⟩ => q ι1 H1 Grow.refl S1 x r
theorem ss_retN {pos : Pos} : PS X (.Return none pos) (sS X C W .retN) :=
  PS.weaken ps_retN fun D σ H ⟨fb, ι, env, st, hE, hS, hp⟩ => hp ι H Grow.refl hS _ rfl
theorem ss_pass {pos : Pos} : PS X (.Pass pos) (sS X C W .pass) := PS.weaken ps_pass fun D σ H ⟨fb, ι, env, st, hE, hS, hp⟩ => hp ι H Grow.refl hS σ hE
theorem ss_doc {x : Str} {j} {pos pos' : Pos} : PS X (.Expr (.Constant (.str x) j pos) pos') (sS X C W .pass) := PS.weaken ps_doc fun D σ H ⟨fb, ι, env, st, hE, hS, hp⟩ => hp ι H Grow.refl hS σ hE
theorem ss_brk {pos : Pos} : PS X (.Break pos) (sS X C W .brk) := PS.weaken ps_break fun D σ H ⟨fb, ι, env, st, hE, hS, hp⟩ => hp ι H Grow.refl hS σ hE
theorem ss_cnt {pos : Pos} : PS X (.Continue pos) (sS X C W .cnt) := PS.weaken ps_continue fun D σ H ⟨fb, ι, env, st, hE, hS, hp⟩ => hp ι H Grow.refl hS σ hE
theorem ss_if {c : Ex} {a b : Sxs} {c' : Expr} {a' b' : List Stmt} {pos : Pos} (hc : PT X c' (sT X C W c)) (ha : PSs X a' (sSs X C W a)) (hb : PSs X b' (sSs X C W b)) : PS X (.If c' a' b' pos) (sS X C W (.iff c a b)) :=
  PS.weaken (ps_if hc ha hb) fun D σ H ⟨fb, ι, env, st, hE, hS, hp⟩ => by
    have e : M.tr env (evE C c env) (fun x => asB x >>= fun r => if r then evSs C a env else evSs C b env) st = M.tr env (evE C c env >>= asB) (fun r => if r then evSs C a env else evSs C b env) st := by
      show _ = M.tr env (M.bind _ _) _ st
      unfold M.tr M.bind
      cases q : evE C c env st with
      | none => simp
      | some o =>
        cases o with
        | ex e' st' => simp
        | ok d st' => cases d <;> rfl
    have hp : Po X.K fb (M.tr env (evE C c env) (fun x => asB x >>= fun r => if r then evSs C a env else evSs C b env) st) (flE X W fb D) (exS X W) ι H := hp
    rw [e] at hp
    refine ⟨fb, ι, env, st, hE, hS, hp.tr.mono (fun r st1 ι1 H1 g S q => ?_) fun e st1 ι1 H1 g S q cls dx rx => q σ (hE.mono g) cls dx rx⟩
    cases r with
    | true => exact ⟨fb, ι1, env, st1, hE.mono g, S, q⟩
    | false => exact ⟨fb, ι1, env, st1, hE.mono g, S, q⟩
theorem ss_raise (ok : Cok G X C W k) {c m : Str} {j} {p p2 pos pos' : Pos} (hc : c ∈ G.excs) (hg : Gl X c) (hd : (c == ("__debug__" : Str)) = false) : PS X (.Raise (some (.Call (.Name c p) [.Constant (.str m) j p2] [] pos)) none pos') (sS X C W (.raise c m)) := by
  obtain ⟨Ca, h1, h2, h3, h4, h5⟩ := ok.txt.exc c hc
  refine PS.weaken (ps_raise ok.calm ok.tk (pmk_own F.excBase_ValueError h2 h1 h3 (raises_own h4 h5) hg hd)) fun D σ H ⟨fb, ι, env, st, hE, hS, hp⟩ => ?_
  exact hp ι H Grow.refl hS σ hE _ _ ⟨c, Ca, rfl, h1, rfl, rfl⟩
theorem ss_nil : PSs X [] (sSs X C W .nil) := PSs.weaken pss_nil fun D σ H ⟨fb, ι, env, st, hE, hS, hp⟩ => hp ι H Grow.refl hS σ hE
theorem ss_cons {s : Sx} {r : Sxs} {s' : Stmt} {r' : List Stmt} (h1 : PS X s' (sS X C W s)) (h2 : PSs X r' (sSs X C W r)) : PSs X (s' :: r') (sSs X C W (.cons s r)) :=
  PSs.weaken (pss_cons h1 h2) fun D σ H ⟨fb, ι, env, st, hE, hS, hp⟩ => by
    refine ⟨fb, ι, env, st, hE, hS, (Po.bind (m := evS C s env) hp).mono (fun f st1 ι1 H1 g S q => ?_) fun _ _ _ _ _ _ q => q⟩
    cases f with
    | nx env' => exact fun σ' he' => ⟨fb, ι1, env', st1, he', S, q⟩
    | rt d => exact q ι1 H1 Grow.refl S
    | bk env' => exact q ι1 H1 Grow.refl S
    | ct env' => exact q ι1 H1 Grow.refl S
    | er env' e => exact q ι1 H1 Grow.refl S
end
end Wk

set_option maxRecDepth 100000
set_option maxHeartbeats 1000000
/-! Wk17: loops. -/
namespace Wk
open PySem PySem.Spec PyProof.Rows L2

section
variable {K : PySem.W.Frag} {H H' : Hp} {fb ι ι' new : List Addr} {st st' : Store}
mutual
theorem Rel.low {n : Nat} (e : ι' = ι ++ new) (hn : n = ι.length) : ∀ (d : D) (v : V), d.under n = true → Rel K H fb ι' d v → Rel K H fb ι d v
  | .non, v, _, h => h
  | .bl b, v, _, h => h
  | .int i, v, _, h => h
  | .str x, v, _, h => h
  | .tup ds, v, p, h => by
    obtain ⟨a, xs, ev, q, n, m, r⟩ := h
    exact ⟨a, xs, ev, q, fun z => n (by rw [e]; exact List.mem_append_left _ z), m, Rels.low e hn ds xs p r⟩
  | .lst ds, v, p, h => by
    obtain ⟨a, xs, ev, q, n, m, r⟩ := h
    exact ⟨a, xs, ev, q, fun z => n (by rw [e]; exact List.mem_append_left _ z), m, Rels.low e hn ds xs p r⟩
  | .dic ks vs, v, p, h => h.elim
  | .loc m, v, p, h => by
    obtain ⟨a, ev, q⟩ := h
    have p : m < n := by have p : Nat.blt m n = true := p; exact Nat.blt_eq.mp p
    rw [e, List.getElem?_append_left (by omega)] at q
    exact ⟨a, ev, q⟩
  | .scr ns, v, _, h => by
    obtain ⟨a, ev, q | q⟩ := h
    · obtain ⟨o, q, n, m⟩ := q
      exact ⟨a, ev, .inl ⟨o, q, fun z => n (by rw [e]; exact List.mem_append_left _ z), m⟩⟩
    · exact ⟨a, ev, .inr q⟩
  | .exc c vs, v, p, h => h.elim
theorem Rels.low {n : Nat} (e : ι' = ι ++ new) (hn : n = ι.length) : ∀ (ds : List D) (vs : List V), D.unders n ds = true → Rels K H fb ι' ds vs → Rels K H fb ι ds vs
  | [], vs, _, h => h
  | d :: ds, vs, p, h => by
    obtain ⟨y, ys, ev, r, rs⟩ := h
    have p : (d.under n && D.unders n ds) = true := p
    rw [Bool.and_eq_true] at p
    exact ⟨y, ys, ev, Rel.low e hn d y p.1 r, Rels.low e hn ds ys p.2 rs⟩
end
def trOk (K : PySem.W.Frag) (fb ι : List Addr) (H : Hp) (ok : Fl → Store → List Addr → Hp → Prop) : Fl → Store → List Addr → Hp → Prop := fun r st' ι' H' => match r with
  | .nx env => ∃ ιt stt envt, Grow ι H ιt H' ∧ RelS K H' fb ιt stt ∧ (∀ σ', RelE K H' fb ι' env σ' → RelE K H' fb ιt envt σ') ∧ ok (.nx envt) stt ιt H'
  | .ct env => ∃ ιt stt envt, Grow ι H ιt H' ∧ RelS K H' fb ιt stt ∧ (∀ σ', RelE K H' fb ι' env σ' → RelE K H' fb ιt envt σ') ∧ ok (.nx envt) stt ιt H'
  | .rt d => ok (.rt d) st' ι' H'
  | .bk env => ok (.bk env) st' ι' H'
  | .er env e => ok (.er env e) st' ι' H'
theorem cut_ok {env : Env} {ok : Fl → Store → List Addr → Hp → Prop} {ex : D → Store → List Addr → Hp → Prop} (S : RelS K H fb ι st)
    (h : Po K fb (if Nat.ble st'.length st.length then some (.ok (.nx env) st') else if (st'.take st.length).all (Ob.under st.length) then some (.ok (.nx (trimE st.length env)) (st'.take st.length)) else none) ok ex ι H) :
    ∀ ι' H', Grow ι H ι' H' → RelS K H' fb ι' st' → ∃ ιt stt envt, Grow ι H ιt H' ∧ RelS K H' fb ιt stt ∧ (∀ σ', RelE K H' fb ι' env σ' → RelE K H' fb ιt envt σ') ∧ ok (.nx envt) stt ιt H' := by
  intro ι' H' g S'
  split at h
  · exact ⟨ι', st', env, g, S', fun _ z => z, h ι' H' g S'⟩
  · rename_i hlt
    have hlt : st.length < st'.length := by
      refine Nat.lt_of_not_le fun z => hlt ?_
      exact Nat.ble_eq.mpr z
    split at h
    · rename_i hu
      obtain ⟨new, e, f⟩ := g.pre
      have hk : ∀ (j : Nat) (a : Addr), ι[j]? = some a → ι'[j]? = some a := fun j a z => g.at_ z
      have g2 : Grow ι H ι H' := ⟨⟨⟨[], by simp, by simp⟩, g.keep⟩, g.live, g.frz⟩
      have S2 : RelS K H' fb ι (st'.take st.length) := by
        refine ⟨by rw [List.length_take, S.len]; omega, S.nd, S'.fbs, S.dj, fun j o a h1 h2 => ?_⟩
        have h1' : st'[j]? = some o := by
          rw [List.getElem?_take] at h1
          split at h1
          · exact h1
          · cases h1
        have uo := List.all_eq_true.mp hu o (List.mem_of_getElem? h1)
        have ro := S'.at_ j o a h1' (hk j a h2)
        cases o with
        | dic l d ks vs => exact ro.elim
        | lst l ds =>
          cases l with
          | false => obtain ⟨xs, q, r⟩ := ro; exact ⟨xs, q, Rels.low e S.len.symm ds xs uo r⟩
          | true => obtain ⟨od, xs, q, r⟩ := ro; exact ⟨od, xs, q, Rels.low e S.len.symm ds xs uo r⟩
      refine ⟨ι, _, trimE st.length env, g2, S2, fun σ' he => ⟨by simp [trimE]; exact he.1, fun i d ed => ?_⟩, h ι H' g2 S2⟩
      unfold trimE at ed
      rw [List.getElem?_map] at ed
      cases q : env[i]? with
      | none => rw [q] at ed; cases ed
      | some o =>
        rw [q] at ed
        cases o with
        | none => cases ed
        | some d' =>
          have ed : some (if d'.under st.length then some d' else none) = some (some d) := ed
          split at ed
          · rename_i hud
            cases ed
            obtain ⟨v, h1, r⟩ := he.2 i d q
            exact ⟨v, h1, Rel.low e S.len.symm d v hud r⟩
          · cases ed
    · exact h.elim
theorem trim_ok {m : M Fl} {ok : Fl → Store → List Addr → Hp → Prop} {ex : D → Store → List Addr → Hp → Prop} (S : RelS K H fb ι st) (h : Po K fb (trimM st.length m st) ok ex ι H) : Po K fb (m st) (trOk K fb ι H ok) ex ι H := by
  unfold trimM at h
  cases q : m st with
  | none => rw [q] at h; exact h.elim
  | some o =>
    rw [q] at h
    cases o with
    | ex e st' => exact h
    | ok r st' =>
      cases r with
      | nx env => exact cut_ok S h
      | ct env => exact cut_ok S h
      | rt d => exact h
      | bk env => exact h
      | er env e => exact h
end
section
variable {G : Pr} {X : Cx} {C : Ctx} {W : WX} {k : Nat}
def loopF (C : Ctx) (tg : Tg) (body : Sxs) (d : D) (env : Env) : M Fl := fun st => trimM st.length (M.of (tgSet tg d env) >>= fun env' => evSs C body env') st
theorem loop_ok {J : It} {its : List D} {fb ι0 : List Addr} {H0 : Hp} {st0 : Store} {σ : L2.St} {env : Env} {tg : Tg} {body : Sxs} {D : Ends} (S0 : RelS X.K H0 fb ι0 st0) (he : RelE X.K H0 fb ι0 env σ) (hJ : Src X.K fb ι0 H0 its J)
    (hp : Po X.K fb (loopM (loopF C tg body) its env st0) (flE X W fb D) (exS X W) ι0 H0) :
    ∃ Wv : Nat → Nat → L2.St → Hp → Prop, (∃ m, Wv 0 m σ H0) ∧ ∀ i m σ H, Wv i m σ H →
      (J.stop i H ∧ D.nx σ H) ∨ (J.go i H ∧ ∃ N : L2.St → Hp → Prop, (∀ σ' H', N σ' H' → ∃ m', m' < m ∧ Wv (i + 1) m' σ' H') ∧ ∀ x H', J.yld i H x H' → gOf X.K tg x σ H' fun σ2 H2 => sSs X C W body { D with nx := N, ct := N, bk := D.nx } σ2 H2) := by
  obtain ⟨Gp, Y, w, hG, hY⟩ := hJ.ex
  refine for_it w (fun i σ H => ∃ ι st env, Grow ι0 H0 ι H ∧ RelS X.K H fb ι st ∧ RelE X.K H fb ι env σ ∧ Po X.K fb (loopM (loopF C tg body) (its.drop i) env st) (flE X W fb D) (exS X W) ι H)
    ⟨ι0, st0, env, Grow.refl, S0, he, hp⟩ ?_ ?_ ?_
  · rintro i σ H _ ⟨ι, st, env, g, S, he, hp⟩
    exact hG ι _ g
  · rintro i x σ H H' hlt ⟨ι, st, env, g, S, he, hp⟩ y
    obtain ⟨d, hdi, gY, SY, rd⟩ := hY i x ι _ H' st fb hlt (fun _ z => .inl z) g S y
    have hdr : its.drop i = d :: its.drop (i + 1) := by
      rw [List.drop_eq_getElem_cons hlt]
      congr 1
      rw [List.getElem?_eq_getElem hlt] at hdi
      exact Option.some.inj hdi
    rw [hdr] at hp
    have hp := Po.up gY hp
    have hp := trim_ok SY (Po.bind (m := loopF C tg body d env) hp)
    obtain ⟨env', e1, hp⟩ := (Po.bind (m := M.of (tgSet tg d env)) hp).of
    have hp := hp ι H' Grow.refl SY
    refine tg_ok tg rd (he.mono gY) e1 fun σ2 he2 _ => ⟨fb, ι, env', st, he2, SY, hp.mono (fun r st1 ι1 H1 g1 S1 q => ?_) fun _ _ _ _ _ _ q => q⟩
    cases r with
    | nx env1 =>
      obtain ⟨ιt, stt, envt, gt, St, ht, q⟩ := q
      exact fun σ' he' => ⟨ιt, stt, envt, (g.trans gY).trans gt, St, ht σ' he', q⟩
    | ct env1 =>
      obtain ⟨ιt, stt, envt, gt, St, ht, q⟩ := q
      exact fun σ' he' => ⟨ιt, stt, envt, (g.trans gY).trans gt, St, ht σ' he', q⟩
    | rt d => exact q ι1 H1 Grow.refl S1
    | bk env1 => exact q ι1 H1 Grow.refl S1
    | er env1 e => exact q ι1 H1 Grow.refl S1
  · rintro σ H ⟨ι, st, env, g, S, he, hp⟩
    rw [List.drop_length] at hp
    exact hp ι H Grow.refl S σ he
def unD (X : Cx) (D : Ends) : Ends where
  nx := fun σ H => D.nx σ H ∨ ∃ a od u, H a = some (.frz od u) ∧ (∀ o' u', X.H_0 a ≠ some (.frz o' u')) ∧ D.nx σ (upd H a u)
  rt := unQ X D.rt
  bk := fun σ H => D.bk σ H ∨ ∃ a od u, H a = some (.frz od u) ∧ (∀ o' u', X.H_0 a ≠ some (.frz o' u')) ∧ D.bk σ (upd H a u)
  ct := fun σ H => D.ct σ H ∨ ∃ a od u, H a = some (.frz od u) ∧ (∀ o' u', X.H_0 a ≠ some (.frz o' u')) ∧ D.ct σ (upd H a u)
theorem PS.unl {s : Stmt} {t : TS} (h : PS X s t) : PS X s (fun D σ H => t (unD X D) σ H) :=
  ⟨fun pins s σ H D I q => thn (h.run pins s σ H _ I q) fun f s1 z => by
    cases f with
    | next =>
      obtain ⟨σ', H', I', q⟩ := z
      rcases q with q | ⟨a, od, u, h1, h2, q⟩
      · exact ⟨σ', H', I', q⟩
      · exact ⟨σ', _, I'.unlock h1 h2, q⟩
    | ret v =>
      obtain ⟨x, σ', H', I', r, q⟩ := z
      rcases q with q | ⟨a, od, u, h1, h2, q⟩
      · exact ⟨x, σ', H', I', r, q⟩
      · exact ⟨x, σ', _, I'.unlock h1 h2, r, q⟩
    | brk =>
      obtain ⟨σ', H', I', q⟩ := z
      rcases q with q | ⟨a, od, u, h1, h2, q⟩
      · exact ⟨σ', H', I', q⟩
      · exact ⟨σ', _, I'.unlock h1 h2, q⟩
    | cont =>
      obtain ⟨σ', H', I', q⟩ := z
      rcases q with q | ⟨a, od, u, h1, h2, q⟩
      · exact ⟨σ', H', I', q⟩
      · exact ⟨σ', _, I'.unlock h1 h2, q⟩⟩
theorem noEr_ok {n : Option Nat} {m : M Fl} {st : Store} {o : Out Fl} (h : noEr n m st = some o) : m st = some o ∧ (∀ k, n = some k → ∃ f st', o = .ok f st' ∧ ∀ env e, f ≠ .er env e) := by
  unfold noEr at h
  cases n with
  | none =>
    cases q : m st with
    | none => rw [q] at h; cases h
    | some o' => rw [q] at h; cases h; exact ⟨rfl, fun _ z => nomatch z⟩
  | some n =>
    cases q : m st with
    | none => rw [q] at h; cases h
    | some o' =>
      rw [q] at h
      cases o' with
      | ex e st' => cases h
      | ok f st' =>
        cases f with
        | er env e => cases h
        | _ => cases h; exact ⟨rfl, fun _ _ => ⟨_, _, rfl, fun _ _ z => nomatch z⟩⟩
theorem ss_loopF {tg : Tg} {ik : IK} {xs : Exs} {body : Sxs} {D : Ends} {σ : L2.St} {H : Hp} (h : sS X C W (.loop tg ik xs body) D σ H) : tFor (sI X C W ik xs) (gOf X.K tg) (sSs X C W body) (unD X D) σ H := by
  obtain ⟨fb, ι, env, st, hE, hS, hp⟩ := h
  have hp : Po X.K fb (M.tr env (evA C xs env) (fun vs => M.rd (itD ik vs) >>= fun p => noEr p.2 (withLock p.2 (loopM (loopF C tg body) p.1 env))) st) (flE X W fb D) (exS X W) ι H := hp
  refine ⟨fb, ι, env, st, hE, hS, hp.tr.mono (fun ds st1 ι1 H1 g S q vs r => ?_) fun e st1 ι1 H1 g S q cls dx rx => q σ (hE.mono g) cls dx rx⟩
  obtain ⟨⟨its, n⟩, e1, q⟩ := (Po.bind q).rd
  have qf := q ι1 H1 Grow.refl S
  have he1 := hE.mono g
  cases hw : noEr n (withLock n (loopM (loopF C tg body) its env)) st1 with
  | none => simp only [hw] at qf; exact qf.elim
  | some o =>
    simp only [hw] at qf
    obtain ⟨hw, hne⟩ := noEr_ok hw
    refine ⟨fb, ι1, st1, ds, its, n, S, r, e1, ?_⟩
    cases hk : lkOf st1 n with
    | none =>
      refine .inl ⟨rfl, fun J hJ => loop_ok S he1 hJ ?_⟩
      rw [wl_free hk hw]
      refine qf.mono (fun f st' ι' H' g' S' z => ?_) fun _ _ _ _ _ _ z => z
      cases f with
      | nx env' => exact fun σ' he' => .inl (z σ' he')
      | rt d => exact fun v rv => .inl (z v rv)
      | bk env' => exact fun σ' he' => .inl (z σ' he')
      | ct env' => exact fun σ' he' => .inl (z σ' he')
      | er env' e => exact z
    | some m =>
      have hn := lkOf_some hk
      obtain ⟨f, st3, rfl, hnf⟩ := hne m hn
      subst hn
      have hi : ∃ a, ι1[m]? = some a := by
        unfold lkOf at hk
        cases z : st1[m]? with
        | none => simp only [z] at hk; cases hk
        | some o =>
          have hlt : m < ι1.length := by rw [S.len]; exact (List.getElem?_eq_some_iff.mp z).1
          exact ⟨ι1[m], by simp [hlt]⟩
      obtain ⟨a, hi⟩ := hi
      obtain ⟨u, hu⟩ := S.live (List.mem_of_getElem? hi)
      obtain ⟨ob, ho, hol, mu, _⟩ := S.lock (od := default) hk hi hu
      obtain ⟨st2, hev, hul⟩ := wl_ok ho hol hw
      refine .inr ⟨m, a, u, rfl, hi, hu, mu, fun nf od J hJ => ?_⟩
      obtain ⟨ob', ho', _, _, SL⟩ := S.lock (od := od) hk hi hu
      rw [ho] at ho'; cases ho'
      have gl : Grow ι1 H1 ι1 (upd H1 a (.frz od u)) := lock_grow (List.mem_of_getElem? hi) hu mu
      refine loop_ok SL (he1.mono gl) hJ ?_
      rw [hev]
      intro ι' H' g' S'
      obtain ⟨od', u', h1, S3, g3⟩ := RelS.unlock S' hul hi hu mu g'
      have hi' : ι'[m]? = some a := g'.at_ hi
      have g0 : Grow0 ι' H' ι' (upd H' a u') := ⟨⟨[], by simp, by simp⟩, fun b w e m => by rw [upd_ne (fun z => m (by rw [z]; exact List.mem_of_getElem? hi'))]; exact e⟩
      have z := qf ι' _ g3 S3
      cases f with
      | nx env' => exact fun σ' he' => .inr ⟨a, od', u', h1, nf, z σ' (he'.mono0 g0)⟩
      | rt d => exact fun v rv => .inr ⟨a, od', u', h1, nf, z v (Rel.mono0 g0 _ _ rv)⟩
      | bk env' => exact fun σ' he' => .inr ⟨a, od', u', h1, nf, z σ' (he'.mono0 g0)⟩
      | ct env' => exact fun σ' he' => .inr ⟨a, od', u', h1, nf, z σ' (he'.mono0 g0)⟩
      | er env' e => exact absurd rfl (hnf env' e)
theorem ss_loop (ok : Cok G X C W k) (hp : PassesOwn (model X.prog X.w) X.A X.env X.xe) {tg : Tg} {ik : IK} {xs : Exs} {body : Sxs} {tg' iter : Expr} {body' : List Stmt} {pos : Pos} (hi : PI X tg' iter (sI X C W ik xs)) (hg : PG X tg' (gOf X.K tg)) (hb : PSs X body' (sSs X C W body)) (hs : nsetB iter = true) :
    PS X (.For tg' iter body' [] pos) (sS X C W (.loop tg ik xs body)) :=
  PS.weaken (PS.unl (ps_for hp ok.calm hi hg hb (nset_fold hs))) fun D σ H h => ss_loopF h
end
end Wk

set_option maxRecDepth 100000
set_option maxHeartbeats 1000000
/-! Wk18: whether an expression of the text is what the own syntax says. -/
namespace Wk
open PySem PySem.Spec PyProof.Rows L2

def strip : Expr → Expr
  | .BoolOp _ [y] _ => y
  | e => e
def glB (sc : Scope) (x : Str) : Bool := decide (sc.names.lookup x = some .globalImplicit) && !(x == ("__debug__" : Str))
def visB (sc : Scope) (x : Str) : Bool := (decide (sc.names.lookup x = some .local) || decide (sc.names.lookup x = some .cell) || decide (sc.names.lookup x = some .free)) && !(x == ("__debug__" : Str)) && !(x == ("__classdict__" : Str))
def locB (sc : Scope) (x : Str) : Bool := decide (sc.names.lookup x = some .local) || decide (sc.names.lookup x = some .cell)
/-- the block's scope as it comes to stand in sc0 -/
def relS (sc0 scope : Scope) : Scope := { scope with names := scope.names.map fun (n, k) => if (k == .free && sc0.kind == .function && sc0.names.lookup n == some .cell) then (n, .cell) else (n, k) }
/-- what a block may bind -/
def blkB (sc0 scope : Scope) (x : Str) : Bool := decide ((relS sc0 scope).names.lookup x = some .local) || (decide ((relS sc0 scope).names.lookup x = some .cell) && decide (scope.names.lookup x = some .cell))
def cstB : D → Const → Bool
  | .non, .none => true
  | .bl b, .bool c => b == c
  | .int i, .int j => decide (i = j)
  | .str x, .str y => decide (x = y)
  | _, _ => false
def nilX : Exs → Bool
  | .nil => true
  | _ => false
def isTupE : Expr → Bool
  | .Tuple .. => true
  | _ => false
/-- the arguments of what a loop walks -/
def itArgs (k : IK) (e : Expr) : List Expr := match k, e with
  | .val, e => [e]
  | _, .Call _ es _ _ => es
  | _, _ => []
def itB (G : Pr) (sc : Scope) (k : IK) (e tg : Expr) : Bool := match k, e with
  | .val, e => nst e
  | .range1, .Call (.Name f _) [a] [] _ => decide (f = "range") && glB sc f && decide (f ∈ G.blts) && nst a
  | .range2, .Call (.Name f _) [a, b] [] _ => decide (f = "range") && glB sc f && decide (f ∈ G.blts) && nst a && nst b
  | .enum, .Call (.Name f _) [a] [] _ => decide (f = "enumerate") && glB sc f && decide (f ∈ G.blts) && nst a && isTupE tg
  | .zip, .Call (.Name f _) [a, b] [] _ => decide (f = "zip") && glB sc f && decide (f ∈ G.blts) && nst a && nst b && isTupE tg
  | _, _ => false
mutual
def mTg (N : List Str) (tB : Str → Bool) : Tg → Expr → Bool
  | .nm i, e => match e with
    | .Name x _ => decide (N[i]? = some x) && tB x
    | _ => false
  | .tp ts, e => match e with
    | .Tuple es _ _ => mTgs N tB ts es
    | _ => false
def mTgs (N : List Str) (tB : Str → Bool) : Tgs → List Expr → Bool
  | .nil, es => es.isEmpty
  | .cons t r, es => match es with
    | e :: es => nst e && mTg N tB t e && mTgs N tB r es
    | [] => false
end
mutual
def m (G : Pr) (N : List Str) : Scope → Bool → Ex → Expr → Bool
  | sc, t, .cst c, e => match strip e with
    | .Constant v _ _ => cstB c v
    | _ => false
  | sc, t, .var i, e => match strip e with
    | .Name x _ => decide (N[i]? = some x) && visB sc x
    | _ => false
  | sc, t, .gst x, e => match strip e with
    | .Name y _ => decide (y = x) && glB sc x
    | _ => false
  | sc, t, .bin o a b, e => match strip e with
    | .BinOp a' o' b' _ => decide (o' = o) && m G N sc false a a' && m G N sc false b b'
    | _ => false
  | sc, t, .neg a, e => match strip e with
    | .UnaryOp .USub a' _ => m G N sc false a a'
    | _ => false
  | sc, t, .cmp o a b, e => match strip e with
    | .Compare a' [o'] [b'] _ => decide (o' = o) && m G N sc false a a' && m G N sc false b b' && !behindInMarks o b'
    | _ => false
  | sc, t, .cmp2 o p a b c, e => match strip e with
    | .Compare a' [o', p'] [b', c'] _ => decide (o' = o) && decide (p' = p) && m G N sc false a a' && m G N sc false b b' && m G N sc false c c' && !lastMarks [o, p] [b', c']
    | _ => false
  | sc, t, .and a b, e => match strip e with
    | .BoolOp .And (x :: y :: rest) p => m G N sc t a x && m G N sc t b (.BoolOp .And (y :: rest) p)
    | _ => false
  | sc, t, .or a b, e => match strip e with
    | .BoolOp .Or (x :: y :: rest) p => m G N sc t a x && m G N sc t b (.BoolOp .Or (y :: rest) p)
    | _ => false
  | sc, t, .not a, e => match strip e with
    | .UnaryOp .Not a' _ => m G N sc t a a'
    | _ => false
  | sc, t, .ife c a b, e => match strip e with
    | .IfExp c' a' b' _ => !t && m G N sc true c c' && m G N sc false a a' && m G N sc false b b'
    | _ => false
  | sc, t, .tup xs, e => match strip e with
    | .Tuple es _ _ => mA G N sc xs es
    | _ => false
  | sc, t, .lst _ xs, e => match strip e with
    | .List es _ => mA G N sc xs es
    | _ => false
  | sc, t, .ix a b, e => match strip e with
    | .Subscript a' b' _ => plainB b' && m G N sc false a a' && m G N sc false b b'
    | _ => false
  | sc, t, .sl a lo hi, e => match strip e with
    | .Subscript a' (.Slice lo' hi' none _) _ => m G N sc false a a' && (match lo' with
      | none => isNon lo
      | some l => !isNon lo && m G N sc false lo l) && (match hi' with
      | none => isNon hi
      | some h => !isNon hi && m G N sc false hi h)
    | _ => false
  | sc, t, .call _ f xs, e => match strip e with
    | .Call (.Name g _) es [] _ => decide (g = f) && glB sc f && (G.fns f).isSome && es.all nst && mA G N sc xs es
    | _ => false
  | sc, t, .blt f xs, e => match strip e with
    | .Call (.Name g _) (e1 :: es) [] _ => decide (g = f) && glB sc f && decide (f ∈ btNames) && decide (f ∈ G.blts) && nst e1 && es.all nst && mA G N sc xs (e1 :: es)
    | _ => false
  | sc, t, .lsa xs, e => match strip e with
    | .Call (.Name g _) [e1] [] _ => decide (g = "list") && glB sc g && decide (g ∈ G.blts) && nst e1 && mA G N sc xs [e1]
    | _ => false
  | sc, t, .isi a ty, e => match strip e with
    | .Call (.Name g _) [a', .Name h _] [] _ => decide (g = "isinstance") && decide (h = Str.ofString ty) && decide (ty ∈ isiTys) && decide (g ∈ G.blts) && decide (h ∈ G.blts) && glB sc g && glB sc h && nst a' && m G N sc false a a'
    | _ => false
  | sc, t, .met mm a xs, e => match strip e with
    | .Call (.Attribute (.Name x p) mm' apos) es [] cpos => decide (mm' = mm) && (apos.endLine == cpos.line) && m G N sc false a (.Name x p) && mA G N sc xs es && (match es with
      | [] => decide (mm = "bit_length") && nilX xs
      | [e1] => decide (mm = "append") && nst e1
      | [e1, e2] => decide (mm = "insert") && nst e1 && nst e2
      | _ => false)
    | _ => false
  | sc, t, .lc _ x tg k xs hi c own, e => match strip e with
    | .ListComp elt [⟨tg', iter, ifs, 0⟩] scope _ => blkC N sc scope own && (tgIx tg).all (fun i => decide (i ∈ own.map (·.2))) && mTg N (blkB sc scope) tg tg' && nsetB iter && itB G sc k iter tg' && mA G N sc xs (itArgs k iter) && m G N (relS sc scope) false x elt && (match ifs with
      | [] => !hi
      | [c'] => hi && m G N (relS sc scope) true c c'
      | _ => false)
    | _ => false
def mA (G : Pr) (N : List Str) : Scope → Exs → List Expr → Bool
  | sc, .nil, es => es.isEmpty
  | sc, .cons false e r, es => match es with
    | e' :: es => nst e' && m G N sc false e e' && mA G N sc r es
    | [] => false
  | sc, .cons true e r, es => match es with
    | .Starred e' _ :: es => m G N sc false e e' && mA G N sc r es
    | _ => false
end
/-! ### what it says -/
structure Mx (G : Pr) (N : List Str) (sc : Scope) (X : Cx) (C : Ctx) (W : WX) (k : Nat) : Prop where
  ok : Cok G X C W k
  hsc : X.env.scope = sc
  hN : X.N = N
  kind : sc.kind = .function
section
variable {G : Pr} {N : List Str} {sc : Scope} {X : Cx} {C : Ctx} {W : WX} {k : Nat}
theorem glB_ok (M : Mx G N sc X C W k) {x : Str} (h : glB sc x = true) : Gl X x ∧ (x == ("__debug__" : Str)) = false := by
  unfold glB at h
  rw [Bool.and_eq_true, decide_eq_true_eq, Bool.not_eq_true'] at h
  exact ⟨by show X.env.scope.names.lookup x = _; rw [M.hsc]; exact h.1, h.2⟩
theorem visB_ok (M : Mx G N sc X C W k) {x : Str} (h : visB sc x = true) : Vis X.env.scope x ∧ (x == ("__debug__" : Str)) = false ∧ (x == ("__classdict__" : Str)) = false := by
  unfold visB at h
  simp only [Bool.and_eq_true, Bool.or_eq_true, decide_eq_true_eq, Bool.not_eq_true'] at h
  rw [M.hsc]
  refine ⟨?_, h.1.2, h.2⟩
  rcases h.1.1 with (z | z) | z
  · exact .inl z
  · exact .inr (.inl z)
  · exact .inr (.inr z)
def TgOk (X : Cx) (tB : Str → Bool) : Prop := ∀ x, tB x = true → Loc X.env.scope x ∧ (X.fn x = true ∨ X.env.scope.names.lookup x = some .local)
theorem locB_ok (M : Mx G N sc X C W k) (hf : ∀ x, X.fn x = true) : TgOk X (locB sc) := by
  intro x h
  unfold locB at h
  rw [Bool.or_eq_true, decide_eq_true_eq, decide_eq_true_eq] at h
  rw [M.hsc]
  exact ⟨h, .inl (hf x)⟩
theorem cst_ok {c : D} {v : Const} {j : Nat} {pos : Pos} (h : cstB c v = true) : PE X (.Constant v j pos) (sE X C W (.cst c)) := by
  cases c with
  | non => cases v with
    | none => exact s_cst (v := .non) (fun _ _ _ _ => rfl) pe_non
    | _ => cases h
  | bl b => cases v with
    | bool d =>
      have e : b = d := by simpa [cstB] using h
      subst e
      exact s_cst (v := .bl b) (fun _ _ _ _ => rfl) pe_bl
    | _ => cases h
  | int i => cases v with
    | int d =>
      have e : i = d := of_decide_eq_true h
      subst e
      exact s_cst (v := .int i) (fun _ _ _ _ => rfl) pe_int
    | _ => cases h
  | str x => cases v with
    | str d =>
      have e : x = d := of_decide_eq_true h
      subst e
      exact s_cst (v := .str x) (fun _ _ _ _ => rfl) pe_str
    | _ => cases h
  | _ => cases v <;> cases h
def Res (X : Cx) (C : Ctx) (W : WX) : Bool → Ex → Expr → Prop
  | false, b, e => PE X e (sE X C W b)
  | true, b, e => PT X e (sT X C W b) ∧ ∀ op xs p, e = .BoolOp op xs p → PW X e (sT X C W b)
theorem strip_res {t : Bool} {b : Ex} {e : Expr} (h : Res X C W t b (strip e)) : Res X C W t b e := by
  unfold strip at h
  split at h
  · rename_i op y p
    cases t with
    | false => exact s_one h
    | true =>
      have w : PW X (.BoolOp op [y] p) (sT X C W b) := by
        cases op with
        | And => exact pw_and1 h.1
        | Or => exact pw_or1 h.1
      exact ⟨w.pt, fun _ _ _ _ => w⟩
  · exact h
theorem res_val {t : Bool} {b : Ex} {e : Expr} (h : PE X e (sE X C W b)) (hv : valB e = true) : Res X C W t b e := by
  cases t with
  | false => exact h
  | true => exact ⟨t_val h (val_true hv), fun _ _ _ z => by subst z; cases hv⟩
theorem res_w {b : Ex} {e : Expr} (h : PW X e (sT X C W b)) : Res X C W true b e := ⟨h.pt, fun _ _ _ _ => h⟩
theorem Mx.blk (M : Mx G N sc X C W k) {scope : Scope} (hk : scope.kind = .function) (s : Shared) (H : Hp) (Ca : Addr) (cl : List (Str × Addr)) (fp : List Addr) : Mx G N (relS sc scope) (X.blk s H scope (compEnvC scope cl Ca X.env) fp) C WN k := by
  refine ⟨⟨M.ok.calm, M.ok.nd, M.ok.gd, M.ok.room, fun u s' x => ?_, M.ok.txt⟩, ?_, M.hN, hk⟩
  · obtain ⟨a, B, sI, pins, σ, H, cls, d, e, I, nb, up, sky, na, os, ag, w⟩ := x
    exact w
  · show relS X.env.scope scope = _
    rw [M.hsc]
theorem blkB_ok (M : Mx G N sc X C W k) {scope : Scope} (s : Shared) (H : Hp) (Ca : Addr) (cl : List (Str × Addr)) (fp : List Addr) : TgOk (X.blk s H scope (compEnvC scope cl Ca X.env) fp) (blkB sc scope) := by
  intro x h
  have e : (X.blk s H scope (compEnvC scope cl Ca X.env) fp).env.scope = relS sc scope := by
    show relS X.env.scope scope = _
    rw [M.hsc]
  rw [e]
  unfold blkB at h
  rw [Bool.or_eq_true, Bool.and_eq_true, decide_eq_true_eq, decide_eq_true_eq, decide_eq_true_eq] at h
  rcases h with z | ⟨z, y⟩
  · exact ⟨.inl z, .inr z⟩
  · exact ⟨.inr z, .inl (by show (scope.names.lookup x == some .cell) = true; rw [y]; rfl)⟩
mutual
theorem mTg_ok : ∀ (t : Tg) {X : Cx} {tB : Str → Bool} {e : Expr}, X.N = N → X.N.Nodup → X.calm = true → TgOk X tB → mTg N tB t e = true → PG X e (gOf X.K t)
  | .nm i, X, tB, e, hN, nd, hc, M, h => by
    unfold mTg at h
    split at h
    · rw [Bool.and_eq_true, decide_eq_true_eq] at h
      obtain ⟨h1, h2⟩ := M _ h.2
      exact pg_name nd (by rw [hN]; exact h.1) h1 h2
    · cases h
  | .tp ts, X, tB, e, hN, nd, hc, M, h => by
    unfold mTg at h
    split at h
    · obtain ⟨h1, h2, h3⟩ := mTgs_ok ts hN nd hc M h
      exact pg_tup hc h1 h2 h3
    · cases h
theorem mTgs_ok : ∀ (t : Tgs) {X : Cx} {tB : Str → Bool} {es : List Expr}, X.N = N → X.N.Nodup → X.calm = true → TgOk X tB → mTgs N tB t es = true → PGs X es (gsOf X.K t) ∧ (assignEach es X.env).length = tgLen t ∧ (assignEach es X.env).findIdx? (·.1) = none
  | .nil, X, tB, es, hN, nd, hc, M, h => by
    unfold mTgs at h
    cases es with
    | nil => exact ⟨pgs_nil, rfl, rfl⟩
    | cons => cases h
  | .cons t r, X, tB, es, hN, nd, hc, M, h => by
    unfold mTgs at h
    split at h
    · rename_i e es
      simp only [Bool.and_eq_true] at h
      obtain ⟨⟨h0, h1⟩, h2⟩ := h
      have a := mTg_ok t hN nd hc M h1
      obtain ⟨b1, b2, b3⟩ := mTgs_ok r hN nd hc M h2
      have e1 : assignEach (e :: es) X.env = (false, assign e X.env) :: assignEach es X.env := by cases e <;> first | rfl | cases h0
      refine ⟨pgs_cons a b1 (by rw [e1]; rfl), by rw [e1]; show _ + 1 = _; rw [b2]; rfl, ?_⟩
      rw [e1, List.findIdx?_cons]
      simp [b3]
    · cases h
end
end
end Wk

set_option maxRecDepth 100000
set_option maxHeartbeats 1000000
/-! Wk19: the matcher is right (expressions). -/
namespace Wk
open PySem PySem.Spec PyProof.Rows L2

section
variable {G : Pr} {N : List Str} {C : Ctx} {k : Nat}
theorem it_ok {sc : Scope} {X : Cx} {W : WX} (M : Mx G N sc X C W k) {ik : IK} {xs : Exs} {iter tg : Expr} (h : itB G sc ik iter tg = true) (ha : PA X (itArgs ik iter) (sA X C W xs))
    (h1 : ∀ e1, itArgs ik iter = [e1] → nst e1 = true → ∃ a, xs = .cons false a .nil ∧ PE X e1 (sE X C W a)) : PI X tg iter (sI X C W ik xs) := by
  unfold itB at h
  split at h
  · obtain ⟨a, rfl, he⟩ := h1 iter rfl h
    exact i_val he
  · simp only [Bool.and_eq_true, decide_eq_true_eq] at h
    obtain ⟨⟨⟨rfl, h2⟩, h3⟩, h4⟩ := h
    exact i_range1 (glB_ok M h2).1 (M.ok.txt.blt _ h3) ha (by rw [star_one h4]; rfl)
  · simp only [Bool.and_eq_true, decide_eq_true_eq] at h
    obtain ⟨⟨⟨⟨rfl, h2⟩, h3⟩, h4⟩, h5⟩ := h
    exact i_range2 (glB_ok M h2).1 (M.ok.txt.blt _ h3) ha (by rw [star_one h4, star_one h5]; rfl) (by rw [star_one h5]; rfl)
  · simp only [Bool.and_eq_true, decide_eq_true_eq] at h
    obtain ⟨⟨⟨⟨rfl, h2⟩, h3⟩, h4⟩, h5⟩ := h
    cases tg with
    | Tuple es kk tp => exact i_enum (glB_ok M h2).1 (M.ok.txt.blt _ h3) ha (by rw [star_one h4]; rfl)
    | _ => cases h5
  · simp only [Bool.and_eq_true, decide_eq_true_eq] at h
    obtain ⟨⟨⟨⟨⟨rfl, h2⟩, h3⟩, h4⟩, h5⟩, h6⟩ := h
    cases tg with
    | Tuple es kk tp => exact i_zip (glB_ok M h2).1 (M.ok.txt.blt _ h3) ha (star_one h4) (star_all (by simp [h5]))
    | _ => cases h6
  · cases h
/-- what the matcher says of a comprehension -/
structure LcOk (G : Pr) (N : List Str) (C : Ctx) (k : Nat) (sc : Scope) (X : Cx) (W : WX) (x : Ex) (tg : Tg) (ik : IK) (xs : Exs) (hi : Bool) (c : Ex) (own : List (Str × Nat)) (elt tg' iter : Expr) (ifs : List Expr) (scope : Scope) : Prop where
  htg : ∀ i ∈ tgIx tg, i ∈ own.map (·.2)
  hit : PI X tg' iter (sI X C W ik xs)
  hbl : BlkOk X.N X.env.scope scope own
  hpg : ∀ (s : Shared) (H : Hp) (Ca : Addr) (cl : List (Str × Addr)) (fp : List Addr), PG (X.blk s H scope (compEnvC scope cl Ca X.env) fp) tg' (gOf X.K tg)
  hpt : ∀ (s : Shared) (H : Hp) (Ca : Addr) (cl : List (Str × Addr)) (fp : List Addr), PTs (X.blk s H scope (compEnvC scope cl Ca X.env) fp) ifs (tTst X C hi c)
  hpe : ∀ (s : Shared) (H : Hp) (Ca : Addr) (cl : List (Str × Addr)) (fp : List Addr), PE (X.blk s H scope (compEnvC scope cl Ca X.env) fp) elt (sE X C WN x)
  hns : nsetB iter = true
mutual
theorem m_ok : ∀ (b : Ex) {sc : Scope} {X : Cx} {W : WX} {t : Bool} {e : Expr}, Mx G N sc X C W k → m G N sc t b e = true → Res X C W t b e
  | .cst c, sc, X, W, t, e, M, h => by
    refine strip_res ?_
    unfold m at h
    split at h
    · rename_i he
      rw [he]
      exact res_val (cst_ok h) rfl
    · cases h
  | .var i, sc, X, W, t, e, M, h => by
    refine strip_res ?_
    unfold m at h
    split at h
    · rename_i he
      rw [he]
      rw [Bool.and_eq_true, decide_eq_true_eq] at h
      obtain ⟨h1, h2, h3⟩ := visB_ok M h.2
      exact res_val (s_var (by rw [M.hN]; exact h.1) h1 h2 h3) rfl
    · cases h
  | .gst x, sc, X, W, t, e, M, h => by
    refine strip_res ?_
    unfold m at h
    split at h
    · rename_i he
      rw [he]
      rw [Bool.and_eq_true, decide_eq_true_eq] at h
      obtain ⟨rfl, h2⟩ := h
      obtain ⟨h3, h4⟩ := glB_ok M h2
      exact res_val (s_gst M.ok h3 h4) rfl
    · cases h
  | .bin o a b, sc, X, W, t, e, M, h => by
    refine strip_res ?_
    unfold m at h
    split at h
    · rename_i he
      rw [he]
      simp only [Bool.and_eq_true, decide_eq_true_eq] at h
      obtain ⟨⟨rfl, h2⟩, h3⟩ := h
      exact res_val (s_bin (m_ok a (t := false) M h2) (m_ok b (t := false) M h3)) rfl
    · cases h
  | .neg a, sc, X, W, t, e, M, h => by
    refine strip_res ?_
    unfold m at h
    split at h
    · rename_i he
      rw [he]
      exact res_val (s_neg (m_ok a (t := false) M h)) rfl
    · cases h
  | .cmp o a b, sc, X, W, t, e, M, h => by
    refine strip_res ?_
    unfold m at h
    split at h
    · rename_i he
      rw [he]
      simp only [Bool.and_eq_true, decide_eq_true_eq, Bool.not_eq_true'] at h
      obtain ⟨⟨⟨rfl, h2⟩, h3⟩, h4⟩ := h
      have p2 : PE X _ (sE X C W a) := m_ok a (t := false) M h2
      have p3 : PE X _ (sE X C W b) := m_ok b (t := false) M h3
      cases t with
      | false => exact s_cmp M.ok p2 p3 h4
      | true => exact ⟨t_cmp M.ok p2 p3 h4, fun _ _ _ z => nomatch z⟩
    · cases h
  | .cmp2 o p a b c, sc, X, W, t, e, M, h => by
    refine strip_res ?_
    unfold m at h
    split at h
    · rename_i he
      rw [he]
      simp only [Bool.and_eq_true, decide_eq_true_eq, Bool.not_eq_true'] at h
      obtain ⟨⟨⟨⟨⟨rfl, rfl⟩, h2⟩, h3⟩, h4⟩, h5⟩ := h
      have p2 : PE X _ (sE X C W a) := m_ok a (t := false) M h2
      have p3 : PE X _ (sE X C W b) := m_ok b (t := false) M h3
      have p4 : PE X _ (sE X C W c) := m_ok c (t := false) M h4
      cases t with
      | false => exact s_cmp2 M.ok p2 p3 p4 h5
      | true => exact ⟨t_cmp2 M.ok p2 p3 p4 h5, fun _ _ _ z => nomatch z⟩
    · cases h
  | .and a b, sc, X, W, t, e, M, h => by
    refine strip_res ?_
    unfold m at h
    split at h
    · rename_i he
      rw [he]
      rw [Bool.and_eq_true] at h
      have p1 := m_ok a M h.1
      have p2 := m_ok b M h.2
      cases t with
      | false => exact s_and p1 p2
      | true => exact res_w (t_and p1.1 (p2.2 _ _ _ rfl))
    · cases h
  | .or a b, sc, X, W, t, e, M, h => by
    refine strip_res ?_
    unfold m at h
    split at h
    · rename_i he
      rw [he]
      rw [Bool.and_eq_true] at h
      have p1 := m_ok a M h.1
      have p2 := m_ok b M h.2
      cases t with
      | false => exact s_or p1 p2
      | true => exact res_w (t_or p1.1 (p2.2 _ _ _ rfl))
    · cases h
  | .not a, sc, X, W, t, e, M, h => by
    refine strip_res ?_
    unfold m at h
    split at h
    · rename_i he
      rw [he]
      have p1 := m_ok a M h
      cases t with
      | false => exact s_not p1
      | true => exact ⟨t_not p1.1, fun _ _ _ z => nomatch z⟩
    · cases h
  | .ife c a b, sc, X, W, t, e, M, h => by
    refine strip_res ?_
    unfold m at h
    split at h
    · rename_i he
      rw [he]
      simp only [Bool.and_eq_true, Bool.not_eq_true'] at h
      obtain ⟨⟨⟨rfl, h1⟩, h2⟩, h3⟩ := h
      exact s_ife (m_ok c (t := true) M h1).1 (m_ok a (t := false) M h2) (m_ok b (t := false) M h3)
    · cases h
  | .tup xs, sc, X, W, t, e, M, h => by
    refine strip_res ?_
    unfold m at h
    split at h
    · rename_i he
      rw [he]
      exact res_val (s_tup (mA_ok xs M h).1) rfl
    · cases h
  | .lst al xs, sc, X, W, t, e, M, h => by
    refine strip_res ?_
    unfold m at h
    split at h
    · rename_i he
      rw [he]
      exact res_val (s_lst (mA_ok xs M h).1) rfl
    · cases h
  | .ix a b, sc, X, W, t, e, M, h => by
    refine strip_res ?_
    unfold m at h
    split at h
    · rename_i he
      rw [he]
      simp only [Bool.and_eq_true] at h
      obtain ⟨⟨h1, h2⟩, h3⟩ := h
      exact res_val (s_ix (m_ok a (t := false) M h2) (m_ok b (t := false) M h3) (plain_ix h1)) rfl
    · cases h
  | .sl a lo hi, sc, X, W, t, e, M, h => by
    refine strip_res ?_
    unfold m at h
    split at h
    · rename_i a' lo' hi' _ _ he
      rw [he]
      simp only [Bool.and_eq_true] at h
      obtain ⟨⟨h1, h2⟩, h3⟩ := h
      have non : ∀ {x : Ex}, isNon x = true → x = .cst .non := fun {x} z => by
        unfold isNon at z
        split at z
        · rfl
        · cases z
      have pl : PO X lo' (sO X C W lo) := by
        cases lo' with
        | none => rw [non h2]; exact o_none
        | some l =>
          simp only [Bool.and_eq_true, Bool.not_eq_true'] at h2
          exact o_some (m_ok lo (t := false) M h2.2) h2.1
      have ph : PO X hi' (sO X C W hi) := by
        cases hi' with
        | none => rw [non h3]; exact o_none
        | some l =>
          simp only [Bool.and_eq_true, Bool.not_eq_true'] at h3
          exact o_some (m_ok hi (t := false) M h3.2) h3.1
      exact res_val (s_sl (m_ok a (t := false) M h1) pl ph) rfl
    · cases h
  | .call kp f xs, sc, X, W, t, e, M, h => by
    refine strip_res ?_
    unfold m at h
    split at h
    · rename_i g p es cpos he
      rw [he]
      simp only [Bool.and_eq_true, decide_eq_true_eq] at h
      obtain ⟨⟨⟨⟨rfl, h2⟩, h3⟩, h4⟩, h5⟩ := h
      obtain ⟨g1, g2⟩ := glB_ok M h2
      obtain ⟨F, hF⟩ := Option.isSome_iff_exists.mp h3
      have pa := (mA_ok xs M h5).1
      cases es with
      | nil =>
        cases xs with
        | nil => exact res_val (s_call0 M.ok hF g1 g2) rfl
        | cons s x r => cases s <;> cases h5
      | cons e1 es =>
        rw [List.all_cons, Bool.and_eq_true] at h4
        exact res_val (s_call M.ok hF g1 pa g2 h4.1 h4.2) rfl
    · cases h
  | .blt f xs, sc, X, W, t, e, M, h => by
    refine strip_res ?_
    unfold m at h
    split at h
    · rename_i he
      rw [he]
      simp only [Bool.and_eq_true, decide_eq_true_eq] at h
      obtain ⟨⟨⟨⟨⟨⟨rfl, h2⟩, h3⟩, h4⟩, h5⟩, h6⟩, h7⟩ := h
      exact res_val (s_blt M.ok h3 h4 (glB_ok M h2).1 (mA_ok xs M h7).1 h5 h6) rfl
    · cases h
  | .lsa xs, sc, X, W, t, e, M, h => by
    refine strip_res ?_
    unfold m at h
    split at h
    · rename_i he
      rw [he]
      simp only [Bool.and_eq_true, decide_eq_true_eq] at h
      obtain ⟨⟨⟨⟨rfl, h2⟩, h3⟩, h4⟩, h5⟩ := h
      exact res_val (s_lsa M.ok h3 (glB_ok M h2).1 (mA_ok xs M h5).1 h4) rfl
    · cases h
  | .isi a ty, sc, X, W, t, e, M, h => by
    refine strip_res ?_
    unfold m at h
    split at h
    · rename_i he
      rw [he]
      simp only [Bool.and_eq_true, decide_eq_true_eq] at h
      obtain ⟨⟨⟨⟨⟨⟨⟨⟨rfl, rfl⟩, h3⟩, h4⟩, h5⟩, h6⟩, h7⟩, h8⟩, h9⟩ := h
      exact res_val (s_isi M.ok h3 h4 (glB_ok M h6).1 h5 (glB_ok M h7).1 (m_ok a (t := false) M h9) h8) rfl
    · cases h
  | .met mm a xs, sc, X, W, t, e, M, h => by
    refine strip_res ?_
    unfold m at h
    split at h
    · rename_i x p mm' apos es cpos he
      rw [he]
      simp only [Bool.and_eq_true, decide_eq_true_eq] at h
      obtain ⟨⟨⟨⟨rfl, h2⟩, h3⟩, h4⟩, h5⟩ := h
      have pa := (mA_ok xs M h4).1
      have p3 : PE X _ (sE X C W a) := m_ok a (t := false) M h3
      split at h5
      · rw [Bool.and_eq_true, decide_eq_true_eq] at h5
        obtain ⟨rfl, h6⟩ := h5
        cases xs with
        | nil => exact res_val (s_bitl p3 h2) rfl
        | cons => cases h6
      · rw [Bool.and_eq_true, decide_eq_true_eq] at h5
        obtain ⟨rfl, h6⟩ := h5
        exact res_val (s_app p3 pa h6 h2) rfl
      · simp only [Bool.and_eq_true, decide_eq_true_eq] at h5
        obtain ⟨⟨rfl, h6⟩, h7⟩ := h5
        exact res_val (s_ins p3 pa h6 h7 h2) rfl
      · cases h5
    · cases h
  | .lc al x tg ik xs hi c own, sc, X, W, t, e, M, h => by
    refine strip_res ?_
    unfold m at h
    split at h
    · rename_i elt tg' iter ifs scope pos he
      rw [he]
      simp only [Bool.and_eq_true] at h
      obtain ⟨⟨⟨⟨⟨⟨⟨h1, h2⟩, h3⟩, h4⟩, h5⟩, h6⟩, h7⟩, h8⟩ := h
      have ht : ∀ i ∈ tgIx tg, i ∈ own.map (·.2) := fun i hi => of_decide_eq_true (List.all_eq_true.mp h2 i hi)
      have pa := mA_ok xs M h6
      have pit := it_ok M h5 pa.1 pa.2
      have hb : BlkOk X.N X.env.scope scope own := by rw [M.hN, M.hsc]; exact blkOk_by h1
      refine res_val (s_lc M.ok ht pit hb (fun s H Ca cl fp => ?_) (fun s H Ca cl fp => ?_) (fun s H Ca cl fp => ?_) h4) rfl
      · exact mTg_ok tg M.hN M.ok.nd M.ok.calm (blkB_ok M s H Ca cl fp) h3
      · have MB := M.blk hb.kind s H Ca cl fp
        split at h8
        · have : hi = false := by simpa using h8
          subst this
          exact pts_nil
        · rw [Bool.and_eq_true] at h8
          obtain ⟨rfl, h9⟩ := h8
          exact pts_one (m_ok c (t := true) MB h9).1
        · cases h8
      · exact m_ok x (t := false) (M.blk hb.kind s H Ca cl fp) h7
    · cases h
theorem mA_ok : ∀ (xs : Exs) {sc : Scope} {X : Cx} {W : WX} {es : List Expr}, Mx G N sc X C W k → mA G N sc xs es = true → PA X es (sA X C W xs) ∧ ∀ e1, es = [e1] → nst e1 = true → ∃ a, xs = .cons false a .nil ∧ PE X e1 (sE X C W a)
  | .nil, sc, X, W, es, M, h => by
    unfold mA at h
    cases es with
    | nil => exact ⟨a_nil, fun _ z => nomatch z⟩
    | cons => cases h
  | .cons false e r, sc, X, W, es, M, h => by
    unfold mA at h
    split at h
    · rename_i e' es
      simp only [Bool.and_eq_true] at h
      obtain ⟨⟨h1, h2⟩, h3⟩ := h
      have p1 : PE X e' (sE X C W e) := m_ok e (t := false) M h2
      have p2 := mA_ok r M h3
      refine ⟨a_cons p1 p2.1 (star_one h1), fun e1 z hn => ?_⟩
      cases z
      cases r with
      | nil => exact ⟨e, rfl, p1⟩
      | cons s x r => cases s <;> cases h3
    · cases h
  | .cons true e r, sc, X, W, es, M, h => by
    unfold mA at h
    split at h
    · rename_i e' p es
      rw [Bool.and_eq_true] at h
      refine ⟨a_star (m_ok e (t := false) M h.1) (mA_ok r M h.2).1, fun e1 z hn => ?_⟩
      cases z
      cases hn
    · cases h
end
theorem lc_of {sc : Scope} {X : Cx} {W : WX} {al : Bool} {x c : Ex} {tg : Tg} {ik : IK} {xs : Exs} {hi : Bool} {own : List (Str × Nat)} {elt tg' iter : Expr} {ifs : List Expr} {scope : Scope} {pos : Pos} (M : Mx G N sc X C W k)
    (h : m G N sc false (.lc al x tg ik xs hi c own) (.ListComp elt [⟨tg', iter, ifs, 0⟩] scope pos) = true) : LcOk G N C k sc X W x tg ik xs hi c own elt tg' iter ifs scope := by
  unfold m at h
  have e : strip (.ListComp elt [⟨tg', iter, ifs, 0⟩] scope pos) = .ListComp elt [⟨tg', iter, ifs, 0⟩] scope pos := rfl
  rw [e] at h
  simp only [Bool.and_eq_true] at h
  obtain ⟨⟨⟨⟨⟨⟨⟨h1, h2⟩, h3⟩, h4⟩, h5⟩, h6⟩, h7⟩, h8⟩ := h
  have pa := mA_ok xs M h6
  have hb : BlkOk X.N X.env.scope scope own := by rw [M.hN, M.hsc]; exact blkOk_by h1
  refine ⟨fun i hi => of_decide_eq_true (List.all_eq_true.mp h2 i hi), it_ok M h5 pa.1 pa.2, hb, fun s H Ca cl fp => mTg_ok tg M.hN M.ok.nd M.ok.calm (blkB_ok M s H Ca cl fp) h3, fun s H Ca cl fp => ?_, fun s H Ca cl fp => m_ok x (t := false) (M.blk hb.kind s H Ca cl fp) h7, h4⟩
  have MB := M.blk hb.kind s H Ca cl fp
  split at h8
  · have : hi = false := by simpa using h8
    subst this
    exact pts_nil
  · rw [Bool.and_eq_true] at h8
    obtain ⟨rfl, h9⟩ := h8
    exact pts_one (m_ok c (t := true) MB h9).1
  · cases h8
end
end Wk

set_option maxRecDepth 100000
set_option maxHeartbeats 1000000
/-! Wk20: whether statements of the text are what the own syntax says. -/
namespace Wk
open PySem PySem.Spec PyProof.Rows L2

def swB (sc : Scope) (e : Expr) (x : Str) (px : Pos) : Bool := match e with
  | .ListComp _ _ s p | .SetComp _ _ s p | .DictComp _ _ _ s p => decide (sc.names.lookup x = some .local) && px.line == p.line && !(s.names.any fun (n, k) => n == x && (k == .local || k == .cell))
  | _ => false
theorem sw_eq {env : PySem.Env} (hk : env.scope.kind = .function) {e : Expr} {x : Str} {px : Pos} {l : Nat} : swapsWith e (some (.Name x px)) l env = pure (swB env.scope e x px) := by
  have hb : (env.blockKind == ScopeKind.function) = true := by unfold Env.blockKind; rw [hk]; rfl
  have hl : (env.kindOf x == some NameKind.local) = decide (env.scope.names.lookup x = some .local) := by
    unfold Env.kindOf
    cases env.scope.names.lookup x with
    | none => rfl
    | some k => cases k <;> rfl
  cases e with
  | ListComp a b s p =>
    show (pure ((env.blockKind == ScopeKind.function) && (env.kindOf x == some NameKind.local) && (px.line == p.line) && !(s.names.any fun (n, k) => n == x && (k == .local || k == .cell))) : Sem Bool) = _
    rw [hb, hl]; rfl
  | SetComp a b s p =>
    show (pure ((env.blockKind == ScopeKind.function) && (env.kindOf x == some NameKind.local) && (px.line == p.line) && !(s.names.any fun (n, k) => n == x && (k == .local || k == .cell))) : Sem Bool) = _
    rw [hb, hl]; rfl
  | DictComp a b c s p =>
    show (pure ((env.blockKind == ScopeKind.function) && (env.kindOf x == some NameKind.local) && (px.line == p.line) && !(s.names.any fun (n, k) => n == x && (k == .local || k == .cell))) : Sem Bool) = _
    rw [hb, hl]; rfl
  | _ => rfl
theorem sw_sub {e a b : Expr} {p : Pos} {l : Nat} {env : PySem.Env} : swapsWith e (some (.Subscript a b p)) l env = pure false := by cases e <;> rfl
theorem sw_tup {e : Expr} {es : List Expr} {k : Nat} {p : Pos} {l : Nat} {env : PySem.Env} : swapsWith e (some (.Tuple es k p)) l env = pure false := by cases e <;> rfl
def notTup : Expr → Bool
  | .Tuple .. => false
  | _ => true
theorem ss_none {tg e : Expr} {env : PySem.Env} (h : notTup e = true) : swappedStores [tg] e env = pure none := by
  cases e <;> first | (cases tg <;> rfl) | cases h
mutual
def mS (G : Pr) (N : List Str) (sc : Scope) : Sx → Stmt → Bool
  | .set i e, s => match s with
    | .Assign [.Name x px] e' _ => decide (N[i]? = some x) && locB sc x && m G N sc false e e' && (!(swB sc e' x px) || (match e, e' with
      | .lc .., .ListComp _ [⟨_, _, _, 0⟩] _ _ => true
      | _, _ => false))
    | _ => false
  | .unp tg e, s => match s with
    | .Assign [.Tuple es kk pt] e' _ => notTup e' && mTg N (locB sc) tg (.Tuple es kk pt) && m G N sc false e e'
    | _ => false
  | .aug o i e, s => match s with
    | .AugAssign (.Name x _) o' e' _ => decide (N[i]? = some x) && decide (o' = o) && locB sc x && m G N sc false e e'
    | _ => false
  | .six a b e, s => match s with
    | .Assign [.Subscript a' b' _] e' _ => plainB b' && notTup e' && m G N sc false a a' && m G N sc false b b' && m G N sc false e e'
    | _ => false
  | .ex e, s => match s with
    | .Expr e' _ => ncpB e' && m G N sc false e e'
    | _ => false
  | .ret e, s => match s with
    | .Return (some e') _ => m G N sc false e e'
    | _ => false
  | .retN, s => match s with
    | .Return none _ => true
    | _ => false
  | .iff c a b, s => match s with
    | .If c' a' b' _ => m G N sc true c c' && mSs G N sc a a' && mSs G N sc b b'
    | _ => false
  | .loop tg k xs body, s => match s with
    | .For tg' iter body' [] _ => mTg N (locB sc) tg tg' && nsetB iter && itB G sc k iter tg' && mA G N sc xs (itArgs k iter) && mSs G N sc body body'
    | _ => false
  | .raise c mm, s => match s with
    | .Raise (some (.Call (.Name c' _) [.Constant (.str m') _ _] [] _)) none _ => decide (c' = c) && decide (m' = mm) && decide (c ∈ G.excs) && glB sc c
    | _ => false
  | .brk, s => match s with
    | .Break _ => true
    | _ => false
  | .cnt, s => match s with
    | .Continue _ => true
    | _ => false
  | .pass, s => match s with
    | .Pass _ => true
    | .Expr (.Constant (.str _) _ _) _ => true
    | _ => false
def mSs (G : Pr) (N : List Str) (sc : Scope) : Sxs → List Stmt → Bool
  | .nil, ss => ss.isEmpty
  | .cons s r, ss => match ss with
    | s' :: r' => mS G N sc s s' && mSs G N sc r r'
    | [] => false
end
section
variable {G : Pr} {N : List Str} {C : Ctx} {k : Nat}
theorem ss_setLc {sc : Scope} {X : Cx} {W : WX} (M : Mx G N sc X C W k) {i : Nat} {y : Str} {py pos spos : Pos} {al : Bool} {x c : Ex} {tg : Tg} {ik : IK} {xs : Exs} {hi : Bool} {own : List (Str × Nat)} {elt tg' iter : Expr} {ifs : List Expr} {scope : Scope}
    (L : LcOk G N C k sc X W x tg ik xs hi c own elt tg' iter ifs scope) (hy : X.N[i]? = some y) (hyl : X.env.scope.names.lookup y = some .local) (hsw : swapsWith (.ListComp elt [⟨tg', iter, ifs, 0⟩] scope pos) (some (.Name y py)) spos.line X.env = pure true) :
    PS X (.Assign [.Name y py] (.ListComp elt [⟨tg', iter, ifs, 0⟩] scope pos) spos) (sS X C W (.set i (.lc al x tg ik xs hi c own))) :=
  PS.weaken (PS.unl (ps_setLc M.ok.calm M.ok.nd hy hyl hsw L.hit L.hbl L.hpg L.hpt L.hpe (nset_fold L.hns))) fun D σ H h => s_lcF L.htg (setF h)
mutual
theorem mS_ok {sc : Scope} {X : Cx} {W : WX} (M : Mx G N sc X C W k) (hp : PassesOwn (model X.prog X.w) X.A X.env X.xe) (hf : ∀ x, X.fn x = true) : ∀ (x : Sx) {s : Stmt}, mS G N sc x s = true → PS X s (sS X C W x)
  | .set i e, s, h => by
    unfold mS at h
    split at h
    · rename_i x px e' pos
      simp only [Bool.and_eq_true, decide_eq_true_eq, Bool.or_eq_true, Bool.not_eq_true'] at h
      obtain ⟨⟨⟨h1, h2⟩, h3⟩, h4⟩ := h
      obtain ⟨l1, l2⟩ := locB_ok M hf x h2
      have hN : X.N[i]? = some x := by rw [M.hN]; exact h1
      have hk : X.env.scope.kind = .function := by rw [M.hsc]; exact M.kind
      cases hw : swB sc e' x px with
      | false => exact ss_set M.ok hN l1 l2 (m_ok e (t := false) M h3) (by rw [sw_eq hk, M.hsc, hw])
      | true =>
        rw [hw] at h4
        rcases h4 with h4 | h4
        · cases h4
        · split at h4
          · have hyl : sc.names.lookup x = some .local := by
              unfold swB at hw
              simp only [Bool.and_eq_true, decide_eq_true_eq] at hw
              exact hw.1.1
            exact ss_setLc M (lc_of M h3) hN (by rw [M.hsc]; exact hyl) (by rw [sw_eq hk, M.hsc, hw])
          · cases h4
    · cases h
  | .unp tg e, s, h => by
    unfold mS at h
    split at h
    · rename_i es kk pt e' pos
      simp only [Bool.and_eq_true] at h
      obtain ⟨⟨h1, h2⟩, h3⟩ := h
      exact ss_unp M.ok (mTg_ok tg M.hN M.ok.nd M.ok.calm (locB_ok M hf) h2) (m_ok e (t := false) M h3) (show swapsWith e' (some (.Tuple es kk pt)) pos.line X.env = pure false from sw_tup) (ss_none h1) rfl
    · cases h
  | .aug o i e, s, h => by
    unfold mS at h
    split at h
    · simp only [Bool.and_eq_true, decide_eq_true_eq] at h
      obtain ⟨⟨⟨h1, rfl⟩, h2⟩, h3⟩ := h
      obtain ⟨l1, l2⟩ := locB_ok M hf _ h2
      exact ss_aug M.ok (by rw [M.hN]; exact h1) l1 l2 (m_ok e (t := false) M h3)
    · cases h
  | .six a b e, s, h => by
    unfold mS at h
    split at h
    · rename_i a' b' tpos e' pos
      simp only [Bool.and_eq_true] at h
      obtain ⟨⟨⟨⟨h1, h2⟩, h3⟩, h4⟩, h5⟩ := h
      exact ss_six (m_ok a (t := false) M h3) (m_ok b (t := false) M h4) (m_ok e (t := false) M h5) (show swapsWith e' (some (.Subscript a' b' tpos)) pos.line X.env = pure false from sw_sub) h1
    · cases h
  | .ex e, s, h => by
    unfold mS at h
    split at h
    · rw [Bool.and_eq_true] at h
      exact ss_ex (m_ok e (t := false) M h.2) (ncp_sw h.1)
    · cases h
  | .ret e, s, h => by
    unfold mS at h
    split at h
    · exact ss_ret (m_ok e (t := false) M h)
    · cases h
  | .retN, s, h => by
    unfold mS at h
    split at h
    · exact ss_retN
    · cases h
  | .iff c a b, s, h => by
    unfold mS at h
    split at h
    · simp only [Bool.and_eq_true] at h
      exact ss_if (m_ok c (t := true) M h.1.1).1 (mSs_ok M hp hf a h.1.2) (mSs_ok M hp hf b h.2)
    · cases h
  | .loop tg ik xs body, s, h => by
    unfold mS at h
    split at h
    · simp only [Bool.and_eq_true] at h
      obtain ⟨⟨⟨⟨h1, h2⟩, h3⟩, h4⟩, h5⟩ := h
      have pa := mA_ok xs M h4
      exact ss_loop M.ok hp (it_ok M h3 pa.1 pa.2) (mTg_ok tg M.hN M.ok.nd M.ok.calm (locB_ok M hf) h1) (mSs_ok M hp hf body h5) h2
    · cases h
  | .raise c mm, s, h => by
    unfold mS at h
    split at h
    · simp only [Bool.and_eq_true, decide_eq_true_eq] at h
      obtain ⟨⟨⟨rfl, rfl⟩, h2⟩, h3⟩ := h
      obtain ⟨g1, g2⟩ := glB_ok M h3
      exact ss_raise M.ok h2 g1 g2
    · cases h
  | .brk, s, h => by
    unfold mS at h
    split at h
    · exact ss_brk
    · cases h
  | .cnt, s, h => by
    unfold mS at h
    split at h
    · exact ss_cnt
    · cases h
  | .pass, s, h => by
    unfold mS at h
    split at h
    · exact ss_pass
    · exact ss_doc
    · cases h
theorem mSs_ok {sc : Scope} {X : Cx} {W : WX} (M : Mx G N sc X C W k) (hp : PassesOwn (model X.prog X.w) X.A X.env X.xe) (hf : ∀ x, X.fn x = true) : ∀ (x : Sxs) {ss : List Stmt}, mSs G N sc x ss = true → PSs X ss (sSs X C W x)
  | .nil, ss, h => by
    unfold mSs at h
    cases ss with
    | nil => exact ss_nil
    | cons => cases h
  | .cons s r, ss, h => by
    unfold mSs at h
    split at h
    · rw [Bool.and_eq_true] at h
      exact ss_cons (mS_ok M hp hf s h.1) (mSs_ok M hp hf r h.2)
    · cases h
end
end
end Wk

set_option maxRecDepth 100000
set_option maxHeartbeats 1000000
/-! Wk21: defs; the law's end. -/
namespace Wk
open PySem PySem.Spec PyProof.Rows L2

theorem len0 {us : List Value} (h : us.length = 0) : us = [] := List.eq_nil_of_length_eq_zero h
theorem len1 {us : List Value} (h : us.length = 1) : ∃ a, us = [a] := by
  match us, h with
  | [a], _ => exact ⟨a, rfl⟩
theorem len2 {us : List Value} (h : us.length = 2) : ∃ a b, us = [a, b] := by
  match us, h with
  | [a, b], _ => exact ⟨a, b, rfl⟩
theorem len3 {us : List Value} (h : us.length = 3) : ∃ a b c, us = [a, b, c] := by
  match us, h with
  | [a, b, c], _ => exact ⟨a, b, c, rfl⟩
theorem len4 {us : List Value} (h : us.length = 4) : ∃ a b c d, us = [a, b, c, d] := by
  match us, h with
  | [a, b, c, d], _ => exact ⟨a, b, c, d, rfl⟩
theorem len5 {us : List Value} (h : us.length = 5) : ∃ a b c d e, us = [a, b, c, d, e] := by
  match us, h with
  | [a, b, c, d, e], _ => exact ⟨a, b, c, d, e, rfl⟩
/-- the rule for a def -/
theorem fnG_of {P : Program} {w : World} {K : PySem.W.Frag} {mg : Str → Option Value} {base : Heap} {k : Nat} {f : Addr} {name qual : Str} {params : Arguments} {body : List Stmt} {scope : Scope} {dV kV doc pm cdv ct oc : Value} {an od : Option Addr}
    {osl : Array (Option Value)} {N ps : List Str} {sp : Sp} (lk : K.lookup f = some ⟨oc, od, .func (PySem.W.fnOf name qual params body scope dV kV doc pm an cdv ct), osl⟩) (hcd : PySem.W.codeIn K cdv qual = true) (S : FnScope N ps scope)
    (len : ∀ vs H Q E, sp vs H Q E → vs.length = ps.length)
    (hbody : ∀ (A : Around) (outer : List PySem.Env) (s : Shared) (H : Hp) (vs : List V) (Q : VK) (E : XK), Room k (A.deeper (envOfC qual scope s.heap.objs.size f cdv)) → (A.deeper (envOfC qual scope s.heap.objs.size f cdv)).guards = some [] → sp vs H Q E →
      ∃ t, PSs (cxOf (L2.CX P w) P w K mg base N qual scope f cdv A outer s H E) body t ∧ t { nx := fun _ H' => Q .non H', rt := Q } (start N vs) H) :
    FnG P w K mg base (k + 1) f (PySem.W.fnOf name qual params body scope dV kV doc pm an cdv ct) ps sp := by
  refine ⟨len, fun A outer s H args us vs Q E hr hgd e0 hb r hsp => ?_⟩
  have hl := len _ _ _ _ hsp
  have KX : K.In s.heap := e0.mod.kin.keeps fun b o e => (e0.bs b o e).1
  have lim : s.heap.NoLimit := e0.mod.nolimit.keeps fun b o e => (e0.bs b o e).1
  have hkind : ∀ y ∈ ps.zip us, scope.names.lookup y.1 = some .local ∨ (scope.names.lookup y.1 = some .cell ∧ ((cellsFrom (s.heap.objs.size + 1) scope.names []).lookup y.1).isSome = true) := fun ⟨n, v⟩ hy => by
    rcases S.par n (List.of_mem_zip hy).1 with q | q
    · exact .inl q
    · exact .inr ⟨q, PySem.W.cellsFrom_some _ _ _ (.inl q)⟩
  refine codeAny_call_function hr.depth (KX _ _ lk) rfl S.co S.gen rfl (PySem.W.codeRec_of KX hcd) (hb _ _ _ _ ?_)
  refine wpAny_newFunctionEnv_cells S.kind hkind fun env he s1 x => ?_
  subst he
  refine ⟨lim.keeps x.toInCall.keep, codeAny_func ?_⟩
  obtain ⟨t, ht, hq⟩ := hbody A outer s H vs Q E (hr.deeper _) hgd hsp
  have I : L2.Inv (cxOf (L2.CX P w) P w K mg base N qual scope f cdv A outer s H E) [] (start N vs) H s1 := inv_start S hr.hd e0 hl r x
  refine wpAny_mono (ht.run [] s1 (start N vs) H _ I hq) (fun fl s' hs => ?_) fun e s' hs => hs
  have fin : ∀ {σ' : L2.St} {H' : Hp} {v : V} {u : Value}, L2.Inv (cxOf (L2.CX P w) P w K mg base N qual scope f cdv A outer s H E) [] σ' H' s' → L2.RelV v u → Q v H' → CE outer P w H s Q u s' :=
    fun {σ' H' v u} J rv q => ⟨v, H', J.os, J.bare, J.base, J.hok, rv, q⟩
  cases fl with
  | ret u =>
    obtain ⟨v, σ', H', J, rv, q⟩ := hs
    exact fin J rv q
  | next =>
    obtain ⟨σ', H', J, q⟩ := hs
    exact fin (v := V.non) (u := Value.none) J rfl q
  | brk =>
    obtain ⟨_, _, _, q⟩ := hs
    exact False.elim q
  | cont =>
    obtain ⟨_, _, _, q⟩ := hs
    exact False.elim q
/-- a def's scope, looked at -/
def scB (N ps : List Str) (sc : Scope) : Bool := decide (sc.kind = .function) && !sc.isCoroutine && !sc.isGenerator && decide N.Nodup && decide (N.take ps.length = ps) && ps.all (fun x => locB sc x) && sc.names.all fun y => !decide (y.2 = .free)
theorem scB_ok {N ps : List Str} {sc : Scope} (h : scB N ps sc = true) : FnScope N ps sc := by
  unfold scB at h
  simp only [Bool.and_eq_true, Bool.not_eq_true', decide_eq_true_eq, List.all_eq_true, decide_eq_false_iff_not] at h
  obtain ⟨⟨⟨⟨⟨⟨h1, h2⟩, h3⟩, h4⟩, h5⟩, h6⟩, h7⟩ := h
  refine ⟨h1, h2, h3, h4, h5, fun x hx => ?_, h7⟩
  have := h6 x hx
  unfold locB at this
  simpa using this
/-- a def of the text with its own syntax -/
structure TD where
  d : He.DefD
  N : List Str
  ps : List Str
  F : Fn
  at_ : d.at_ = (d.name, none)
  dfl : d.dfl = []
  kwd : d.kwd = []
  bnd : ∀ (kV doc pm : Value) (an : Option Addr) (cdv ct : Value) (us : List Value), us.length = ps.length → bindArgs (PySem.W.fnOf d.name d.qual d.params d.body d.scope .none kV doc pm an cdv ct) ⟨us, []⟩ = pure (ps.zip us)
def TD.ok (G : Pr) (t : TD) : Bool := scB t.N t.ps t.d.scope && decide (t.N.length = t.F.n) && decide (t.ps.length = t.F.p) && mSs G t.N t.d.scope t.F.body t.d.body
def fnsOf (ts : List TD) : Str → Option Fn := fun f => (ts.find? fun t => decide (t.d.name = f)).map (·.F)
def globsOf (cs : List (Str × D)) : Str → Option D := fun x => cs.lookup x
def prOf (ts : List TD) (cs : List (Str × D)) (bl ex : List Str) : Pr := ⟨fnsOf ts, globsOf cs, bl, ex⟩
def ctxN (G : Pr) (n : Nat) : Ctx := ⟨callN G.fns G.globs n, G.globs⟩
/-- a constant of the module -/
def cstV : D → Option V
  | .int i => some (.int i)
  | .str x => some (.str x)
  | .bl b => some (.bl b)
  | .non => some .non
  | _ => none
def faOf : Str × D → He.Fa
  | (x, .int i) => .int x i
  | (x, .str z) => .str x z
  | (x, _) => .free x
def cokB : Str × D → Bool
  | (_, .int _) => true
  | (_, .str _) => true
  | _ => false
/-- what is known of the module -/
structure Says (ts : List TD) (cs : List (Str × D)) (bl ex : List Str) (K : PySem.W.Frag) (mg : Str → Option Value) : Prop where
  fn : ∀ t ∈ ts, ∃ fd, FunD K t.d.name t.d.qual t.d.params t.d.body t.d.scope [] [] (He.fAd K t.d.at_) fd ∧ mg t.d.name = some (.ref (He.fAd K t.d.at_))
  blt : ∀ b ∈ bl, mg b = none
  glo : ∀ p ∈ cs, ∃ v u, mg p.1 = some u ∧ L2.RelV v u ∧ ∀ (K : PySem.W.Frag) H fb ι, Rel K H fb ι p.2 v
  exc : ∀ c ∈ ex, ∃ Ca, mg c = some (.ref Ca) ∧ PySem.W.excIn K Ca He.veBase "ValueError.__new__" = true ∧ PySem.W.keepIn K (.ref Ca) = true ∧ PySem.W.subIn K (.ref Ca) (.type "BaseException") = some true ∧ PySem.W.typeIn K (.ref Ca) = some (.type "type")
def faAll (ts : List TD) (cs : List (Str × D)) (bl ex : List Str) : List He.Fa := ts.map (fun t => .glo t.d.name) ++ cs.map faOf ++ bl.map .free ++ ex.map .exc ++ ex.map .glo
theorem says_of {ts : List TD} {cs : List (Str × D)} {bl ex : List Str} {K : PySem.W.Frag} {h : Heap} {mg : Str → Option Value} (X : K.In h) (Gm : h.Ns mainGlobals mg) (hc : cs.all cokB = true) (c : He.SaysD (faAll ts cs bl ex) (ts.map (·.d)) K) : Says ts cs bl ex K mg := by
  have c1 := (He.ba (show (((faAll ts cs bl ex).all fun f => f.ok K) && (ts.map (·.d)).all fun d => d.ok K) = true from congrArg (fun z : He.AlD => z.1) c)).1
  have fact : ∀ f ∈ faAll ts cs bl ex, f.ok K = true := fun f hf => List.all_eq_true.mp c1 f hf
  refine ⟨fun t ht => ?_, fun b hb => ?_, fun p hp => ?_, fun e he => ?_⟩
  · obtain ⟨i, hi, e⟩ := List.getElem_of_mem ht
    obtain ⟨fd, F⟩ := c.def_ (d := t.d) i (by simp [hi, e])
    have hd : t.d.dvs K = [] := by unfold He.DefD.dvs; rw [t.dfl]; rfl
    have hk : t.d.kws K = [] := by unfold He.DefD.kws; rw [t.kwd]; rfl
    rw [hd, hk] at F
    refine ⟨fd, F, ?_⟩
    rw [t.at_]
    exact He.glo_ok X Gm (fact _ (by simp [faAll]; exact .inl ⟨t, ht, rfl⟩))
  · exact He.free_ok X Gm (fact _ (by simp [faAll, hb]))
  · have hf := fact (faOf p) (by simp [faAll]; exact .inr (.inl ⟨p.1, p.2, hp, rfl⟩))
    have hcp := List.all_eq_true.mp hc p hp
    obtain ⟨x, d⟩ := p
    cases d with
    | int i => obtain ⟨t, e⟩ := He.int_ok X Gm hf; exact ⟨.int i, _, e, ⟨t, rfl⟩, fun _ _ _ _ => rfl⟩
    | str z => obtain ⟨t, e⟩ := He.str_ok X Gm hf; exact ⟨.str z, _, e, ⟨t, rfl⟩, fun _ _ _ _ => rfl⟩
    | _ => cases hcp
  · have h1 := He.exc_ok (fact (.exc e) (by simp [faAll, he]))
    have h2 := He.glo_ok X Gm (x := e) (fact (.glo e) (by simp [faAll, he]))
    exact ⟨_, h2, h1⟩
section
variable {ts : List TD} {cs : List (Str × D)} {bl ex : List Str} {P : Program} {w : World} {K : PySem.W.Frag} {mg : Str → Option Value} {base : Heap}
theorem start_rel {F : Fn} {N : List Str} {H : Hp} {fb ι : List Addr} {ds : List D} {vs : List V} (r : Rels K H fb ι ds vs) (hN : N.length = F.n) (hp : ds.length = F.p) (hle : F.p ≤ F.n) : RelE K H fb ι (ds.map some ++ List.replicate (F.n - F.p) none) (L2.start N vs) := by
  have hl := r.length
  refine ⟨by simp [L2.start, ← hl, hN, hp], fun i d e => ?_⟩
  by_cases hi : i < ds.length
  · rw [List.getElem?_append_left (by simpa using hi), List.getElem?_map] at e
    cases q : ds[i]? with
    | none => rw [q] at e; cases e
    | some d' =>
      rw [q] at e
      cases e
      obtain ⟨v, h1, h2⟩ := r.get q
      refine ⟨v, ?_, h2⟩
      unfold L2.start
      rw [List.getElem?_append_left (by rw [List.length_map, ← hl]; exact hi), List.getElem?_map, h1]
      rfl
  · rw [List.getElem?_append_right (by simpa using hi), List.getElem?_replicate] at e
    split at e <;> cases e
theorem find_ok {f : Str} {F : Fn} (h : fnsOf ts f = some F) : ∃ t ∈ ts, t.d.name = f ∧ t.F = F := by
  unfold fnsOf at h
  cases q : ts.find? fun t => decide (t.d.name = f) with
  | none => rw [q] at h; cases h
  | some t =>
    rw [q] at h
    cases h
    exact ⟨t, List.mem_of_find?_eq_some q, by have := List.find?_some q; simpa using this, rfl⟩
/-- every def keeps what the evaluator says -/
theorem txt_step (hs : Says ts cs bl ex K mg) (hok : ∀ t ∈ ts, t.ok (prOf ts cs bl ex) = true) (n : Nat) (hf : ∀ t ∈ ts, ∀ fd, FunD K t.d.name t.d.qual t.d.params t.d.body t.d.scope [] [] (He.fAd K t.d.at_) fd → fnsOf ts t.d.name = some t.F → FnG P w K mg base n (He.fAd K t.d.at_) fd t.ps (spOf K mg (ctxN (prOf ts cs bl ex) n) t.d.name)) : Txt (prOf ts cs bl ex) P w K mg base (ctxN (prOf ts cs bl ex) n) n := by
    refine ⟨fun f F hF => ?_, hs.blt, fun x d hx => ?_, hs.exc⟩
    · obtain ⟨t, ht, rfl, rfl⟩ := find_ok hF
      obtain ⟨fd, FD, hm⟩ := hs.fn t ht
      have hk := hok t ht
      unfold TD.ok at hk
      simp only [Bool.and_eq_true, decide_eq_true_eq] at hk
      exact ⟨_, fd, t.ps, hk.1.2, hm, FD.kp, FD.bindsN t.bnd, hf t ht fd FD hF⟩
    · have hx : cs.lookup x = some d := hx
      have hmem : (x, d) ∈ cs := PySem.mem_of_lookup hx
      obtain ⟨v, u, h1, h2, h3⟩ := hs.glo _ hmem
      exact ⟨v, u, h1, h2, fun H fb ι => h3 K H fb ι⟩
theorem fn_all (hs : Says ts cs bl ex K mg) (hok : ∀ t ∈ ts, t.ok (prOf ts cs bl ex) = true) : ∀ n, ∀ t ∈ ts, ∀ fd, FunD K t.d.name t.d.qual t.d.params t.d.body t.d.scope [] [] (He.fAd K t.d.at_) fd → fnsOf ts t.d.name = some t.F → FnG P w K mg base n (He.fAd K t.d.at_) fd t.ps (spOf K mg (ctxN (prOf ts cs bl ex) n) t.d.name) := by
  intro n
  induction n with
  | zero =>
    refine fun t ht fd FD hF => ⟨fun vs H Q E h => ?_, fun A outer s H args us vs Q E hr hg e0 hb r h => ?_⟩
    · obtain ⟨fb, ι, st, ds, S, r, q⟩ := h
      exact q.elim
    · obtain ⟨fb, ι, st, ds, S, r, q⟩ := h
      exact q.elim
  | succ n ih =>
    have ih := txt_step (P := P) (w := w) (base := base) hs hok n ih
    refine fun t ht fd FD hF => ?_
    have hk := hok t ht
    unfold TD.ok at hk
    simp only [Bool.and_eq_true, decide_eq_true_eq] at hk
    obtain ⟨⟨⟨k1, k2⟩, k3⟩, k4⟩ := hk
    have S := scB_ok k1
    have call : ∀ (ds : List D) (st : Store), (ctxN (prOf ts cs bl ex) (n + 1)).call t.d.name ds st = runF (ctxN (prOf ts cs bl ex) n) t.F ds st := fun ds st => by
      show callN (prOf ts cs bl ex).fns (prOf ts cs bl ex).globs (n + 1) t.d.name ds st = _
      unfold callN
      have : (prOf ts cs bl ex).fns t.d.name = some t.F := hF
      rw [this]; rfl
    have cond : ∀ (ds : List D) (st : Store) {K' : PySem.W.Frag} {fb ι : List Addr} {H : Hp} {ok : D → Store → List Addr → Hp → Prop} {exx : D → Store → List Addr → Hp → Prop}, Po K' fb (runF (ctxN (prOf ts cs bl ex) n) t.F ds st) ok exx ι H → ds.length = t.F.p ∧ t.F.p ≤ t.F.n ∧
        Po K' fb ((evSs (ctxN (prOf ts cs bl ex) n) t.F.body (ds.map some ++ List.replicate (t.F.n - t.F.p) none) >>= fun f => match f with
          | .rt d => pure d
          | .nx _ => pure .non
          | .er _ e => fun st => some (.ex e st)
          | _ => .no) st) ok exx ι H := fun ds st {K' fb ι H ok exx} q => by
      unfold runF at q
      cases hc : (ds.length == t.F.p && Nat.ble t.F.p t.F.n) with
      | false => rw [hc] at q; exact q.elim
      | true =>
        rw [hc, if_pos rfl] at q
        rw [Bool.and_eq_true] at hc
        exact ⟨by simpa using hc.1, Nat.ble_eq.mp hc.2, q⟩
    obtain ⟨oc, od, dV, kV, doc, pm, an, cdv, ct, osl, rfl, lk, hcd, _, _⟩ := FD.ex
    refine fnG_of lk hcd S (fun vs H Q E h => ?_) fun A outer s H vs Q E hr hg h => ⟨_, mSs_ok (G := prOf ts cs bl ex) (C := ctxN (prOf ts cs bl ex) n) (k := n) (W := fun cls d _ H => E cls d H) (sc := t.d.scope) (N := t.N) ⟨⟨rfl, S.nd, hg, hr, takes_of rfl rfl rfl rfl, ih⟩, rfl, rfl, S.kind⟩ (passes_of rfl) (fun _ => rfl) t.F.body k4, ?_⟩
    · obtain ⟨fb, ι, st, ds, S', r, q⟩ := h
      rw [call] at q
      rw [← r.length, (cond ds st q).1, k3]
    · obtain ⟨fb, ι, st, ds, S', r, q⟩ := h
      rw [call] at q
      obtain ⟨h1, h2, q⟩ := cond ds st q
      refine ⟨fb, ι, _, st, start_rel r k2 h1 h2, S', q.bind.mono (fun f st1 ι1 H1 g S1 q => ?_) fun e st1 ι1 H1 g S1 q σ' cls dx rx => q cls dx rx⟩
      cases f with
      | nx env => exact fun σ' he => Po.ret (a := D.non) q S1 _ rfl
      | rt d => exact fun v rv => Po.ret (a := d) q S1 v rv
      | bk env => exact q.elim
      | ct env => exact q.elim
      | er env e => exact fun σ' he cls dx rx => q ι1 H1 Grow.refl S1 cls dx rx
end
end Wk

set_option maxRecDepth 100000
set_option maxHeartbeats 1000000
/-! Wk22: the law's end. -/
namespace Wk
open PySem PySem.Spec PyProof.Rows L2

theorem law_callG {P : Program} {w : World} {K : PySem.W.Frag} {mg mb : Str → Option Value} {k : Nat} {fa a : Addr} {fd : FuncData} {x : Str} {sp : Sp} {s₁ : Shared} {vs : List Value} {ns : List Int}
    (KX : K.In s₁.heap) (hns : s₁.heap.Ns mainGlobals mg) (hb : s₁.heap.Ns builtinsNs mb) (hbb : ∀ x : Str, x ≠ "__name__" → mb x = bootBuiltins x) (hlim : s₁.heap.NoLimit) (hg : s₁.gens = #[])
    (ha : s₁.heap.get? a = some { cls := .type "list", data := .seq vs.toArray }) (hi : IntsAre vs ns) (hl : ns.length ≤ sizeLine) (hr : Room k callerA) (hgd : callerA.guards = some [])
    (F : ∀ base : Heap, FnG P w K mg base k fa fd [x] sp) (hbind : ∀ (s : Shared) (u : Value), BindsTo s fd ⟨[u], []⟩ [(x, u)])
    (hsp : ∀ H : Hp, Only H → SqL K H a (ns.map V.int) → sp [.ref a] H (fun v _ => v = .bl true) fun _ _ _ => False) :
    codeAny (model P w) callerA (.call (.ref fa) ⟨[.ref a], []⟩) (fun r s' => r = .ok (.ret (.bool true)) ∧ OldK s₁.heap s'.heap ∧ s'.os = s₁.os ∧ AllBare s'.gens) s₁ := by
  have rv := vals_ints hi
  have lenV := hi.length
  have core : ∀ H : Hp, Only H → SqL K H a (ns.map V.int) → HOk P w H s₁.heap → (∀ b, H b ≠ none → b = a) → (H a ≠ none → K.lookup a = none) →
      codeAny (model P w) callerA (.call (.ref fa) ⟨[.ref a], []⟩) (fun r s' => r = .ok (.ret (.bool true)) ∧ OldK s₁.heap s'.heap ∧ s'.os = s₁.os ∧ AllBare s'.gens) s₁ := by
    intro H hO hS hok hA hK
    have base_of : ∀ {b : Addr} {o : Obj}, s₁.heap.get? b = some o → H b = none → (hidT s₁.heap H).get? b = some o := fun e n => hidT_get e n
    have noA : ∀ {b : Addr} {o : Obj} {es : Array DictEntry} {ep : Nat}, s₁.heap.get? b = some o → o.data = .dict es ep → H b = none := fun {b o es ep} e d => by
      cases q : H b with
      | none => rfl
      | some u =>
        have e' : b = a := hA b (by rw [q]; simp)
        subst e'
        rw [ha] at e; cases e
        have d' : Data.seq vs.toArray _ = Data.dict es ep := d
        cases d'
    have nsK : ∀ {b : Addr} {m : Str → Option Value}, s₁.heap.Ns b m → (hidT s₁.heap H).Ns b m := fun {b m} ⟨o, es, ep, e, d, r⟩ => ⟨o, es, ep, base_of e (noA e d), d, r⟩
    have hKb : K.In (hidT s₁.heap H) := fun b o e => base_of (KX b o e) (by
      cases q : H b with
      | none => rfl
      | some u =>
        have e' : b = a := hA b (by rw [q]; simp)
        subst e'
        rw [hK (by rw [q]; simp)] at e; cases e)
    have hM : Mod K mg (hidT s₁.heap H) := ⟨hKb, nsK hns, ⟨mb, nsK hb, hbb⟩, let ⟨mc, h1, h2⟩ := hlim; ⟨mc, nsK h1, h2⟩⟩
    have e0 : Env0 P w K mg (hidT s₁.heap H) callerA [] s₁ H := ⟨rfl, hM, fun b o e => of_hidT e, Nat.le_of_eq (hidT_size _ _), trivial, fun b hb => absurd (show b ∈ ([] : List Addr) from hb) (by simp), hok, .of_eq hg⟩
    refine codeAny_mono ((F (hidT s₁.heap H)).run callerA [] s₁ H ⟨[.ref a], []⟩ [.ref a] [.ref a] _ _ hr hgd e0 (hbind s₁ (.ref a)) (.cons rfl .nil) (hsp H hO hS)) fun r s' h => ?_
    cases r with
    | error e =>
      obtain ⟨_, _, _, _, _, _, _, _, _, _, _, _, z⟩ := h
      exact z.elim
    | ok fl =>
      cases fl with
      | next => exact False.elim h
      | brk => exact False.elim h
      | cont => exact False.elim h
      | ret u =>
        obtain ⟨v, H', os, bare, un, hok', r', q⟩ := h
        have q' : v = .bl true := q
        subst q'
        obtain rfl : u = Value.bool true := r'
        refine ⟨rfl, OldK.of_keep fun b o e => ?_, os, bare⟩
        cases q : H b with
        | none => exact un.keep b o e q (by intro z; exact absurd (show b ∈ ([] : List Addr) from z) (by simp)) (by simp)
        | some u =>
          rcases hO b with z | ⟨ob, xs, z⟩
          · rw [q] at z; cases z
          · have z2 := un.frzs b ob _ z
            obtain ⟨e1, _⟩ := hok b _ z
            obtain ⟨e2, _⟩ := hok' b _ z2
            rw [e] at e1; cases e1
            exact e2
  cases hk : K.lookup a with
  | some o =>
    have e := KX a o hk
    rw [ha] at e
    cases e
    refine core (fun _ => none) (fun _ => .inl rfl) (.inr ⟨_, vs.toArray, _, hk, rfl, rfl, rfl, by rw [List.size_toArray, lenV]; exact hl, by simpa using rv⟩) (fun b u z => by have z' : (none : Option HO) = some u := z; cases z') (fun b z => absurd rfl z) fun z => absurd rfl z
  | none =>
    refine core (fun b => if b = a then some (.frz { cls := .type "list", data := .seq vs.toArray } (.lst (ns.map V.int))) else none) (fun b => ?_) (.inl (.inr ⟨{ cls := .type "list", data := .seq vs.toArray }, if_pos rfl⟩)) (fun b u z => ?_) (fun b z => ?_) fun _ => hk
    · by_cases hb : b = a
      · exact .inr ⟨_, _, if_pos hb⟩
      · exact .inl (if_neg hb)
    · by_cases hb : b = a
      · have z' := (if_pos hb).symm.trans z
        cases z'
        subst hb
        exact ⟨ha, by rw [List.length_map]; exact hl, vs, _, rv, ha⟩
      · have z' := (if_neg hb).symm.trans z
        cases z'
    · by_cases hb : b = a
      · exact hb
      · exact absurd (if_neg hb) z
theorem walk_ofG {l : PySem.W.OpenLaw} {n k : Nat} {q : Program} {loose : List Str} {XP : (Str → Option Value) → Heap → Prop} {YP : World → Heap → Prop} {d : DefRec} {ts : List TD} {cs : List (Str × D)} {bl ex : List Str} {t : TD} {x : Str}
    (hn : l.most = some n) (hn2 : n ≤ sizeLine) (hdf : d.params.defaults = []) (hr : Room k callerA) (hY : ∀ (w : World) (h : Heap), YP w h → ∃ K : PySem.W.Frag, K.In h ∧ He.SaysD (faAll ts cs bl ex) (ts.map (·.d)) K) (hc : cs.all cokB = true)
    (hok : ts.all (TD.ok (prOf ts cs bl ex)) = true) (ht : t ∈ ts) (hname : t.d.name = d.name) (hps : t.ps = [x]) (hf : fnsOf ts t.d.name = some t.F)
    (hlaw : ∀ ns : List Int, ns.length ≤ n → ∃ st, callN (fnsOf ts) (globsOf cs) k t.d.name [.scr ns] [] = some (.ok (.bl true) st)) :
    PySem.W.WalkO q loose XP YP l.row.toRowW d [] (fun f vs => PySem.call f vs) := by
  refine Att.attach_call hn hdf fun w s₀ s₁ mg mb fa o pm cd doc a vs ns G Y ho hd hcd hmg hobj hints hlen hg => ?_
  obtain ⟨K, KX, hS⟩ := hY w _ Y
  have hs := says_of KX G.T.g hc hS
  have hok' : ∀ t ∈ ts, t.ok (prOf ts cs bl ex) = true := fun t ht => List.all_eq_true.mp hok t ht
  obtain ⟨fd, FD, hm⟩ := hs.fn t ht
  rw [hname, hmg] at hm
  cases hm
  have FG : ∀ base : Heap, FnG l.prog w K mg base k (He.fAd K t.d.at_) fd [x] (spOf K mg (ctxN (prOf ts cs bl ex) k) t.d.name) := fun base => by
    have := fn_all (P := l.prog) (w := w) (base := base) hs hok' k t ht fd FD hf
    rw [hps] at this
    exact this
  refine law_callG KX G.T.g G.T.b G.T.builtins G.T.nolimit hg hobj hints (Nat.le_trans hlen hn2) hr rfl FG (fun s u => ?_) fun H hO hSq => ?_
  · have := FD.bindsA t.bnd s [u] (by rw [hps]; rfl)
    rw [hps] at this
    exact this
  · obtain ⟨st, hst⟩ := hlaw ns hlen
    refine ⟨[], [], [], [.scr ns], ⟨rfl, by simp, by simp, by simp, by simp⟩, ⟨.ref a, [], rfl, ⟨a, rfl, ?_⟩, rfl⟩, ?_⟩
    · rcases hSq with (z | ⟨o, z⟩) | z
      · rcases hO a with y | ⟨o, xs, y⟩
        · rw [y] at z; cases z
        · rw [y] at z; cases z
      · exact .inl ⟨o, z, by simp, by simp⟩
      · exact .inr fun H' => .inr z
    · have : (ctxN (prOf ts cs bl ex) k).call t.d.name [.scr ns] [] = some (.ok (.bl true) st) := hst
      rw [this]
      intro ι' H' g S' v r
      exact r
end Wk

set_option maxRecDepth 100000
set_option maxHeartbeats 2000000
/-! Wl1: the evaluator by equations. -/
namespace Wk
open PySem

section
variable {α β : Type}
@[simp] theorem bnd_ap (m : M α) (f : α → M β) (st : Store) : (m >>= f) st = M.bind m f st := rfl
theorem bind_ok {m : M α} {f : α → M β} {st st' : Store} {a : α} (h : m st = some (.ok a st')) : M.bind m f st = f a st' := by
  unfold M.bind; rw [h]
@[simp] theorem pure_ap (a : α) (st : Store) : (pure a : M α) st = some (.ok a st) := rfl
@[simp] theorem of_ap (a : α) (st : Store) : M.of (some a) st = some (.ok a st) := rfl
theorem rd_ok {f : Store → Option α} {st : Store} {a : α} (h : f st = some a) : M.rd f st = some (.ok a st) := by unfold M.rd; rw [h]
theorem wr_ok {f : Store → Option (α × Store)} {st st' : Store} {a : α} (h : f st = some (a, st')) : M.wr f st = some (.ok a st') := by unfold M.wr; rw [h]
theorem calm_ok {m : M α} {st st' : Store} {a : α} (h : m st = some (.ok a st')) : calm m st = some (.ok a st') := by unfold calm; rw [h]
theorem tr_ok {env : Env} {m : M α} {k : α → M Fl} {st st' : Store} {a : α} (h : m st = some (.ok a st')) : M.tr env m k st = k a st' := by unfold M.tr; rw [h]
end
/-! ### big steps -/
def Ev (C : Ctx) (env : Env) (e : Ex) (st : Store) (d : D) (st' : Store) : Prop := evE C e env st = some (.ok d st')
def EvA (C : Ctx) (env : Env) (xs : Exs) (st : Store) (ds : List D) (st' : Store) : Prop := evA C xs env st = some (.ok ds st')
def Es (C : Ctx) (env : Env) (s : Sx) (st : Store) (f : Fl) (st' : Store) : Prop := evS C s env st = some (.ok f st')
def Ess (C : Ctx) (env : Env) (s : Sxs) (st : Store) (f : Fl) (st' : Store) : Prop := evSs C s env st = some (.ok f st')
section
variable {C : Ctx} {env env' : Env} {st st1 st2 st3 : Store} {a b c e : Ex} {xs : Exs} {x y z d : D} {ds : List D} {al kp : Bool}
theorem Ev.cst : Ev C env (.cst d) st d st := rfl
theorem Ev.var {i : Nat} (h : env[i]? = some (some d)) : Ev C env (.var i) st d st := by show M.of (env[i]?.join) st = _; rw [h]; rfl
theorem Ev.gst {g : Str} (h : C.glob g = some d) : Ev C env (.gst g) st d st := by show M.of (C.glob g) st = _; rw [h]; rfl
theorem Ev.bin {o : Operator} (h1 : Ev C env a st x st1) (h2 : Ev C env b st1 y st2) (h : binD o x y st2 = some d) : Ev C env (.bin o a b) st d st2 := by
  show M.bind (evE C a env) _ st = _
  rw [bind_ok h1]; show M.bind (evE C b env) _ st1 = _
  rw [bind_ok h2]; exact rd_ok h
theorem Ev.neg {i : Int} (h1 : Ev C env a st (.int i) st1) : Ev C env (.neg a) st (.int (-i)) st1 := by
  show M.bind (evE C a env) _ st = _
  rw [bind_ok h1]; rfl
theorem Ev.cmp {o : CmpOp} {r : Bool} (h1 : Ev C env a st x st1) (h2 : Ev C env b st1 y st2) (h : cmpD o x y st2 = some r) : Ev C env (.cmp o a b) st (.bl r) st2 := by
  show M.bind (evE C a env) _ st = _
  rw [bind_ok h1]; show M.bind (evE C b env) _ st1 = _
  rw [bind_ok h2]; exact rd_ok (by rw [h]; rfl)
theorem Ev.cmp2F {o o' : CmpOp} (h1 : Ev C env a st x st1) (h2 : Ev C env b st1 y st2) (h : cmpD o x y st2 = some false) : Ev C env (.cmp2 o o' a b c) st (.bl false) st2 := by
  show M.bind (evE C a env) _ st = _
  rw [bind_ok h1]; show M.bind (evE C b env) _ st1 = _
  rw [bind_ok h2]; show M.bind (M.rd (cmpD o x y)) _ st2 = _
  rw [bind_ok (rd_ok h)]; rfl
theorem Ev.cmp2T {o o' : CmpOp} {r : Bool} (h1 : Ev C env a st x st1) (h2 : Ev C env b st1 y st2) (h : cmpD o x y st2 = some true) (h3 : Ev C env c st2 z st3) (h' : cmpD o' y z st3 = some r) : Ev C env (.cmp2 o o' a b c) st (.bl r) st3 := by
  show M.bind (evE C a env) _ st = _
  rw [bind_ok h1]; show M.bind (evE C b env) _ st1 = _
  rw [bind_ok h2]; show M.bind (M.rd (cmpD o x y)) _ st2 = _
  rw [bind_ok (rd_ok h)]; show M.bind (evE C c env) _ st2 = _
  rw [bind_ok h3]; exact rd_ok (by rw [h']; rfl)
theorem Ev.andF (h1 : Ev C env a st (.bl false) st1) : Ev C env (.and a b) st (.bl false) st1 := by
  show M.bind (evE C a env) _ st = _
  rw [bind_ok h1]; rfl
theorem Ev.andT (h1 : Ev C env a st (.bl true) st1) (h2 : Ev C env b st1 x st2) : Ev C env (.and a b) st x st2 := by
  show M.bind (evE C a env) _ st = _
  rw [bind_ok h1]; exact h2
theorem Ev.orT (h1 : Ev C env a st (.bl true) st1) : Ev C env (.or a b) st (.bl true) st1 := by
  show M.bind (evE C a env) _ st = _
  rw [bind_ok h1]; rfl
theorem Ev.orF (h1 : Ev C env a st (.bl false) st1) (h2 : Ev C env b st1 x st2) : Ev C env (.or a b) st x st2 := by
  show M.bind (evE C a env) _ st = _
  rw [bind_ok h1]; exact h2
theorem Ev.not {r : Bool} (h1 : Ev C env a st (.bl r) st1) : Ev C env (.not a) st (.bl (!r)) st1 := by
  show M.bind (evE C a env) _ st = _
  rw [bind_ok h1]; rfl
theorem Ev.ifeT (h1 : Ev C env c st (.bl true) st1) (h2 : Ev C env a st1 x st2) : Ev C env (.ife c a b) st x st2 := by
  show M.bind (evE C c env) _ st = _
  rw [bind_ok h1]; exact h2
theorem Ev.ifeF (h1 : Ev C env c st (.bl false) st1) (h2 : Ev C env b st1 x st2) : Ev C env (.ife c a b) st x st2 := by
  show M.bind (evE C c env) _ st = _
  rw [bind_ok h1]; exact h2
theorem Ev.tup (h : EvA C env xs st ds st1) (hf : fit ds.length = true) : Ev C env (.tup xs) st (.tup ds) st1 := by
  show M.bind (evA C xs env) _ st = _
  rw [bind_ok h]; show (if fit ds.length = true then pure (D.tup ds) else M.no : M D) st1 = _
  rw [if_pos hf]; rfl
theorem Ev.lst (h : EvA C env xs st ds st1) (hf : fit ds.length = true) : Ev C env (.lst false xs) st (.lst ds) st1 := by
  show M.bind (evA C xs env) _ st = _
  rw [bind_ok h]; show mkL false ds st1 = _
  unfold mkL; rw [if_pos hf]; rfl
theorem Ev.lstA (h : EvA C env xs st ds st1) (hf : fit ds.length = true) : Ev C env (.lst true xs) st (.loc st1.length) (st1 ++ [.lst false ds]) := by
  show M.bind (evA C xs env) _ st = _
  rw [bind_ok h]; show mkL true ds st1 = _
  unfold mkL; rw [if_pos hf]; rfl
theorem Ev.ix (h1 : Ev C env a st x st1) (h2 : Ev C env b st1 y st2) (h : ixD st2 x y = some d) : Ev C env (.ix a b) st d st2 := by
  show M.bind (evE C a env) _ st = _
  rw [bind_ok h1]; show M.bind (evE C b env) _ st1 = _
  rw [bind_ok h2]; exact rd_ok h
theorem Ev.sl {lo hi : Option Int} (h1 : Ev C env a st x st1) (h2 : Ev C env b st1 y st2) (hy : endP b y = some lo) (h3 : Ev C env c st2 z st3) (hz : endP c z = some hi) (h : sliceD st3 x lo hi = some d) : Ev C env (.sl a b c) st d st3 := by
  show M.bind (evE C a env) _ st = _
  rw [bind_ok h1]; show M.bind (evE C b env) _ st1 = _
  rw [bind_ok h2]; show M.bind (M.of (endP b y)) _ st2 = _
  rw [hy]; show M.bind (evE C c env) _ st2 = _
  rw [bind_ok h3]; show M.bind (M.of (endP c z)) _ st3 = _
  rw [hz]; exact rd_ok h
theorem Ev.call {f : Str} (h : EvA C env xs st ds st1) (hc : callD C kp f ds st1 = some (.ok d st2)) : Ev C env (.call kp f xs) st d st2 := by
  show M.bind (evA C xs env) _ st = _
  rw [bind_ok h]; exact hc
theorem Ev.blt {f : Str} (h : EvA C env xs st ds st1) (hc : bltD f ds st1 = some d) : Ev C env (.blt f xs) st d st1 := by
  show M.bind (evA C xs env) _ st = _
  rw [bind_ok h]; exact rd_ok hc
theorem Ev.lsa (h : EvA C env xs st ds st1) {ys : List D} (hc : bltD "list" ds st1 = some (.lst ys)) : Ev C env (.lsa xs) st (.loc st1.length) (st1 ++ [.lst false ys]) := by
  show M.bind (evA C xs env) _ st = _
  rw [bind_ok h]; show M.bind (M.rd _) _ st1 = _
  rw [bind_ok (rd_ok hc)]; rfl
theorem Ev.isi {t u : String} (h : Ev C env a st x st1) (hc : tyOf st1 x = some u) : Ev C env (.isi a t) st (.bl (isTy u t)) st1 := by
  show M.bind (evE C a env) _ st = _
  rw [bind_ok h]; exact rd_ok (by rw [hc]; rfl)
theorem Ev.isi' {t u : String} {r : Bool} (h : Ev C env a st x st1) (hc : tyOf st1 x = some u) (hr : isTy u t = r) : Ev C env (.isi a t) st (.bl r) st1 := hr ▸ Ev.isi h hc
theorem Ev.not' {r r' : Bool} (h1 : Ev C env a st (.bl r) st1) (h : (!r) = r') : Ev C env (.not a) st (.bl r') st1 := h ▸ Ev.not h1
theorem Ev.met {f : Str} (h : Ev C env a st x st1) (ht : metTy f x st1 = some ()) (h2 : EvA C env xs st1 ds st2) (hc : metD f x ds st2 = some (d, st3)) : Ev C env (.met f a xs) st d st3 := by
  show M.bind (evE C a env) _ st = _
  rw [bind_ok h]; show M.bind (M.rd _) _ st1 = _
  rw [bind_ok (rd_ok ht)]; show M.bind (evA C xs env) _ st1 = _
  rw [bind_ok h2]; exact wr_ok hc
theorem Ev.lc {tg : Tg} {k : IK} {hi : Bool} {own : List (Str × Nat)} {its ys : List D} {n : Option Nat} (h : EvA C env xs st ds st1) (hi1 : itD k ds st1 = some (its, n)) (hf : fit its.length = true)
    (hw : withLock n (eachM (lcF C e tg hi c (own.map (·.2)) env) its) st1 = some (.ok ys st2)) (hf2 : fit ys.length = true) : Ev C env (.lc false e tg k xs hi c own) st (.lst ys) st2 := by
  show evE C _ env st = _
  rw [lcF_eq]
  show M.bind (evA C xs env) _ st = _
  rw [bind_ok h]; show M.bind (M.rd _) _ st1 = _
  rw [bind_ok (rd_ok hi1)]
  show (if fit its.length = true then _ else _ : M D) st1 = _
  rw [if_pos hf]
  show M.bind _ _ st1 = _
  rw [bind_ok (calm_ok hw)]
  unfold mkL; rw [if_pos hf2]; rfl
theorem EvA.nil : EvA C env .nil st [] st := rfl
theorem EvA.cons {r : Exs} (h : Ev C env e st d st1) (h2 : EvA C env r st1 ds st2) : EvA C env (.cons false e r) st (d :: ds) st2 := by
  show M.bind (evE C e env) _ st = _
  rw [bind_ok h]; show M.bind (evA C r env) _ st1 = _
  rw [bind_ok h2]; rfl
theorem EvA.star {r : Exs} {ys : List D} (h : Ev C env e st d st1) (hs : sqOf st1 d = some ys) (h2 : EvA C env r st1 ds st2) : EvA C env (.cons true e r) st (ys ++ ds) st2 := by
  show M.bind (evE C e env) _ st = _
  rw [bind_ok h]; show M.bind (M.rd _) _ st1 = _
  rw [bind_ok (rd_ok hs)]; show M.bind (evA C r env) _ st1 = _
  rw [bind_ok h2]; rfl
/-! statements -/
theorem put_eq {i : Nat} (h : i < env.length) : putE i d env st = some (.ok (.nx (env.set i (some d))) st) := by unfold putE; rw [if_pos h]; rfl
theorem Es.set {i : Nat} (h : Ev C env e st d st1) (hl : i < env.length) : Es C env (.set i e) st (.nx (env.set i (some d))) st1 := by
  show M.tr env (evE C e env) _ st = _
  rw [tr_ok h]; exact put_eq hl
theorem Es.unp {tg : Tg} (h : Ev C env e st d st1) (ht : tgSet tg d env = some env') : Es C env (.unp tg e) st (.nx env') st1 := by
  show M.tr env (evE C e env) _ st = _
  rw [tr_ok h]; show M.bind (M.of (tgSet tg d env)) _ st1 = _
  rw [ht]; rfl
theorem Es.aug {i : Nat} {o : Operator} (h0 : env[i]? = some (some x)) (h : Ev C env e st y st1) (ha : augD o x y st1 = some (d, st2)) : Es C env (.aug o i e) st (.nx (env.set i (some d))) st2 := by
  show M.bind (M.of (env[i]?.join)) _ st = _
  rw [h0]; show M.tr env (evE C e env) _ st = _
  rw [tr_ok h]; show M.bind (M.wr _) _ st1 = _
  rw [bind_ok (wr_ok ha)]; exact put_eq (List.getElem?_eq_some_iff.mp h0).1
theorem Es.six (h1 : Ev C env e st d st1) (h2 : Ev C env a st1 x st2) {st4 : Store} (h3 : Ev C env b st2 y st3) (h : setIxD x y d st3 = some ((), st4)) : Es C env (.six a b e) st (.nx env) st4 := by
  show M.tr env (evE C e env) _ st = _
  rw [tr_ok h1]; show M.tr env (evE C a env) _ st1 = _
  rw [tr_ok h2]; show M.tr env (evE C b env) _ st2 = _
  rw [tr_ok h3]; show M.bind (M.wr _) _ st3 = _
  rw [bind_ok (wr_ok h)]; rfl
theorem Es.ex (h : Ev C env e st d st1) : Es C env (.ex e) st (.nx env) st1 := by
  show M.tr env (evE C e env) _ st = _
  rw [tr_ok h]; rfl
theorem Es.ret (h : Ev C env e st d st1) : Es C env (.ret e) st (.rt d) st1 := by
  show M.tr env (evE C e env) _ st = _
  rw [tr_ok h]; rfl
theorem Es.iffT {p q : Sxs} {f : Fl} (h : Ev C env c st (.bl true) st1) (h2 : Ess C env p st1 f st2) : Es C env (.iff c p q) st f st2 := by
  show M.tr env (evE C c env) _ st = _
  rw [tr_ok h]; exact h2
theorem Es.iffF {p q : Sxs} {f : Fl} (h : Ev C env c st (.bl false) st1) (h2 : Ess C env q st1 f st2) : Es C env (.iff c p q) st f st2 := by
  show M.tr env (evE C c env) _ st = _
  rw [tr_ok h]; exact h2
theorem Es.loop {tg : Tg} {k : IK} {body : Sxs} {its : List D} {n : Option Nat} {f : Fl} (h : EvA C env xs st ds st1) (hi : itD k ds st1 = some (its, n)) (hw : noEr n (withLock n (loopM (loopF C tg body) its env)) st1 = some (.ok f st2)) : Es C env (.loop tg k xs body) st f st2 := by
  show M.tr env (evA C xs env) _ st = _
  rw [tr_ok h]; show M.bind (M.rd _) _ st1 = _
  rw [bind_ok (rd_ok hi)]; exact hw
theorem noEr_none {m : M Fl} : noEr none m st = m st := by
  unfold noEr
  cases m st with
  | none => rfl
  | some o => cases o <;> rfl
theorem Es.loopN {tg : Tg} {k : IK} {body : Sxs} {its : List D} {f : Fl} (h : EvA C env xs st ds st1) (hi : itD k ds st1 = some (its, none)) (hw : loopM (loopF C tg body) its env st1 = some (.ok f st2)) : Es C env (.loop tg k xs body) st f st2 :=
  Es.loop h hi (by rw [noEr_none]; exact hw)
theorem Ess.nil : Ess C env .nil st (.nx env) st := rfl
theorem Ess.nx {s : Sx} {r : Sxs} {f : Fl} (h : Es C env s st (.nx env') st1) (h2 : Ess C env' r st1 f st2) : Ess C env (.cons s r) st f st2 := by
  show M.bind (evS C s env) _ st = _
  rw [bind_ok h]; exact h2
theorem Ess.rt {s : Sx} {r : Sxs} (h : Es C env s st (.rt d) st1) : Ess C env (.cons s r) st (.rt d) st1 := by
  show M.bind (evS C s env) _ st = _
  rw [bind_ok h]; rfl
/-- a def -/
theorem run_rt {F : Fn} (hl : (ds.length == F.p && Nat.ble F.p F.n) = true) (h : Ess C (ds.map some ++ List.replicate (F.n - F.p) none) F.body st (.rt d) st1) : runF C F ds st = some (.ok d st1) := by
  unfold runF; rw [if_pos hl]
  show M.bind _ _ st = _
  rw [bind_ok h]; rfl
theorem run_nx {F : Fn} (hl : (ds.length == F.p && Nat.ble F.p F.n) = true) (h : Ess C (ds.map some ++ List.replicate (F.n - F.p) none) F.body st (.nx env') st1) : runF C F ds st = some (.ok .non st1) := by
  unfold runF; rw [if_pos hl]
  show M.bind _ _ st = _
  rw [bind_ok h]; rfl
end
/-! parts of the syntax -/
def Sxs.at_ : Sxs → Nat → Sx
  | .cons s _, 0 => s
  | .cons _ r, n + 1 => r.at_ n
  | .nil, _ => .pass
def Sx.body : Sx → Sxs
  | .loop _ _ _ b => b
  | .iff _ a _ => a
  | _ => .nil
def Sx.rhs : Sx → Ex
  | .set _ e | .ret e | .ex e | .aug _ _ e => e
  | .iff c _ _ => c
  | _ => .cst .non
def Ex.elt : Ex → Ex
  | .lc _ e _ _ _ _ _ _ => e
  | e => e
/-! ### calls -/
theorem locs_pure : ∀ {vs : List D}, D.pures vs = true → locs vs = [] ∧ (∀ j, renum j vs = vs) ∧ vs.all argOk = true
  | [], _ => ⟨rfl, fun _ => rfl, rfl⟩
  | d :: ds, h => by
    have h : (d.pure && D.pures ds) = true := h
    rw [Bool.and_eq_true] at h
    obtain ⟨h1, h2, h3⟩ := locs_pure h.2
    cases d with
    | loc n => cases h.1
    | _ => exact ⟨h1, fun j => by show _ :: renum j ds = _; rw [h2], by rw [List.all_cons, h3, Bool.and_true]; exact h.1⟩
theorem callD_p {C : Ctx} {kp : Bool} {f : Str} {vs : List D} {d : D} {st sx : Store} (h : C.call f vs [] = some (.ok d sx)) (hv : D.pures vs = true) (hd : d.pure = true) : callD C kp f vs st = some (.ok d st) := by
  obtain ⟨h1, h2, h3⟩ := locs_pure hv
  unfold callD
  rw [h1, h2, h3]
  simp only [List.nodup_nil, decide_true, Bool.and_self, if_true]
  show (match C.call f vs [] with | none => none | some (.ok d st') => _ | some (.ex e st') => _) = _
  rw [h]
  have : backD kp [] d sx st = some (d, st) := by
    unfold backD
    cases d with
    | loc n => cases hd
    | _ => exact congrArg (Option.map fun e => (e, wrBack [] [] st)) (D.sub_pure (ρ := deepAt sx 0 sx.length) _ hd)
  simp only [this]
theorem callD_l {C : Ctx} {f : Str} {vs xs : List D} {st : Store} (h : C.call f vs [] = some (.ok (.loc 0) [.lst false xs])) (hv : D.pures vs = true) (hd : D.pures xs = true) : callD C false f vs st = some (.ok (.lst xs) st) := by
  obtain ⟨h1, h2, h3⟩ := locs_pure hv
  unfold callD
  rw [h1, h2, h3]
  simp only [List.nodup_nil, decide_true, Bool.and_self, if_true]
  show (match C.call f vs [] with | none => none | some (.ok d st') => _ | some (.ex e st') => _) = _
  rw [h]
  have : backD false [] (.loc 0) [.lst false xs] st = some (.lst xs, st) := by
    unfold backD
    show ((D.subs _ xs).map D.lst).map _ = _
    rw [D.subs_pure _ hd]; rfl
  simp only [this]
theorem callD_k {C : Ctx} {f : Str} {vs xs : List D} {st : Store} (h : C.call f vs [] = some (.ok (.loc 0) [.lst false xs])) (hv : D.pures vs = true) (hd : D.pures xs = true) : callD C true f vs st = some (.ok (.loc st.length) (st ++ [.lst false xs])) := by
  obtain ⟨h1, h2, h3⟩ := locs_pure hv
  unfold callD
  rw [h1, h2, h3]
  simp only [List.nodup_nil, decide_true, Bool.and_self, if_true]
  show (match C.call f vs [] with | none => none | some (.ok d st') => _ | some (.ex e st') => _) = _
  rw [h]
  have : backD true [] (.loc 0) [.lst false xs] st = some (.loc st.length, st ++ [.lst false xs]) := by
    unfold backD
    show (if D.pures xs = true then _ else _) = _
    rw [if_pos hd]; rfl
  simp only [this]
/-! ### walks -/
theorem each_ok {f : D → M (Option D)} {st : Store} {g : D → D} : ∀ {ps : List D}, (∀ p ∈ ps, f p st = some (.ok (some (g p)) st)) → eachM f ps st = some (.ok (ps.map g) st)
  | [], _ => rfl
  | p :: ps, h => by
    show M.bind (f p) _ st = _
    rw [bind_ok (h p List.mem_cons_self)]
    show M.bind (eachM f ps) _ st = _
    rw [bind_ok (each_ok fun q hq => h q (List.mem_cons_of_mem _ hq))]; rfl
theorem each_map {α : Type} {f : D → M (Option D)} {st : Store} {u v : α → D} : ∀ {xs : List α}, (∀ a ∈ xs, f (u a) st = some (.ok (some (v a)) st)) → eachM f (xs.map u) st = some (.ok (xs.map v) st)
  | [], _ => rfl
  | p :: ps, h => by
    show M.bind (f (u p)) _ st = _
    rw [bind_ok (h p List.mem_cons_self)]
    show M.bind (eachM f (ps.map u)) _ st = _
    rw [bind_ok (each_map fun q hq => h q (List.mem_cons_of_mem _ hq))]; rfl
theorem lcF_ok {C : Ctx} {e c : Ex} {tg : Tg} {vs : List Nat} {env env' : Env} {d y : D} {st st1 : Store} (h : tgSet tg d (wipeE env vs) = some env') (he : Ev C env' e st y st1) : lcF C e tg false c vs env d st = some (.ok (some y) st1) := by
  show M.bind (M.of _) _ st = _
  rw [h]; show M.bind (evE C e env') _ st = _
  rw [bind_ok he]; rfl
theorem loop_nil {f : D → Env → M Fl} {env : Env} {st : Store} : loopM f [] env st = some (.ok (.nx env) st) := rfl
theorem loop_cons {f : D → Env → M Fl} {d : D} {ds : List D} {env env' : Env} {st st1 : Store} (h : f d env st = some (.ok (.nx env') st1)) : loopM f (d :: ds) env st = loopM f ds env' st1 := by
  show M.bind (f d env) _ st = _
  rw [bind_ok h]
theorem loopF_ok {C : Ctx} {tg : Tg} {body : Sxs} {d : D} {env env1 env' : Env} {st st1 : Store} (h : tgSet tg d env = some env1) (hb : Ess C env1 body st (.nx env') st1) (hl : Nat.ble st1.length st.length = true) : loopF C tg body d env st = some (.ok (.nx env') st1) := by
  have : (M.of (tgSet tg d env) >>= fun env' => evSs C body env') st = some (.ok (.nx env') st1) := by
    rw [h]; exact hb
  unfold loopF trimM
  rw [this]
  show (if _ then _ else _) = _
  rw [if_pos hl]
@[simp] theorem eqD_int {st : Store} {i j : Int} : eqD st (.int i) (.int j) = some (decide (i = j)) := by
  have : PyData.eqv (.int i) (.int j) = (i == j) := by unfold PyData.eqv; rfl
  unfold eqD
  show (if ((PyData.int i).canLay0 && (PyData.int j).canLay0 && Nat.ble (min (PyData.int i).depth (PyData.int j).depth) most) = true then some (PyData.eqv (.int i) (.int j)) else none) = _
  rw [this]
  simp [PyData.canLay0, PyData.depth, most]
  rfl
theorem pures_of {ps : List D} (h : ∀ p ∈ ps, p.pure = true) : D.pures ps = true := by
  induction ps with
  | nil => rfl
  | cons p ps ih =>
    show (p.pure && D.pures ps) = true
    rw [h p List.mem_cons_self, ih fun q hq => h q (List.mem_cons_of_mem _ hq)]; rfl
theorem bls_map {α : Type} {ps : List α} : blsOf (ps.map fun _ => D.bl true) = some (ps.map fun _ => true) := by
  induction ps with
  | nil => rfl
  | cons p ps ih => show (blsOf (ps.map fun _ => D.bl true)).map _ = _; rw [ih]; rfl
theorem all_map {α : Type} {ps : List α} {st : Store} : bltD "all" [.lst (ps.map fun _ => D.bl true)] st = some (.bl true) := by
  show ((some (ps.map fun _ => D.bl true)).bind blsOf).map _ = _
  rw [Option.bind_some, bls_map]
  show some (D.bl _) = _
  congr 2
  induction ps with
  | nil => rfl
  | cons p ps ih => simp
theorem at_nat {ps : List D} {i : Nat} {e : D} (h : ps[i]? = some e) : L2.atI ps (i : Nat) = some e := by
  have hi : i < ps.length := (List.getElem?_eq_some_iff.mp h).1
  rw [List.getElem?_eq_getElem hi] at h
  cases h
  simp [L2.atI, L2.ixN, hi]
theorem fit_small {n : Nat} (h : n ≤ 10000) : fit n = true := by
  unfold fit; rw [PySem.sizeLine_eq]; exact Nat.ble_eq.mpr (by omega)
end Wk

set_option maxRecDepth 100000
set_option maxHeartbeats 2000000
/-! Wl2: data that may be compared and shown. -/
namespace Wk
open PySem

def okS (s : Str) : Prop := ∀ c ∈ s.cps.toList, c < 0x110000
theorem okS_lay {s : Str} (h : okS s) : (PyData.str s).canLay0 = true := by
  show s.cps.all (· < 0x110000) = true
  rw [← Array.all_toList, List.all_eq_true]
  exact fun c hc => decide_eq_true (h c hc)
theorem okS.app {a b : Str} (h1 : okS a) (h2 : okS b) : okS (a ++ b) := by
  intro c hc
  have hc : c ∈ (a.cps ++ b.cps).toList := hc
  rw [Array.toList_append, List.mem_append] at hc
  exact hc.elim (h1 c) (h2 c)
theorem okS_lit {s : Str} (h : s.cps.toList.all (fun c => decide (c < 0x110000)) = true) : okS s := fun c hc => of_decide_eq_true (List.all_eq_true.mp h c hc)
theorem okS_join : ∀ {ts : List Str}, (∀ t ∈ ts, okS t) → okS (Str.join ", " ts)
  | [], _ => okS_lit (by decide)
  | [x], h => h x List.mem_cons_self
  | x :: y :: r, h => by
    show okS (x ++ ", " ++ Str.join ", " (y :: r))
    exact ((h x List.mem_cons_self).app (okS_lit (by decide))).app (okS_join fun t ht => h t (List.mem_cons_of_mem _ ht))
theorem okS_text : ∀ {ts : List Str} {k : Nat} {acc : Str}, okS acc → (∀ t ∈ ts, okS t) → okS (textFrom k acc ts)
  | [], k, acc, h, _ => h
  | t :: r, k, acc, h, ht => by
    show okS (textFrom (k + 1) (acc ++ (if k > 0 then ", " else "" : String) ++ t) r)
    refine okS_text ((h.app ?_).app (ht t List.mem_cons_self)) fun u hu => ht u (List.mem_cons_of_mem _ hu)
    split <;> exact okS_lit (by decide)
def Pd (dep sh : Nat) (d : D) : Prop := ∃ x, d.toP = some x ∧ x.canLay0 = true ∧ x.depth ≤ dep ∧ x.showable = true ∧ x.shown.length ≤ sh ∧ okS x.shown
theorem Pd.mono {a b a' b' : Nat} {d : D} (h : Pd a b d) (h1 : a ≤ a') (h2 : b ≤ b') : Pd a' b' d := by
  obtain ⟨x, e, c, p, s, l, o⟩ := h
  exact ⟨x, e, c, Nat.le_trans p h1, s, Nat.le_trans l h2, o⟩
theorem pds {dep sh : Nat} : ∀ {ds : List D}, (∀ d ∈ ds, Pd dep sh d) → ∃ xs, D.toPs ds = some xs ∧ PyData.canLayAll0 xs = true ∧ PyData.depthAll xs ≤ dep ∧ PyData.showableAll xs = true ∧ piled (PyData.shownAll xs) ≤ ds.length * (sh + 2) ∧ (PyData.shownAll xs).length = ds.length ∧ ∀ t ∈ PyData.shownAll xs, okS t
  | [], _ => ⟨[], rfl, rfl, Nat.zero_le _, rfl, by simp [PyData.shownAll, piled], rfl, fun _ z => nomatch z⟩
  | d :: ds, h => by
    obtain ⟨x, e, c, p, s, l, o⟩ := h d List.mem_cons_self
    obtain ⟨xs, es, cs, ps, ss, ls, ns, os⟩ := pds fun y hy => h y (List.mem_cons_of_mem _ hy)
    refine ⟨x :: xs, by show (D.toP d).bind _ = _; rw [e]; show (D.toPs ds).map _ = _; rw [es]; rfl, by simp [PyData.canLayAll0, c, cs], by show max x.depth (PyData.depthAll xs) ≤ dep; omega, by simp [PyData.showableAll, s, ss], ?_, by simp [PyData.shownAll, ns], fun t ht => by
      have ht : t ∈ x.shown :: PyData.shownAll xs := ht
      exact (List.mem_cons.mp ht).elim (fun z => z ▸ o) (os t)⟩
    have : piled (PyData.shownAll (x :: xs)) = x.shown.length + 2 + piled (PyData.shownAll xs) := by simp [PyData.shownAll, piled]
    rw [this, List.length_cons, Nat.succ_mul]
    omega
theorem joinLen {ts : List Str} : (Str.join ", " ts).length ≤ piled ts := by
  cases ts with
  | nil => exact Nat.zero_le _
  | cons a r => have := join_length_add (a :: r) (by simp); omega
theorem Pd.tup {dep sh : Nat} {ds : List D} (h : ∀ d ∈ ds, Pd dep sh d) : Pd (dep + 1) (ds.length * (sh + 2) + 3) (.tup ds) := by
  obtain ⟨xs, e, c, p, s, l, n, o⟩ := pds h
  refine ⟨.tuple xs, by show (D.toPs ds).map _ = _; rw [e]; rfl, c, by show PyData.depthAll xs + 1 ≤ _; omega, s, ?_, (((okS_lit (by decide)).app (okS_join o)).app (by split <;> exact okS_lit (by decide)))⟩
  show (tupleText (PyData.shownAll xs)).length ≤ _
  unfold tupleText
  rw [strLen_append, strLen_append]
  have := joinLen (ts := PyData.shownAll xs)
  have e1 : (("(" : String) : Str).length = 1 := rfl
  have e2 : ((if (PyData.shownAll xs).length == 1 then ",)" else ")" : String) : Str).length ≤ 2 := by split <;> decide
  omega
theorem textLen : ∀ (ts : List Str) (k : Nat) (acc : Str), (textFrom k acc ts).length ≤ acc.length + piled ts
  | [], k, acc => by show acc.length ≤ _; omega
  | t :: r, k, acc => by
    have h := textLen r (k + 1) (acc ++ (if k > 0 then ", " else "" : String) ++ t)
    have e : (acc ++ (if k > 0 then ", " else "" : String) ++ t).length = acc.length + (if k > 0 then 2 else 0) + t.length := by
      rw [strLen_append, strLen_append]
      split <;> rfl
    rw [e] at h
    have : piled (t :: r) = t.length + 2 + piled r := by simp [piled]
    show (textFrom (k + 1) _ r).length ≤ _
    rw [this]
    have : (if k > 0 then 2 else 0) ≤ 2 := by split <;> omega
    omega
theorem Pd.lst {dep sh : Nat} {ds : List D} (h : ∀ d ∈ ds, Pd dep sh d) : Pd (dep + 1) (ds.length * (sh + 2) + 3) (.lst ds) := by
  obtain ⟨xs, e, c, p, s, l, n, o⟩ := pds h
  refine ⟨.list xs, by show (D.toPs ds).map _ = _; rw [e]; rfl, c, by show PyData.depthAll xs + 1 ≤ _; omega, s, ?_, (okS_text (okS_lit (by decide)) o).app (okS_lit (by decide))⟩
  show (listText (PyData.shownAll xs)).length ≤ _
  unfold listText
  rw [strLen_append]
  have := textLen (PyData.shownAll xs) 0 "["
  have e1 : (("[" : String) : Str).length = 1 := rfl
  have e2 : (("]" : String) : Str).length = 1 := rfl
  omega
/-- the same data are the same -/
theorem eq_same {st : Store} {d e : D} {dep sh : Nat} (h : Pd dep sh d) (hd : dep ≤ most) (h1 : rsv st e = d) (h2 : rsv st d = d) : eqD st e d = some true ∧ eqD st d e = some true := by
  obtain ⟨x, e1, c, p, s, l, o⟩ := h
  have q := SeqAt.eqv_refl x c
  have hm : Nat.ble (min x.depth x.depth) most = true := Nat.ble_eq.mpr (by omega)
  unfold eqD
  rw [h1, h2, e1]
  constructor <;> (show (if _ then _ else _) = _; rw [c, hm, q]; rfl)
theorem rsv_pure {st : Store} {d : D} (h : d.pure = true) : rsv st d = d := by
  cases d with
  | loc n => cases h
  | _ => rfl
theorem rsv_loc {st : Store} {n : Nat} {l : Bool} {xs : List D} (h : st[n]? = some (.lst l xs)) : rsv st (.loc n) = .lst xs := by
  show (match st[n]? with
    | some (.lst _ xs) => D.lst xs
    | _ => .loc n) = _
  rw [h]
theorem show_ok {st : Store} {d e : D} {dep sh : Nat} (h : Pd dep sh d) (hd : dep ≤ most) (hs : sh ≤ 16000000) (h1 : rsv st e = d) (hr : ∃ xs, d = .tup xs ∨ d = .lst xs) : ∃ x, d.toP = some x ∧ showD st e = some x.shown ∧ okS x.shown := by
  obtain ⟨x, e1, c, p, s, l, o⟩ := h
  refine ⟨x, e1, ?_, o⟩
  unfold showD
  rw [h1, e1]
  have ir : isRef x = true := by
    obtain ⟨xs, rfl | rfl⟩ := hr
    · have e1 : (D.toPs xs).map PyData.tuple = some x := e1
      cases q : D.toPs xs with
      | none => rw [q] at e1; cases e1
      | some ys => rw [q] at e1; cases e1; rfl
    · have e1 : (D.toPs xs).map PyData.list = some x := e1
      cases q : D.toPs xs with
      | none => rw [q] at e1; cases e1
      | some ys => rw [q] at e1; cases e1; rfl
  show (if (!isRef x) = true then none else if (x.showable && Nat.ble x.depth most && Nat.ble x.shown.length sizeLine) = true then some x.shown else none) = _
  rw [ir, s, Nat.ble_eq.mpr (show x.depth ≤ most by omega), Nat.ble_eq.mpr (show x.shown.length ≤ sizeLine by rw [sizeLine_eq]; omega)]
  rfl
theorem eq_str {st : Store} {x y : Str} (hx : okS x) (hy : okS y) : eqD st (.str x) (.str y) = some (x == y) := by
  have : PyData.eqv (.str x) (.str y) = (x == y) := by unfold PyData.eqv; rfl
  unfold eqD
  show (if ((PyData.str x).canLay0 && (PyData.str y).canLay0 && Nat.ble (min (PyData.str x).depth (PyData.str y).depth) most) = true then some (PyData.eqv (.str x) (.str y)) else none) = _
  rw [this]
  have h1 : (PyData.str x).canLay0 = true := okS_lay hx
  have h2 : (PyData.str y).canLay0 = true := okS_lay hy
  rw [h1, h2]
  simp [PyData.depth, most]
theorem Pd.str {x : Str} (h : okS x) {n : Nat} (hs : (PyData.str x).shown.length ≤ n) (ho : okS (PyData.str x).shown) : Pd 0 n (.str x) := ⟨.str x, rfl, okS_lay h, Nat.le_refl _, rfl, hs, ho⟩
/-- a tuple of ints against () -/
theorem toPs_ints {p : List Nat} : D.toPs (p.map fun (i : Nat) => D.int (i : Int)) = some (p.map fun (i : Nat) => PyData.int (i : Int)) := by
  induction p with
  | nil => rfl
  | cons i p ih => show (D.toP _).bind _ = _; show (D.toPs _).map _ = _; rw [ih]; rfl
theorem lay_ints {p : List Nat} : PyData.canLayAll0 (p.map fun (i : Nat) => PyData.int (i : Int)) = true := by
  induction p with
  | nil => rfl
  | cons i p ih => simp [PyData.canLayAll0, PyData.canLay0, ih]
theorem eq_nilp {st : Store} {p : List Nat} : eqD st (.tup (p.map fun (i : Nat) => D.int (i : Int))) (.tup []) = some p.isEmpty := by
  have e : D.toP (.tup (p.map fun (i : Nat) => D.int (i : Int))) = some (.tuple (p.map fun (i : Nat) => PyData.int (i : Int))) := by
    show (D.toPs _).map _ = _; rw [toPs_ints]; rfl
  unfold eqD
  show (match D.toP (.tup (p.map fun (i : Nat) => D.int (i : Int))), (some (PyData.tuple []) : Option PyData) with
    | some p, some q => if p.canLay0 && q.canLay0 && Nat.ble (min p.depth q.depth) most then some (PyData.eqv p q) else none
    | _, _ => none) = _
  rw [e]
  have h1 : (PyData.tuple (p.map fun (i : Nat) => PyData.int (i : Int))).canLay0 = true := lay_ints
  have h2 : (PyData.tuple []).canLay0 = true := rfl
  have h3 : Nat.ble (min (PyData.tuple (p.map fun (i : Nat) => PyData.int (i : Int))).depth (PyData.tuple []).depth) most = true := Nat.ble_eq.mpr (Nat.le_trans (Nat.min_le_right _ _) (by decide))
  show (if ((PyData.tuple (p.map fun (i : Nat) => PyData.int (i : Int))).canLay0 && (PyData.tuple []).canLay0 && Nat.ble (min (PyData.tuple (p.map fun (i : Nat) => PyData.int (i : Int))).depth (PyData.tuple []).depth) most) = true then some (PyData.eqv (.tuple (p.map fun (i : Nat) => PyData.int (i : Int))) (.tuple [])) else none) = _
  rw [h1, h2, h3]
  cases p <;> rfl
/-- slices -/
theorem sl_from {st : Store} {xs : List D} (n : Nat) (h : n ≤ xs.length) : sliceD st (.tup xs) (some (n : Int)) none = some (.tup (xs.drop n)) := by
  show some (D.tup (cutD xs (some (n : Int)) none)) = _
  unfold cutD
  rw [HT.sIx_none, HT.sIx_nat, Nat.min_eq_left h]
  congr 2
  exact List.take_of_length_le (by rw [List.length_drop]; omega)
theorem sl_to {st : Store} {xs : List D} (n : Nat) (h : n ≤ xs.length) : sliceD st (.tup xs) none (some (n : Int)) = some (.tup (xs.take n)) := by
  show some (D.tup (cutD xs none (some (n : Int)))) = _
  unfold cutD
  rw [HT.sIx_none, HT.sIx_nat, Nat.min_eq_left h]
  simp
/-- a walk over a list of the store -/
theorem wl_eq {α : Type} {m : M α} {st st2 : Store} {n : Nat} {xs ys : List D} {a : α} (h : st[n]? = some (.lst false xs)) (hm : m (st.set n (.lst true xs)) = some (.ok a st2)) (h2 : st2[n]? = some (.lst true ys)) : withLock (some n) m st = some (.ok a (st2.set n (.lst false ys))) := by
  have e : withLock (some n) m st = (match m (st.set n (.lst true xs)) with
      | none => none
      | some (.ok a st') => (unlk n st').map fun s => .ok a s
      | some (.ex e st') => (unlk n st').map fun s => .ex e s) := by
    unfold withLock
    simp only [h]
    rfl
  have u : unlk n st2 = some (st2.set n (.lst false ys)) := by
    unfold unlk
    rw [h2]; rfl
  rw [e, hm]
  show (unlk n st2).map _ = _
  rw [u]; rfl
theorem lcF_t {C : Ctx} {e c : Ex} {tg : Tg} {vs : List Nat} {env env' : Env} {d y : D} {st st1 st2 : Store} (h : tgSet tg d (wipeE env vs) = some env') (hc : Ev C env' c st (.bl true) st1) (he : Ev C env' e st1 y st2) : lcF C e tg true c vs env d st = some (.ok (some y) st2) := by
  show M.bind (M.of _) _ st = _
  rw [h]; show M.bind (M.bind (evE C c env') asB) _ st = _
  have : M.bind (evE C c env') asB st = some (.ok true st1) := by rw [bind_ok hc]; rfl
  rw [bind_ok this]; show M.bind (evE C e env') _ st1 = _
  rw [bind_ok he]; rfl
theorem lcF_f {C : Ctx} {e c : Ex} {tg : Tg} {vs : List Nat} {env env' : Env} {d : D} {st st1 : Store} (h : tgSet tg d (wipeE env vs) = some env') (hc : Ev C env' c st (.bl false) st1) : lcF C e tg true c vs env d st = some (.ok none st1) := by
  show M.bind (M.of _) _ st = _
  rw [h]; show M.bind (M.bind (evE C c env') asB) _ st = _
  have : M.bind (evE C c env') asB st = some (.ok false st1) := by rw [bind_ok hc]; rfl
  rw [bind_ok this]; rfl
theorem ints_of {p : List Nat} : intsOf (p.map fun (i : Nat) => D.int (i : Int)) = some (p.map fun (i : Nat) => (i : Int)) := by
  induction p with
  | nil => rfl
  | cons i p ih => show (intsOf _).map _ = _; rw [ih]; rfl
theorem noEr_some {n : Nat} {m : M Fl} {st st' : Store} {env : Env} (h : m st = some (.ok (.nx env) st')) : noEr (some n) m st = some (.ok (.nx env) st') := by
  unfold noEr; rw [h]
/-! ints -/
theorem mulI {i j : Int} {st : Store} (h1 : i.natAbs < 2 ^ 64) (h2 : j.natAbs < 2 ^ 64) : binD .Mult (.int i) (.int j) st = some (.int (i * j)) := by
  have l1 : i.natAbs.log2 < 64 ∨ i.natAbs = 0 := by
    by_cases z : i.natAbs = 0
    · exact .inr z
    · exact .inl ((Nat.log2_lt z).mpr h1)
  have l2 : j.natAbs.log2 < 64 ∨ j.natAbs = 0 := by
    by_cases z : j.natAbs = 0
    · exact .inr z
    · exact .inl ((Nat.log2_lt z).mpr h2)
  have b1 : i.natAbs.log2 < 64 := l1.elim (fun z => z) fun z => by rw [z]; decide
  have b2 : j.natAbs.log2 < 64 := l2.elim (fun z => z) fun z => by rw [z]; decide
  show (if Nat.blt (i.natAbs.log2 + j.natAbs.log2) 1000000 = true then some (D.int (i * j)) else none) = _
  rw [if_pos (Nat.blt_eq.mpr (by omega))]
theorem modI {i j : Int} {st : Store} (h : 0 < j) : binD .Mod (.int i) (.int j) st = some (.int (i % j)) := by
  show (if decide (0 < j) = true then some (D.int (i % j)) else none) = _
  rw [if_pos (decide_eq_true h)]
theorem fdivI {i j : Int} {st : Store} (h : 0 < j) (h2 : j.natAbs < 2 ^ 64) : binD .FloorDiv (.int i) (.int j) st = some (.int (i / j)) := by
  have b2 : j.natAbs.log2 < 64 := by
    by_cases z : j.natAbs = 0
    · rw [z]; decide
    · exact (Nat.log2_lt z).mpr h2
  show (if (decide (0 < j) && Nat.blt j.natAbs.log2 9000) = true then some (D.int (i / j)) else none) = _
  rw [if_pos (by rw [Bool.and_eq_true]; exact ⟨decide_eq_true h, Nat.blt_eq.mpr (by omega)⟩)]
theorem intsL : ∀ {l : List Int}, intsOf (l.map D.int) = some l
  | [] => rfl
  | i :: l => by show (intsOf (l.map D.int)).map _ = _; rw [intsL]; rfl
theorem callD_mi {C : Ctx} {f : Str} {m : Nat} {i : Int} {xs xs' : List D} {d : D} {st : Store} (hm : st[m]? = some (.lst false xs)) (hx : D.pures xs = true) (h : C.call f [.loc 0, .int i] [.lst false xs] = some (.ok d [.lst false xs'])) (hd : d.pure = true) (hx' : D.pures xs' = true) : callD C false f [.loc m, .int i] st = some (.ok d (st.set m (.lst false xs'))) := by
  unfold callD
  have h1 : ([D.loc m, .int i].all argOk && decide (locs [D.loc m, .int i]).Nodup) = true := by
    rw [Bool.and_eq_true]
    exact ⟨rfl, decide_eq_true (by simp [locs])⟩
  rw [if_pos h1]
  have h2 : obsAt st (locs [D.loc m, .int i]) = some [.lst false xs] := by
    show (st[m]?).bind _ = _
    rw [hm]; rfl
  rw [h2]
  show (if (([Ob.lst false xs] : List Ob).all Ob.pure) = true then _ else none) = _
  have h3 : ([Ob.lst false xs] : List Ob).all Ob.pure = true := by
    show ((Ob.lst false xs).pure && true) = true
    rw [Bool.and_true]; exact hx
  rw [if_pos h3]
  have e : renum 0 [D.loc m, .int i] = [.loc 0, .int i] := rfl
  rw [e, h]
  have hb : backD false (locs [D.loc m, .int i]) d [.lst false xs'] st = some (d, st.set m (.lst false xs')) := by
    unfold backD
    have hf : frzs [.lst false xs'] (locs [D.loc m, .int i]).length (([.lst false xs'] : Store).take (locs [D.loc m, .int i]).length) = some [.lst false xs'] := by
      show (Ob.frz _ _ _).bind _ = _
      have := Ob.frz_pure (st := [.lst false xs']) (o := .lst false xs') (n0 := 1) hx'
      show (Ob.frz [.lst false xs'] 1 (.lst false xs')).bind _ = _
      rw [this]; rfl
    rw [hf]
    cases d with
    | loc n => cases hd
    | _ => exact congrArg (Option.map fun e => (e, st.set m (.lst false xs'))) (D.sub_pure (ρ := deepAt [.lst false xs'] 1 1) _ hd)
  simp only [hb]
theorem callD_m1 {C : Ctx} {f : Str} {m : Nat} {xs xs' ys : List D} {st : Store} (hm : st[m]? = some (.lst false xs)) (hx : D.pures xs = true) (h : C.call f [.loc 0] [.lst false xs] = some (.ok (.loc 1) [.lst false xs', .lst false ys])) (hy : D.pures ys = true) (hx' : D.pures xs' = true) : callD C false f [.loc m] st = some (.ok (.lst ys) (st.set m (.lst false xs'))) := by
  unfold callD
  have h1 : ([D.loc m].all argOk && decide (locs [D.loc m]).Nodup) = true := by
    rw [Bool.and_eq_true]
    exact ⟨rfl, decide_eq_true (by simp [locs])⟩
  rw [if_pos h1]
  have h2 : obsAt st (locs [D.loc m]) = some [.lst false xs] := by
    show (st[m]?).bind _ = _
    rw [hm]; rfl
  rw [h2]
  show (if (([Ob.lst false xs] : List Ob).all Ob.pure) = true then _ else none) = _
  have h3 : ([Ob.lst false xs] : List Ob).all Ob.pure = true := by
    show ((Ob.lst false xs).pure && true) = true
    rw [Bool.and_true]; exact hx
  rw [if_pos h3]
  have e : renum 0 [D.loc m] = [.loc 0] := rfl
  rw [e, h]
  have hb : backD false (locs [D.loc m]) (.loc 1) [.lst false xs', .lst false ys] st = some (.lst ys, st.set m (.lst false xs')) := by
    unfold backD
    have hf : frzs [.lst false xs', .lst false ys] (locs [D.loc m]).length (([.lst false xs', .lst false ys] : Store).take (locs [D.loc m]).length) = some [.lst false xs'] := by
      have := Ob.frz_pure (st := [.lst false xs', .lst false ys]) (o := .lst false xs') (n0 := 1) hx'
      show (Ob.frz [.lst false xs', .lst false ys] 1 (.lst false xs')).bind _ = _
      rw [this]; rfl
    rw [hf]
    have hd : deepAt [.lst false xs', .lst false ys] 1 2 1 = some (.lst ys) := by
      show (D.subs (deepAt [.lst false xs', .lst false ys] 1 1) ys).map D.lst = _
      rw [D.subs_pure _ hy]; rfl
    exact congrArg (Option.map fun e => (e, st.set m (.lst false xs'))) hd
  simp only [hb]
/-- a walk that leaves all but the last name -/
theorem loop_inv {f : D → Env → M Fl} {g : Option D → Env} {st : Store} : ∀ {L : List D} {y : Option D}, (∀ x ∈ L, ∀ y, f x (g y) st = some (.ok (.nx (g (some x))) st)) → ∃ y', loopM f L (g y) st = some (.ok (.nx (g y')) st)
  | [], y, _ => ⟨y, rfl⟩
  | x :: L, y, h => by
    obtain ⟨y', e⟩ := loop_inv (L := L) (y := some x) fun z hz => h z (List.mem_cons_of_mem _ hz)
    exact ⟨y', by rw [loop_cons (h x List.mem_cons_self y)]; exact e⟩
theorem mem_cut {xs : List D} {lo hi : Option Int} {x : D} (h : x ∈ cutD xs lo hi) : x ∈ xs := List.mem_of_mem_drop (List.mem_of_mem_take h)
theorem ne_same {st : Store} {d e : D} {dep sh : Nat} (h : Pd dep sh d) (hd : dep ≤ most) (h1 : rsv st e = d) (h2 : rsv st d = d) : cmpD .NotEq e d st = some false ∧ cmpD .NotEq d e st = some false := by
  obtain ⟨a, b⟩ := eq_same h hd h1 h2
  exact ⟨by show (eqD st e d).map _ = _; rw [a]; rfl, by show (eqD st d e).map _ = _; rw [b]; rfl⟩
theorem ne_str {st : Store} {x : Str} (hx : okS x) : cmpD .NotEq (.str x) (.str x) st = some false := by
  show (eqD st (.str x) (.str x)).map _ = _
  rw [eq_str hx hx]; simp
end Wk

section
set_option maxHeartbeats 0
namespace Hd
open PySem PySem.Spec PyProof.Rows L2 Wk
def tp (i : Nat) : Stmt := PySem.Challenge.pw_waykinds_k02_places_of_documents.main.body.getD i (.Pass ⟨0, 0, 0, 0⟩)
def dd (x : Str) (i : Nat) : He.DefD := ⟨(x, none), x, x, defArgs (tp i), defBody (tp i), defScope (tp i), [], []⟩
def v_is_whole : Fn := ⟨1, 1, (.cons (.ret (.and (.isi (.var 0) "int") (.and (.not (.isi (.var 0) "bool")) (.cmp .GtE (.var 0) (.cst (.int 0)))))) .nil)⟩
def t_is_whole : TD where
  d := dd "is_whole" 6
  N := ["thing"]
  ps := ["thing"]
  F := v_is_whole
  at_ := rfl
  dfl := rfl
  kwd := rfl
  bnd := fun kV doc pm an cdv ct us h => by
    obtain ⟨u0, rfl⟩ := Wk.len1 h
    kernel_rfl
def v_is_name : Fn := ⟨2, 1, (.cons (.ret (.and (.isi (.var 0) "str") (.and (.cmp2 .LtE .LtE (.cst (.int 1)) (.blt "len" (.cons false (.var 0) .nil)) (.cst (.int 12))) (.blt "all" (.cons false (.lc false (.cmp .In (.var 1) (.gst "LETTERS")) (.nm 1) .val (.cons false (.var 0) .nil) false (.cst .non) [("sign", 1)]) .nil))))) .nil)⟩
def t_is_name : TD where
  d := dd "is_name" 7
  N := ["thing", "sign"]
  ps := ["thing"]
  F := v_is_name
  at_ := rfl
  dfl := rfl
  kwd := rfl
  bnd := fun kV doc pm an cdv ct us h => by
    obtain ⟨u0, rfl⟩ := Wk.len1 h
    kernel_rfl
def v_is_document : Fn := ⟨2, 1, (.cons (.iff (.or (.not (.isi (.var 0) "tuple")) (.or (.cmp .NotEq (.blt "len" (.cons false (.var 0) .nil)) (.cst (.int 2))) (.or (.not (.call false "is_name" (.cons false (.ix (.var 0) (.cst (.int 0))) .nil))) (.not (.isi (.ix (.var 0) (.cst (.int 1))) "tuple"))))) (.cons (.ret (.cst (.bl false))) .nil) .nil) (.cons (.ret (.blt "all" (.cons false (.lc false (.call false "is_document" (.cons false (.var 1) .nil)) (.nm 1) .val (.cons false (.ix (.var 0) (.cst (.int 1))) .nil) false (.cst .non) [("part", 1)]) .nil))) .nil))⟩
def t_is_document : TD where
  d := dd "is_document" 8
  N := ["thing", "part"]
  ps := ["thing"]
  F := v_is_document
  at_ := rfl
  dfl := rfl
  kwd := rfl
  bnd := fun kV doc pm an cdv ct us h => by
    obtain ⟨u0, rfl⟩ := Wk.len1 h
    kernel_rfl
def v_look_at_document : Fn := ⟨1, 1, (.cons (.iff (.not (.call false "is_document" (.cons false (.var 0) .nil))) (.cons (.raise "NoDocument" "not a document") .nil) .nil) .nil)⟩
def t_look_at_document : TD where
  d := dd "look_at_document" 9
  N := ["document"]
  ps := ["document"]
  F := v_look_at_document
  at_ := rfl
  dfl := rfl
  kwd := rfl
  bnd := fun kV doc pm an cdv ct us h => by
    obtain ⟨u0, rfl⟩ := Wk.len1 h
    kernel_rfl
def v_is_place : Fn := ⟨3, 2, (.cons (.iff (.not (.isi (.var 1) "tuple")) (.cons (.ret (.cst (.bl false))) .nil) .nil) (.cons (.loop (.nm 2) .val (.cons false (.var 1) .nil) (.cons (.iff (.or (.not (.call false "is_whole" (.cons false (.var 2) .nil))) (.cmp .GtE (.var 2) (.blt "len" (.cons false (.ix (.var 0) (.cst (.int 1))) .nil)))) (.cons (.ret (.cst (.bl false))) .nil) .nil) (.cons (.set 0 (.ix (.ix (.var 0) (.cst (.int 1))) (.var 2))) .nil))) (.cons (.ret (.cst (.bl true))) .nil)))⟩
def t_is_place : TD where
  d := dd "is_place" 10
  N := ["document", "thing", "number"]
  ps := ["document", "thing"]
  F := v_is_place
  at_ := rfl
  dfl := rfl
  kwd := rfl
  bnd := fun kV doc pm an cdv ct us h => by
    obtain ⟨u0, u1, rfl⟩ := Wk.len2 h
    kernel_rfl
def v_look_at_place : Fn := ⟨2, 2, (.cons (.iff (.not (.call false "is_place" (.cons false (.var 0) (.cons false (.var 1) .nil)))) (.cons (.raise "NoPlace" "not a place of the document") .nil) .nil) .nil)⟩
def t_look_at_place : TD where
  d := dd "look_at_place" 11
  N := ["document", "place"]
  ps := ["document", "place"]
  F := v_look_at_place
  at_ := rfl
  dfl := rfl
  kwd := rfl
  bnd := fun kV doc pm an cdv ct us h => by
    obtain ⟨u0, u1, rfl⟩ := Wk.len2 h
    kernel_rfl
def v_found_at : Fn := ⟨3, 2, (.cons (.loop (.nm 2) .val (.cons false (.var 1) .nil) (.cons (.set 0 (.ix (.ix (.var 0) (.cst (.int 1))) (.var 2))) .nil)) (.cons (.ret (.var 0)) .nil))⟩
def t_found_at : TD where
  d := dd "found_at" 12
  N := ["document", "place", "number"]
  ps := ["document", "place"]
  F := v_found_at
  at_ := rfl
  dfl := rfl
  kwd := rfl
  bnd := fun kV doc pm an cdv ct us h => by
    obtain ⟨u0, u1, rfl⟩ := Wk.len2 h
    kernel_rfl
def v_at : Fn := ⟨2, 2, (.cons (.ex (.call false "look_at_document" (.cons false (.var 0) .nil))) (.cons (.ex (.call false "look_at_place" (.cons false (.var 0) (.cons false (.var 1) .nil)))) (.cons (.ret (.call false "found_at" (.cons false (.var 0) (.cons false (.var 1) .nil)))) .nil)))⟩
def t_at : TD where
  d := dd "at" 13
  N := ["document", "place"]
  ps := ["document", "place"]
  F := v_at
  at_ := rfl
  dfl := rfl
  kwd := rfl
  bnd := fun kV doc pm an cdv ct us h => by
    obtain ⟨u0, u1, rfl⟩ := Wk.len2 h
    kernel_rfl
def v_way_of : Fn := ⟨4, 2, (.cons (.set 2 (.lst true (.cons false (.ix (.var 0) (.cst (.int 0))) .nil))) (.cons (.loop (.nm 3) .val (.cons false (.var 1) .nil) (.cons (.set 0 (.ix (.ix (.var 0) (.cst (.int 1))) (.var 3))) (.cons (.ex (.met "append" (.var 2) (.cons false (.ix (.var 0) (.cst (.int 0))) .nil))) .nil))) (.cons (.ret (.blt "tuple" (.cons false (.var 2) .nil))) .nil)))⟩
def t_way_of : TD where
  d := dd "way_of" 14
  N := ["document", "place", "found", "number"]
  ps := ["document", "place"]
  F := v_way_of
  at_ := rfl
  dfl := rfl
  kwd := rfl
  bnd := fun kV doc pm an cdv ct us h => by
    obtain ⟨u0, u1, rfl⟩ := Wk.len2 h
    kernel_rfl
def v_way : Fn := ⟨2, 2, (.cons (.ex (.call false "look_at_document" (.cons false (.var 0) .nil))) (.cons (.ex (.call false "look_at_place" (.cons false (.var 0) (.cons false (.var 1) .nil)))) (.cons (.ret (.call false "way_of" (.cons false (.var 0) (.cons false (.var 1) .nil)))) .nil)))⟩
def t_way : TD where
  d := dd "way" 15
  N := ["document", "place"]
  ps := ["document", "place"]
  F := v_way
  at_ := rfl
  dfl := rfl
  kwd := rfl
  bnd := fun kV doc pm an cdv ct us h => by
    obtain ⟨u0, u1, rfl⟩ := Wk.len2 h
    kernel_rfl
def v_places_of : Fn := ⟨5, 1, (.cons (.set 1 (.lst true (.cons false (.tup .nil) .nil))) (.cons (.loop (.tp (.cons (.nm 2) (.cons (.nm 3) .nil))) .enum (.cons false (.ix (.var 0) (.cst (.int 1))) .nil) (.cons (.aug .Add 1 (.lc false (.tup (.cons false (.var 2) (.cons true (.var 4) .nil))) (.nm 4) .val (.cons false (.call false "places_of" (.cons false (.var 3) .nil)) .nil) false (.cst .non) [("place", 4)])) .nil)) (.cons (.ret (.var 1)) .nil)))⟩
def t_places_of : TD where
  d := dd "places_of" 16
  N := ["document", "found", "number", "part", "place"]
  ps := ["document"]
  F := v_places_of
  at_ := rfl
  dfl := rfl
  kwd := rfl
  bnd := fun kV doc pm an cdv ct us h => by
    obtain ⟨u0, rfl⟩ := Wk.len1 h
    kernel_rfl
def v_places : Fn := ⟨1, 1, (.cons (.ex (.call false "look_at_document" (.cons false (.var 0) .nil))) (.cons (.ret (.call true "places_of" (.cons false (.var 0) .nil))) .nil))⟩
def t_places : TD where
  d := dd "places" 17
  N := ["document"]
  ps := ["document"]
  F := v_places
  at_ := rfl
  dfl := rfl
  kwd := rfl
  bnd := fun kV doc pm an cdv ct us h => by
    obtain ⟨u0, rfl⟩ := Wk.len1 h
    kernel_rfl
def v_with_put : Fn := ⟨6, 3, (.cons (.iff (.cmp .Eq (.var 1) (.tup .nil)) (.cons (.ret (.var 2)) .nil) .nil) (.cons (.unp (.tp (.cons (.nm 4) (.cons (.nm 5) .nil))) (.var 0)) (.cons (.set 3 (.call false "with_put" (.cons false (.ix (.var 5) (.ix (.var 1) (.cst (.int 0)))) (.cons false (.sl (.var 1) (.cst (.int 1)) (.cst .non)) (.cons false (.var 2) .nil))))) (.cons (.ret (.tup (.cons false (.var 4) (.cons false (.tup (.cons true (.sl (.var 5) (.cst .non) (.ix (.var 1) (.cst (.int 0)))) (.cons false (.var 3) (.cons true (.sl (.var 5) (.bin .Add (.ix (.var 1) (.cst (.int 0))) (.cst (.int 1))) (.cst .non)) .nil)))) .nil)))) .nil))))⟩
def t_with_put : TD where
  d := dd "with_put" 18
  N := ["document", "place", "other", "part", "name", "parts"]
  ps := ["document", "place", "other"]
  F := v_with_put
  at_ := rfl
  dfl := rfl
  kwd := rfl
  bnd := fun kV doc pm an cdv ct us h => by
    obtain ⟨u0, u1, u2, rfl⟩ := Wk.len3 h
    kernel_rfl
def v_put : Fn := ⟨3, 3, (.cons (.ex (.call false "look_at_document" (.cons false (.var 0) .nil))) (.cons (.ex (.call false "look_at_place" (.cons false (.var 0) (.cons false (.var 1) .nil)))) (.cons (.ex (.call false "look_at_document" (.cons false (.var 2) .nil))) (.cons (.ret (.call false "with_put" (.cons false (.var 0) (.cons false (.var 1) (.cons false (.var 2) .nil))))) .nil))))⟩
def t_put : TD where
  d := dd "put" 19
  N := ["document", "place", "other"]
  ps := ["document", "place", "other"]
  F := v_put
  at_ := rfl
  dfl := rfl
  kwd := rfl
  bnd := fun kV doc pm an cdv ct us h => by
    obtain ⟨u0, u1, u2, rfl⟩ := Wk.len3 h
    kernel_rfl
def v__law_mixed : Fn := ⟨3, 2, (.cons (.set 2 (.bin .Mod (.blt "int" (.cons false (.bin .Add (.bin .Add (.bin .Mult (.bin .Mod (.blt "int" (.cons false (.var 0) .nil)) (.cst (.int 2147483647))) (.cst (.int 48271))) (.bin .Mult (.var 1) (.cst (.int 69621)))) (.cst (.int 1048583))) .nil)) (.cst (.int 2147483629)))) (.cons (.set 2 (.bin .Mod (.blt "int" (.cons false (.bin .Mult (.var 2) (.var 2)) .nil)) (.cst (.int 2147483587)))) (.cons (.ret (.bin .Mod (.blt "int" (.cons false (.bin .Mult (.var 2) (.bin .Add (.var 2) (.cst (.int 2)))) .nil)) (.cst (.int 2147483579)))) .nil)))⟩
def t__law_mixed : TD where
  d := dd "_law_mixed" 21
  N := ["_law_cell", "_law_k", "_law_number"]
  ps := ["_law_cell", "_law_k"]
  F := v__law_mixed
  at_ := rfl
  dfl := rfl
  kwd := rfl
  bnd := fun kV doc pm an cdv ct us h => by
    obtain ⟨u0, u1, rfl⟩ := Wk.len2 h
    kernel_rfl
def v__law_pile : Fn := ⟨3, 2, (.cons (.set 2 (.bin .Mod (.blt "sum" (.cons false (.sl (.var 0) (.cst .non) (.cst (.int 1))) .nil)) (.cst (.int 1000003)))) (.cons (.iff (.cmp .Lt (.var 1) (.blt "len" (.cons false (.var 0) .nil))) (.cons (.set 2 (.ix (.var 0) (.var 1))) .nil) .nil) (.cons (.ret (.lst true (.cons false (.bin .Mod (.blt "int" (.cons false (.blt "max" (.cons false (.bin .Sub (.var 2) (.bin .Pow (.cst (.int 10)) (.cst (.int 18)))) (.cons false (.cst (.int 0)) .nil))) .nil)) (.bin .Mult (.bin .Mult (.bin .Mult (.bin .Pow (.cst (.int 10)) (.cst (.int 60))) (.bin .Pow (.cst (.int 10)) (.cst (.int 60)))) (.bin .Pow (.cst (.int 10)) (.cst (.int 60)))) (.bin .Pow (.cst (.int 10)) (.cst (.int 60))))) (.cons false (.var 2) (.cons false (.bin .Mult (.cst (.int 1000)) (.var 1)) .nil))))) .nil)))⟩
def t__law_pile : TD where
  d := dd "_law_pile" 22
  N := ["_law_script", "_law_k", "_law_cell"]
  ps := ["_law_script", "_law_k"]
  F := v__law_pile
  at_ := rfl
  dfl := rfl
  kwd := rfl
  bnd := fun kV doc pm an cdv ct us h => by
    obtain ⟨u0, u1, rfl⟩ := Wk.len2 h
    kernel_rfl
def v__law_take : Fn := ⟨4, 2, (.cons (.iff (.cmp .Gt (.ix (.var 0) (.cst (.int 0))) (.cst (.int 0))) (.cons (.set 2 (.bin .Mod (.blt "int" (.cons false (.ix (.var 0) (.cst (.int 0))) .nil)) (.var 1))) (.cons (.six (.var 0) (.cst (.int 0)) (.bin .FloorDiv (.ix (.var 0) (.cst (.int 0))) (.var 1))) (.cons (.ret (.var 2)) .nil))) .nil) (.cons (.set 2 (.cst (.int 0))) (.cons (.loop (.nm 3) .range1 (.cons false (.bin .Add (.cst (.int 1)) (.bin .FloorDiv (.met "bit_length" (.var 1) .nil) (.cst (.int 28)))) .nil) (.cons (.six (.var 0) (.cst (.int 2)) (.bin .Add (.ix (.var 0) (.cst (.int 2))) (.cst (.int 1)))) (.cons (.set 2 (.bin .Add (.bin .Mult (.var 2) (.cst (.int 2147483579))) (.call false "_law_mixed" (.cons false (.ix (.var 0) (.cst (.int 1))) (.cons false (.ix (.var 0) (.cst (.int 2))) .nil))))) .nil))) (.cons (.ret (.bin .Mod (.blt "int" (.cons false (.var 2) .nil)) (.var 1))) .nil))))⟩
def t__law_take : TD where
  d := dd "_law_take" 23
  N := ["_law_pile_here", "_law_size", "_law_digit", "_law_j"]
  ps := ["_law_pile_here", "_law_size"]
  F := v__law_take
  at_ := rfl
  dfl := rfl
  kwd := rfl
  bnd := fun kV doc pm an cdv ct us h => by
    obtain ⟨u0, u1, rfl⟩ := Wk.len2 h
    kernel_rfl
def v__law_ascending : Fn := ⟨4, 1, (.cons (.set 1 (.lst true .nil)) (.cons (.loop (.nm 2) .val (.cons false (.var 0) .nil) (.cons (.ex (.met "insert" (.var 1) (.cons false (.blt "len" (.cons false (.lc false (.var 3) (.nm 3) .val (.cons false (.var 1) .nil) true (.cmp .Lt (.var 3) (.var 2)) [("_law_other", 3)]) .nil)) (.cons false (.var 2) .nil)))) .nil)) (.cons (.ret (.var 1)) .nil)))⟩
def t__law_ascending : TD where
  d := dd "_law_ascending" 24
  N := ["_law_some", "_law_found", "_law_one", "_law_other"]
  ps := ["_law_some"]
  F := v__law_ascending
  at_ := rfl
  dfl := rfl
  kwd := rfl
  bnd := fun kV doc pm an cdv ct us h => by
    obtain ⟨u0, rfl⟩ := Wk.len1 h
    kernel_rfl
def v__law_places : Fn := ⟨4, 1, (.cons (.set 1 (.lst false (.cons false (.tup .nil) .nil))) (.cons (.loop (.nm 2) .range1 (.cons false (.blt "len" (.cons false (.ix (.var 0) (.cst (.int 1))) .nil)) .nil) (.cons (.set 1 (.bin .Add (.var 1) (.lc false (.bin .Add (.tup (.cons false (.var 2) .nil)) (.var 3)) (.nm 3) .val (.cons false (.call false "_law_places" (.cons false (.ix (.ix (.var 0) (.cst (.int 1))) (.var 2)) .nil)) .nil) false (.cst .non) [("_law_place", 3)]))) .nil)) (.cons (.ret (.var 1)) .nil)))⟩
def t__law_places : TD where
  d := dd "_law_places" 25
  N := ["_law_document", "_law_found", "_law_i", "_law_place"]
  ps := ["_law_document"]
  F := v__law_places
  at_ := rfl
  dfl := rfl
  kwd := rfl
  bnd := fun kV doc pm an cdv ct us h => by
    obtain ⟨u0, rfl⟩ := Wk.len1 h
    kernel_rfl
def v__law_at : Fn := ⟨3, 2, (.cons (.loop (.nm 2) .val (.cons false (.var 1) .nil) (.cons (.set 0 (.ix (.ix (.var 0) (.cst (.int 1))) (.var 2))) .nil)) (.cons (.ret (.var 0)) .nil))⟩
def t__law_at : TD where
  d := dd "_law_at" 26
  N := ["_law_document", "_law_place", "_law_number"]
  ps := ["_law_document", "_law_place"]
  F := v__law_at
  at_ := rfl
  dfl := rfl
  kwd := rfl
  bnd := fun kV doc pm an cdv ct us h => by
    obtain ⟨u0, u1, rfl⟩ := Wk.len2 h
    kernel_rfl
def v__law_way : Fn := ⟨3, 2, (.cons (.ret (.blt "tuple" (.cons false (.lc false (.ix (.call false "_law_at" (.cons false (.var 0) (.cons false (.sl (.var 1) (.cst .non) (.var 2)) .nil))) (.cst (.int 0))) (.nm 2) .range1 (.cons false (.bin .Add (.blt "len" (.cons false (.var 1) .nil)) (.cst (.int 1))) .nil) false (.cst .non) [("_law_k", 2)]) .nil))) .nil)⟩
def t__law_way : TD where
  d := dd "_law_way" 27
  N := ["_law_document", "_law_place", "_law_k"]
  ps := ["_law_document", "_law_place"]
  F := v__law_way
  at_ := rfl
  dfl := rfl
  kwd := rfl
  bnd := fun kV doc pm an cdv ct us h => by
    obtain ⟨u0, u1, rfl⟩ := Wk.len2 h
    kernel_rfl
def v__law_put : Fn := ⟨4, 3, (.cons (.iff (.cmp .Eq (.var 1) (.tup .nil)) (.cons (.ret (.var 2)) .nil) .nil) (.cons (.set 3 (.lsa (.cons false (.ix (.var 0) (.cst (.int 1))) .nil))) (.cons (.six (.var 3) (.ix (.var 1) (.cst (.int 0))) (.call false "_law_put" (.cons false (.ix (.var 3) (.ix (.var 1) (.cst (.int 0)))) (.cons false (.sl (.var 1) (.cst (.int 1)) (.cst .non)) (.cons false (.var 2) .nil))))) (.cons (.ret (.tup (.cons false (.ix (.var 0) (.cst (.int 0))) (.cons false (.blt "tuple" (.cons false (.var 3) .nil)) .nil)))) .nil))))⟩
def t__law_put : TD where
  d := dd "_law_put" 28
  N := ["_law_document", "_law_place", "_law_other", "_law_parts"]
  ps := ["_law_document", "_law_place", "_law_other"]
  F := v__law_put
  at_ := rfl
  dfl := rfl
  kwd := rfl
  bnd := fun kV doc pm an cdv ct us h => by
    obtain ⟨u0, u1, u2, rfl⟩ := Wk.len3 h
    kernel_rfl
def v__law_drawn : Fn := ⟨4, 2, (.cons (.set 2 (.lst false .nil)) (.cons (.iff (.cmp .Gt (.var 1) (.cst (.int 0))) (.cons (.set 2 (.lc false (.call false "_law_drawn" (.cons false (.var 0) (.cons false (.bin .Sub (.var 1) (.cst (.int 1))) .nil))) (.nm 3) .range1 (.cons false (.call false "_law_take" (.cons false (.var 0) (.cons false (.cst (.int 4)) .nil))) .nil) false (.cst .non) [("_law_j", 3)])) .nil) .nil) (.cons (.ret (.tup (.cons false (.ix (.lst false (.cons false (.cst (.str "a")) (.cons false (.cst (.str "b")) (.cons false (.cst (.str "cc")) (.cons false (.cst (.str "a")) .nil))))) (.call false "_law_take" (.cons false (.var 0) (.cons false (.cst (.int 4)) .nil)))) (.cons false (.blt "tuple" (.cons false (.var 2) .nil)) .nil)))) .nil)))⟩
def t__law_drawn : TD where
  d := dd "_law_drawn" 29
  N := ["_law_pile_here", "_law_deep", "_law_parts", "_law_j"]
  ps := ["_law_pile_here", "_law_deep"]
  F := v__law_drawn
  at_ := rfl
  dfl := rfl
  kwd := rfl
  bnd := fun kV doc pm an cdv ct us h => by
    obtain ⟨u0, u1, rfl⟩ := Wk.len2 h
    kernel_rfl
def v__law_good : Fn := ⟨6, 2, (.cons (.set 2 (.blt "repr" (.cons false (.lst false (.cons false (.var 0) (.cons false (.var 1) .nil))) .nil))) (.cons (.set 3 (.call false "_law_places" (.cons false (.var 0) .nil))) (.cons (.set 4 (.call true "places" (.cons false (.var 0) .nil))) (.cons (.iff (.or (.not (.isi (.var 4) "list")) (.or (.cmp .NotEq (.blt "repr" (.cons false (.var 4) .nil)) (.blt "repr" (.cons false (.var 3) .nil))) (.cmp .NotEq (.var 4) (.call false "_law_ascending" (.cons false (.var 4) .nil))))) (.cons (.ret (.cst (.bl false))) .nil) .nil) (.cons (.ex (.met "append" (.var 4) (.cons false (.cst .non) .nil))) (.cons (.iff (.cmp .NotEq (.call false "places" (.cons false (.var 0) .nil)) (.var 3)) (.cons (.ret (.cst (.bl false))) .nil) .nil) (.cons (.loop (.nm 5) .val (.cons false (.bin .Add (.sl (.var 3) (.cst .non) (.cst (.int 24))) (.sl (.var 3) (.neg (.cst (.int 3))) (.cst .non))) .nil) (.cons (.iff (.cmp .NotEq (.call false "at" (.cons false (.var 0) (.cons false (.var 5) .nil))) (.call false "_law_at" (.cons false (.var 0) (.cons false (.var 5) .nil)))) (.cons (.ret (.cst (.bl false))) .nil) .nil) (.cons (.iff (.cmp .NotEq (.blt "repr" (.cons false (.call false "way" (.cons false (.var 0) (.cons false (.var 5) .nil))) .nil)) (.blt "repr" (.cons false (.call false "_law_way" (.cons false (.var 0) (.cons false (.var 5) .nil))) .nil))) (.cons (.ret (.cst (.bl false))) .nil) .nil) (.cons (.iff (.cmp .NotEq (.call false "put" (.cons false (.var 0) (.cons false (.var 5) (.cons false (.var 1) .nil)))) (.call false "_law_put" (.cons false (.var 0) (.cons false (.var 5) (.cons false (.var 1) .nil))))) (.cons (.ret (.cst (.bl false))) .nil) .nil) (.cons (.iff (.cmp .NotEq (.call false "put" (.cons false (.var 0) (.cons false (.var 5) (.cons false (.call false "at" (.cons false (.var 0) (.cons false (.var 5) .nil))) .nil)))) (.var 0)) (.cons (.ret (.cst (.bl false))) .nil) .nil) .nil))))) (.cons (.ret (.cmp .Eq (.blt "repr" (.cons false (.lst false (.cons false (.var 0) (.cons false (.var 1) .nil))) .nil)) (.var 2))) .nil))))))))⟩
def t__law_good : TD where
  d := dd "_law_good" 30
  N := ["_law_document", "_law_other", "_law_kept", "_law_due", "_law_found", "_law_place"]
  ps := ["_law_document", "_law_other"]
  F := v__law_good
  at_ := rfl
  dfl := rfl
  kwd := rfl
  bnd := fun kV doc pm an cdv ct us h => by
    obtain ⟨u0, u1, rfl⟩ := Wk.len2 h
    kernel_rfl
def v_law : Fn := ⟨6, 1, (.cons (.loop (.nm 1) .range1 (.cons false (.blt "max" (.cons false (.cst (.int 2)) (.cons false (.blt "min" (.cons false (.blt "len" (.cons false (.var 0) .nil)) (.cons false (.cst (.int 8)) .nil))) .nil))) .nil) (.cons (.set 5 (.call true "_law_pile" (.cons false (.var 0) (.cons false (.var 1) .nil)))) (.cons (.loop (.nm 4) .range1 (.cons false (.cst (.int 4)) .nil) (.cons (.iff (.not (.call false "_law_good" (.cons false (.call false "_law_drawn" (.cons false (.var 5) (.cons false (.cst (.int 3)) .nil))) (.cons false (.call false "_law_drawn" (.cons false (.var 5) (.cons false (.cst (.int 1)) .nil))) .nil)))) (.cons (.ret (.cst (.bl false))) .nil) .nil) .nil)) .nil))) (.cons (.set 2 (.tup (.cons false (.cst (.str "a")) (.cons false (.tup (.cons false (.tup (.cons false (.cst (.str "b")) (.cons false (.tup (.cons false (.tup (.cons false (.cst (.str "c")) (.cons false (.tup .nil) .nil))) .nil)) .nil))) (.cons false (.tup (.cons false (.cst (.str "b")) (.cons false (.tup .nil) .nil))) .nil))) .nil)))) (.cons (.iff (.or (.cmp .NotEq (.call false "places" (.cons false (.var 2) .nil)) (.lst false (.cons false (.tup .nil) (.cons false (.tup (.cons false (.cst (.int 0)) .nil)) (.cons false (.tup (.cons false (.cst (.int 0)) (.cons false (.cst (.int 0)) .nil))) (.cons false (.tup (.cons false (.cst (.int 1)) .nil)) .nil)))))) (.cmp .NotEq (.call false "way" (.cons false (.var 2) (.cons false (.tup (.cons false (.cst (.int 0)) (.cons false (.cst (.int 0)) .nil))) .nil))) (.tup (.cons false (.cst (.str "a")) (.cons false (.cst (.str "b")) (.cons false (.cst (.str "c")) .nil)))))) (.cons (.ret (.cst (.bl false))) .nil) .nil) (.cons (.set 3 (.tup (.cons false (.cst (.str "a")) (.cons false (.tup .nil) .nil)))) (.cons (.loop (.nm 4) .range1 (.cons false (.cst (.int 36)) .nil) (.cons (.set 3 (.call false "put" (.cons false (.tup (.cons false (.cst (.str "a")) (.cons false (.tup (.cons false (.tup (.cons false (.cst (.str "a")) (.cons false (.tup .nil) .nil))) .nil)) .nil))) (.cons false (.tup (.cons false (.cst (.int 0)) .nil)) (.cons false (.var 3) .nil))))) .nil)) (.cons (.iff (.or (.cmp .NotEq (.call false "at" (.cons false (.var 3) (.cons false (.bin .Mult (.tup (.cons false (.cst (.int 0)) .nil)) (.cst (.int 36))) .nil))) (.tup (.cons false (.cst (.str "a")) (.cons false (.tup .nil) .nil)))) (.or (.cmp .NotEq (.call false "way" (.cons false (.var 3) (.cons false (.bin .Mult (.tup (.cons false (.cst (.int 0)) .nil)) (.cst (.int 36))) .nil))) (.bin .Mult (.tup (.cons false (.cst (.str "a")) .nil)) (.cst (.int 37)))) (.cmp .NotEq (.blt "len" (.cons false (.call false "places" (.cons false (.var 3) .nil)) .nil)) (.cst (.int 37))))) (.cons (.ret (.cst (.bl false))) .nil) .nil) (.cons (.iff (.cmp .NotEq (.blt "len" (.cons false (.call false "places" (.cons false (.call false "put" (.cons false (.var 3) (.cons false (.bin .Mult (.tup (.cons false (.cst (.int 0)) .nil)) (.cst (.int 36))) (.cons false (.var 2) .nil)))) .nil)) .nil)) (.cst (.int 40))) (.cons (.ret (.cst (.bl false))) .nil) .nil) (.cons (.ret (.and (.cmp .Eq (.call false "put" (.cons false (.var 2) (.cons false (.tup (.cons false (.cst (.int 0)) .nil)) (.cons false (.tup (.cons false (.cst (.str "z")) (.cons false (.tup .nil) .nil))) .nil)))) (.tup (.cons false (.cst (.str "a")) (.cons false (.tup (.cons false (.tup (.cons false (.cst (.str "z")) (.cons false (.tup .nil) .nil))) (.cons false (.tup (.cons false (.cst (.str "b")) (.cons false (.tup .nil) .nil))) .nil))) .nil)))) (.cmp .Eq (.call false "at" (.cons false (.var 2) (.cons false (.tup .nil) .nil))) (.var 2)))) .nil))))))))⟩
def t_law : TD where
  d := dd "law" 31
  N := ["_law_script", "_law_k", "_law_two", "_law_deep", "_law_turn", "_law_pile_here"]
  ps := ["_law_script"]
  F := v_law
  at_ := rfl
  dfl := rfl
  kwd := rfl
  bnd := fun kV doc pm an cdv ct us h => by
    obtain ⟨u0, rfl⟩ := Wk.len1 h
    kernel_rfl
def ts : List TD := [t_is_whole, t_is_name, t_is_document, t_look_at_document, t_is_place, t_look_at_place, t_found_at, t_at, t_way_of, t_way, t_places_of, t_places, t_with_put, t_put, t__law_mixed, t__law_pile, t__law_take, t__law_ascending, t__law_places, t__law_at, t__law_way, t__law_put, t__law_drawn, t__law_good, t_law]
def cs : List (Str × D) := [("LETTERS", .str "abcdefghijklmnopqrstuvwxyz")]
def bl : List Str := ["all", "bool", "enumerate", "int", "isinstance", "len", "list", "max", "min", "range", "repr", "str", "sum", "tuple"]
def ex : List Str := ["NoDocument", "NoPlace"]
abbrev fa : List He.Fa := faAll ts cs bl ex
abbrev fn : List He.DefD := ts.map (·.d)
theorem ok : ts.all (TD.ok (prOf ts cs bl ex)) = true := by kernel_rfl
abbrev R : PySem.W.OpenRow := PySem.W.OpenLaw.row PySem.Challenge.rw_waykinds_k02_places_of_documents
abbrev hk : PySem.W.Hook := He.hookD 4 fa fn
def ob (s : PySem.W.SharedT) : He.AlD := He.obsDG 4 fa fn (HandSHeadRun.getT s)
theorem ob_eq (s : PySem.W.SharedT) : ob s = hk.obs s.abs := He.obsDG_eq (HandSHeadRun.getT_eq s)
def nm0 : List PySem.Str := ["WaysError", "NoDocument", "NoPlace", "LETTERS", "is_whole", "is_name", "is_document", "look_at_document", "is_place", "look_at_place", "found_at", "at", "way_of", "way", "places_of", "places", "with_put", "put", "_law_mixed", "_law_pile", "_law_take", "_law_ascending", "_law_places", "_law_at", "_law_way", "_law_put", "_law_drawn", "_law_good"]
def nm : List PySem.Str := nm0
theorem run (w : World) : HandSHeadRun.RunEq R (PySem.W.view R.prog [31]) hk ob 1680 nm w := by
  intro os
  kernel_rfl
end Hd
end
section
open Wk PySem
set_option maxRecDepth 100000
set_option maxHeartbeats 2000000
namespace Hd
local macro_rules
  | `(tactic| trivial) => `(tactic| first
    | exact Ev.cst
    | exact Ev.var rfl
    | exact EvA.nil
    | (apply EvA.cons <;> trivial)
    | (apply Ev.ix <;> trivial)
    | (apply Ev.isi' <;> trivial)
    | (apply Ev.not' <;> trivial)
    | (apply Ev.cmp <;> trivial)
    | (apply Ev.bin <;> trivial)
    | (apply Ev.blt <;> trivial)
    | (apply Ev.call <;> trivial)
    | (apply Ev.orF <;> trivial)
    | (apply Ev.orT <;> trivial)
    | (apply Ev.andT <;> trivial)
    | (apply Ev.andF <;> trivial)
    | (apply Es.ret <;> trivial)
    | (apply Es.ex <;> trivial)
    | (apply Es.set <;> trivial)
    | (apply Ess.nx <;> trivial)
    | (apply Ess.rt <;> trivial)
    | exact Ess.nil
    | (apply Es.iffF <;> trivial)
    | (apply Es.iffT <;> trivial)
    | assumption
    | rfl
    | (simp [cmpD]; done))
def Cn (n : Nat) : Wk.Ctx := ⟨callN (fnsOf Hd.ts) (globsOf Hd.cs) n, globsOf Hd.cs⟩
def NmOk (x : Str) : Prop := x = "a" ∨ x = "b" ∨ x = "cc" ∨ x = "c" ∨ x = "z"
theorem is_name_c {n : Nat} {x : Str} (h : NmOk x) : (Cn (n + 1)).call "is_name" [.str x] [] = some (.ok (.bl true) []) := by
  rcases h with rfl | rfl | rfl | rfl | rfl <;> kernel_rfl
def IsDoc : Nat → D → Prop
  | 0, _ => False
  | h + 1, d => ∃ x ps, d = .tup [.str x, .tup ps] ∧ NmOk x ∧ ps.length ≤ 3 ∧ ∀ p ∈ ps, IsDoc h p
theorem doc_pure : ∀ {h : Nat} {d : D}, IsDoc h d → d.pure = true
  | 0, _, q => q.elim
  | h + 1, d, ⟨x, ps, e, _, _, q⟩ => by
    subst e
    show (true && (D.pures ps && true)) = true
    rw [pures_of fun p hp => doc_pure (q p hp)]; rfl
theorem call_s {n : Nat} {f : Str} {F : Fn} {vs : List D} {st : Store} (h : fnsOf Hd.ts f = some F) : (Cn (n + 1)).call f vs st = runF (Cn n) F vs st := by
  show callN _ _ (n + 1) f vs st = _
  unfold callN; rw [h]; rfl
theorem is_document_c : ∀ {h : Nat} {d : D}, IsDoc h d → ∀ n, (Cn (n + h + 1)).call "is_document" [d] [] = some (.ok (.bl true) [])
  | 0, _, q, _ => q.elim
  | h + 1, d, ⟨x, ps, e, hx, hl, q⟩, n => by
    subst e
    rw [call_s (F := Hd.v_is_document) (by kernel_rfl)]
    have k1 : callD (Cn (n + (h + 1))) false "is_name" [.str x] [] = some (Out.ok (.bl true) []) := callD_p (is_name_c (n := n + h) hx) rfl rfl
    have k2 : eachM (lcF (Cn (n + (h + 1))) (.call false "is_document" (.cons false (.var 1) .nil)) (.nm 1) false (.cst .non) [1] [some (.tup [.str x, .tup ps]), none]) ps [] = some (.ok (ps.map fun _ => .bl true) []) :=
      each_ok (g := fun _ => .bl true) fun p hp => lcF_ok (env' := [some (.tup [.str x, .tup ps]), some p]) rfl (Ev.call (EvA.cons (Ev.var rfl) EvA.nil) (callD_p (is_document_c (q p hp) n) (by show (p.pure && true) = true; rw [doc_pure (q p hp)]; rfl) rfl))
    have k3 : Ev (Cn (n + (h + 1))) [some (.tup [.str x, .tup ps]), none] (.lc false (.call false "is_document" (.cons false (.var 1) .nil)) (.nm 1) .val (.cons false (.ix (.var 0) (.cst (.int 1))) .nil) false (.cst .non) [("part", 1)]) [] (.lst (ps.map fun _ => .bl true)) [] :=
      Ev.lc (EvA.cons (Ev.ix (Ev.var rfl) Ev.cst rfl) EvA.nil) rfl (fit_small (by show ps.length ≤ _; omega)) k2 (fit_small (by simp; omega))
    have k4 := all_map (ps := ps) (st := [])
    refine run_rt rfl (Ess.nx (env' := [some (.tup [.str x, .tup ps]), none]) (Es.iffF ?_ Ess.nil) (Ess.rt (Es.ret (Ev.blt (EvA.cons k3 EvA.nil) k4))))
    trivial
/-! places -/
def pl (p : List Nat) : D := .tup (p.map fun (i : Nat) => .int (i : Int))
theorem pl_pure {p : List Nat} : (pl p).pure = true := pures_of (by simp [D.pure])
def parts : D → List D
  | .tup [_, .tup ps] => ps
  | _ => []
def subD : D → List Nat → Option D
  | d, [] => some d
  | d, i :: p => ((parts d)[i]?).bind fun e => subD e p
theorem doc_cut {h : Nat} {d : D} (q : IsDoc h d) : ∃ x ps, d = .tup [.str x, .tup ps] ∧ NmOk x ∧ ps.length ≤ 3 ∧ ∃ k, h = k + 1 ∧ ∀ p ∈ ps, IsDoc k p := by
  cases h with
  | zero => exact q.elim
  | succ k => obtain ⟨x, ps, e, a, b, c⟩ := q; exact ⟨x, ps, e, a, b, k, rfl, c⟩
theorem is_whole_c {n : Nat} {i : Nat} : (Cn (n + 1)).call "is_whole" [.int (i : Nat)] [] = some (.ok (.bl true) []) := by
  have : (Cn (n + 1)).call "is_whole" [.int (i : Nat)] [] = some (.ok (.bl (decide ((0 : Int) ≤ (i : Nat)))) []) := by kernel_rfl
  rw [this]; simp
theorem look_at_document_c {h : Nat} {d : D} (q : IsDoc h d) (n : Nat) : (Cn (n + h + 2)).call "look_at_document" [d] [] = some (.ok .non []) := by
  rw [call_s (F := Hd.v_look_at_document) (by kernel_rfl)]
  have k1 : callD (Cn (n + h + 1)) false "is_document" [d] [] = some (Out.ok (.bl true) []) := callD_p (is_document_c q n) (by show (d.pure && true) = true; rw [doc_pure q]; rfl) rfl
  refine run_nx (env' := [some d]) rfl (Ess.nx (env' := [some d]) (Es.iffF ?_ Ess.nil) Ess.nil)
  trivial
theorem is_place_l {n : Nat} {t : D} : ∀ (p : List Nat) {h : Nat} {d e : D} {x : Option D}, IsDoc h d → subD d p = some e → ∃ y, loopM (loopF (Cn (n + 1)) (.nm 2) (v_is_place.body.at_ 1).body) (p.map fun (i : Nat) => .int (i : Int)) [some d, some t, x] [] = some (.ok (.nx [some e, some t, y]) [])
  | [], h, d, e, x, q, hs => by cases hs; exact ⟨x, rfl⟩
  | i :: p, h, d, e, x, q, hs => by
    obtain ⟨nm, ps, rfl, _, hl, k, rfl, hq⟩ := doc_cut q
    have hs : (ps[i]?).bind (fun e => subD e p) = some e := hs
    cases hi : ps[i]? with
    | none => rw [hi] at hs; cases hs
    | some d' =>
      rw [hi] at hs
      obtain ⟨y, ih⟩ := is_place_l p (x := some (.int (i : Nat))) (hq d' (List.mem_of_getElem? hi)) hs
      refine ⟨y, ?_⟩
      rw [← ih]
      have hlt := (List.getElem?_eq_some_iff.mp hi).1
      have k1 : callD (Cn (n + 1)) false "is_whole" [.int (i : Nat)] [] = some (Out.ok (.bl true) []) := callD_p is_whole_c rfl rfl
      have k2 : cmpD .GtE (.int (i : Nat)) (.int ps.length) [] = some false := by
        show some (decide ((ps.length : Int) ≤ (i : Nat))) = _
        congr 1; simp; omega
      have k3 : ixD [] (.tup ps) (.int (i : Nat)) = some d' := at_nat hi
      refine loop_cons (loopF_ok (env1 := [some (.tup [.str nm, .tup ps]), some t, some (.int (i : Nat))]) rfl ?_ rfl)
      trivial
theorem is_place_c {n h : Nat} {d e : D} {p : List Nat} (q : IsDoc h d) (hs : subD d p = some e) : (Cn (n + 2)).call "is_place" [d, pl p] [] = some (.ok (.bl true) []) := by
  rw [call_s (F := Hd.v_is_place) (by kernel_rfl)]
  obtain ⟨y, hw⟩ := is_place_l (n := n) (t := pl p) (x := none) p q hs
  refine run_rt rfl (Ess.nx (env' := [some d, some (pl p), none]) (Es.iffF ?_ Ess.nil) (Ess.nx (Es.loopN (EvA.cons (Ev.var rfl) EvA.nil) rfl hw) (Ess.rt (Es.ret Ev.cst))))
  trivial
theorem pair_pure {a b : D} (h1 : a.pure = true) (h2 : b.pure = true) : D.pures [a, b] = true := by
  show (a.pure && (b.pure && true)) = true
  rw [h1, h2]; rfl
theorem tri_pure {a b c : D} (h1 : a.pure = true) (h2 : b.pure = true) (h3 : c.pure = true) : D.pures [a, b, c] = true := by
  show (a.pure && (b.pure && (c.pure && true))) = true
  rw [h1, h2, h3]; rfl
theorem one_pure {a : D} (h1 : a.pure = true) : D.pures [a] = true := by
  show (a.pure && true) = true
  rw [h1]; rfl
theorem look_at_place_c {n h : Nat} {d e : D} {p : List Nat} (q : IsDoc h d) (hs : subD d p = some e) : (Cn (n + 3)).call "look_at_place" [d, pl p] [] = some (.ok .non []) := by
  rw [call_s (F := Hd.v_look_at_place) (by kernel_rfl)]
  have k1 : callD (Cn (n + 2)) false "is_place" [d, pl p] [] = some (Out.ok (.bl true) []) := callD_p (is_place_c q hs) (pair_pure (doc_pure q) pl_pure) rfl
  refine run_nx (env' := [some d, some (pl p)]) rfl (Ess.nx (env' := [some d, some (pl p)]) (Es.iffF ?_ Ess.nil) Ess.nil)
  trivial
theorem sub_doc : ∀ {p : List Nat} {h : Nat} {d e : D}, IsDoc h d → subD d p = some e → ∃ k, k ≤ h ∧ IsDoc k e
  | [], h, d, e, q, hs => by cases hs; exact ⟨h, Nat.le_refl _, q⟩
  | i :: p, h, d, e, q, hs => by
    obtain ⟨nm, ps, rfl, _, hl, k, rfl, hq⟩ := doc_cut q
    have hs : (ps[i]?).bind (fun e => subD e p) = some e := hs
    cases hi : ps[i]? with
    | none => rw [hi] at hs; cases hs
    | some d' =>
      rw [hi] at hs
      obtain ⟨j, h1, h2⟩ := sub_doc (hq d' (List.mem_of_getElem? hi)) hs
      exact ⟨j, by omega, h2⟩
theorem found_at_l {C : Wk.Ctx} {t : D} : ∀ (p : List Nat) {h : Nat} {d e : D} {x : Option D}, IsDoc h d → subD d p = some e → ∃ y, loopM (loopF C (.nm 2) (v_found_at.body.at_ 0).body) (p.map fun (i : Nat) => .int (i : Int)) [some d, some t, x] [] = some (.ok (.nx [some e, some t, y]) [])
  | [], h, d, e, x, q, hs => by cases hs; exact ⟨x, rfl⟩
  | i :: p, h, d, e, x, q, hs => by
    obtain ⟨nm, ps, rfl, _, hl, k, rfl, hq⟩ := doc_cut q
    have hs : (ps[i]?).bind (fun e => subD e p) = some e := hs
    cases hi : ps[i]? with
    | none => rw [hi] at hs; cases hs
    | some d' =>
      rw [hi] at hs
      obtain ⟨y, ih⟩ := found_at_l (C := C) p (x := some (.int (i : Nat))) (hq d' (List.mem_of_getElem? hi)) hs
      refine ⟨y, ?_⟩
      rw [← ih]
      have k3 : ixD [] (.tup ps) (.int (i : Nat)) = some d' := at_nat hi
      refine loop_cons (loopF_ok (env1 := [some (.tup [.str nm, .tup ps]), some t, some (.int (i : Nat))]) rfl ?_ rfl)
      trivial
theorem found_at_c {n h : Nat} {d e : D} {p : List Nat} (q : IsDoc h d) (hs : subD d p = some e) : (Cn (n + 1)).call "found_at" [d, pl p] [] = some (.ok e []) := by
  rw [call_s (F := Hd.v_found_at) (by kernel_rfl)]
  obtain ⟨y, hw⟩ := found_at_l (C := Cn n) (t := pl p) (x := none) p q hs
  exact run_rt rfl (Ess.nx (Es.loopN (EvA.cons (Ev.var rfl) EvA.nil) rfl hw) (Ess.rt (Es.ret (Ev.var rfl))))
theorem law_at_c {n h : Nat} {d e : D} {p : List Nat} (q : IsDoc h d) (hs : subD d p = some e) : (Cn (n + 1)).call "_law_at" [d, pl p] [] = some (.ok e []) := by
  rw [call_s (F := Hd.v__law_at) (by kernel_rfl)]
  obtain ⟨y, hw⟩ := found_at_l (C := Cn n) (t := pl p) (x := none) p q hs
  exact run_rt rfl (Ess.nx (Es.loopN (EvA.cons (Ev.var rfl) EvA.nil) rfl hw) (Ess.rt (Es.ret (Ev.var rfl))))
theorem at_c {n h : Nat} {d e : D} {p : List Nat} (q : IsDoc h d) (hs : subD d p = some e) : (Cn (n + h + 4)).call "at" [d, pl p] [] = some (.ok e []) := by
  rw [call_s (F := Hd.v_at) (by kernel_rfl)]
  obtain ⟨k, _, qe⟩ := sub_doc q hs
  have k1 : callD (Cn (n + h + 3)) false "look_at_document" [d] [] = some (Out.ok .non []) := callD_p (by have := look_at_document_c q (n + 1); rw [show n + 1 + h + 2 = n + h + 3 by omega] at this; exact this) (one_pure (doc_pure q)) rfl
  have k2 : callD (Cn (n + h + 3)) false "look_at_place" [d, pl p] [] = some (Out.ok .non []) := callD_p (look_at_place_c q hs) (pair_pure (doc_pure q) pl_pure) rfl
  have k3 : callD (Cn (n + h + 3)) false "found_at" [d, pl p] [] = some (Out.ok e []) := callD_p (found_at_c q hs) (pair_pure (doc_pure q) pl_pure) (doc_pure qe)
  refine run_rt rfl ?_
  trivial
/-! ways -/
def nmD : D → D
  | .tup (x :: _) => x
  | _ => .non
def nms : D → List Nat → List D
  | _, [] => []
  | d, i :: p => match (parts d)[i]? with
    | some e => nmD e :: nms e p
    | none => []
theorem doc_nm {h : Nat} {d : D} (q : IsDoc h d) : ∃ x ps, d = .tup [.str x, .tup ps] ∧ nmD d = .str x := by
  obtain ⟨x, ps, rfl, _⟩ := doc_cut q
  exact ⟨x, ps, rfl, rfl⟩
theorem way_of_l {C : Wk.Ctx} {t : D} : ∀ (p : List Nat) {h : Nat} {d e : D} {x : Option D} {acc : List D}, IsDoc h d → subD d p = some e → acc.length + p.length < 1000 → ∃ y, loopM (loopF C (.nm 3) (v_way_of.body.at_ 1).body) (p.map fun (i : Nat) => .int (i : Int)) [some d, some t, some (.loc 0), x] [.lst false acc] = some (.ok (.nx [some e, some t, some (.loc 0), y]) [.lst false (acc ++ nms d p)])
  | [], h, d, e, x, acc, q, hs, hl => by cases hs; exact ⟨x, by simp [nms]; rfl⟩
  | i :: p, h, d, e, x, acc, q, hs, hl2 => by
    obtain ⟨nm0, ps, rfl, _, hl, k, rfl, hq⟩ := doc_cut q
    have hs : (ps[i]?).bind (fun e => subD e p) = some e := hs
    cases hi : ps[i]? with
    | none => rw [hi] at hs; cases hs
    | some d' =>
      rw [hi] at hs
      have qd := hq d' (List.mem_of_getElem? hi)
      obtain ⟨y, ih⟩ := way_of_l (C := C) (t := t) p (acc := acc ++ [nmD d']) (x := some (.int (i : Nat))) qd hs (by simp at hl2 ⊢; omega)
      refine ⟨y, ?_⟩
      have e1 : nms (.tup [.str nm0, .tup ps]) (i :: p) = nmD d' :: nms d' p := by
        show (match ps[i]? with | some e => nmD e :: nms e p | none => []) = _
        rw [hi]
      rw [e1, show acc ++ nmD d' :: nms d' p = (acc ++ [nmD d']) ++ nms d' p by simp, ← ih]
      have k3 : ixD [.lst false acc] (.tup ps) (.int (i : Nat)) = some d' := at_nat hi
      obtain ⟨x', ps', rfl, hn⟩ := doc_nm qd
      have k5 : metD "append" (.loc 0) [.str x'] [.lst false acc] = some (.non, [.lst false (acc ++ [.str x'])]) := by
        show (if Nat.blt acc.length sizeLine = true then some (D.non, ([Ob.lst false acc] : Store).set 0 (.lst false (acc ++ [.str x']))) else none) = _
        rw [if_pos (by rw [sizeLine_eq]; exact Nat.blt_eq.mpr (by simp at hl2; omega))]; rfl
      refine loop_cons (loopF_ok (env1 := [some (.tup [.str nm0, .tup ps]), some t, some (.loc 0), some (.int (i : Nat))]) rfl (Ess.nx (Es.set (Ev.ix (Ev.ix (Ev.var rfl) Ev.cst rfl) (Ev.var rfl) k3) (show (0 : Nat) < 4 by decide)) (Ess.nx (Es.ex (Ev.met (Ev.var rfl) rfl (EvA.cons (Ev.ix (Ev.var rfl) Ev.cst rfl) EvA.nil) k5)) Ess.nil)) rfl)
theorem way_of_c {n h : Nat} {d e : D} {p : List Nat} (q : IsDoc h d) (hs : subD d p = some e) (hl : p.length < 900) : ∃ st, (Cn (n + 1)).call "way_of" [d, pl p] [] = some (.ok (.tup (nmD d :: nms d p)) st) := by
  rw [call_s (F := Hd.v_way_of) (by kernel_rfl)]
  obtain ⟨y, hw⟩ := way_of_l (C := Cn n) (t := pl p) (x := none) (acc := [nmD d]) p q hs (by simp; omega)
  obtain ⟨x, ps, rfl, hn⟩ := doc_nm q
  have kt : bltD "tuple" [.loc 0] [.lst false ([nmD (.tup [.str x, .tup ps])] ++ nms (.tup [.str x, .tup ps]) p)] = some (.tup (nmD (.tup [.str x, .tup ps]) :: nms (.tup [.str x, .tup ps]) p)) := rfl
  refine ⟨_, run_rt rfl (Ess.nx (Es.set (Ev.lstA (EvA.cons (Ev.ix (Ev.var rfl) Ev.cst rfl) EvA.nil) rfl) (show (2 : Nat) < 4 by decide)) (Ess.nx (Es.loopN (EvA.cons (Ev.var rfl) EvA.nil) rfl hw) (Ess.rt (Es.ret (Ev.blt (EvA.cons (Ev.var rfl) EvA.nil) kt)))))⟩
theorem nms_pure : ∀ {p : List Nat} {h : Nat} {d : D}, IsDoc h d → D.pures (nms d p) = true
  | [], h, d, q => rfl
  | i :: p, h, d, q => by
    obtain ⟨nm0, ps, rfl, _, hl, k, rfl, hq⟩ := doc_cut q
    show D.pures (match ps[i]? with | some e => nmD e :: nms e p | none => []) = true
    cases hi : ps[i]? with
    | none => rfl
    | some e =>
      have qe := hq e (List.mem_of_getElem? hi)
      obtain ⟨x, ps', e1, e2⟩ := doc_nm qe
      show ((nmD e).pure && D.pures (nms e p)) = true
      rw [e2, nms_pure qe]; rfl
theorem way_c {n h : Nat} {d e : D} {p : List Nat} (q : IsDoc h d) (hs : subD d p = some e) (hl : p.length < 900) : (Cn (n + h + 4)).call "way" [d, pl p] [] = some (.ok (.tup (nmD d :: nms d p)) []) := by
  rw [call_s (F := Hd.v_way) (by kernel_rfl)]
  obtain ⟨st, hw⟩ := way_of_c (n := n + h + 2) q hs hl
  have pw : (D.tup (nmD d :: nms d p)).pure = true := by
    obtain ⟨x, ps', e1, e2⟩ := doc_nm q
    show ((nmD d).pure && D.pures (nms d p)) = true
    rw [e2, nms_pure q]; rfl
  have k1 : callD (Cn (n + h + 3)) false "look_at_document" [d] [] = some (Out.ok .non []) := callD_p (by have := look_at_document_c q (n + 1); rw [show n + 1 + h + 2 = n + h + 3 by omega] at this; exact this) (one_pure (doc_pure q)) rfl
  have k2 : callD (Cn (n + h + 3)) false "look_at_place" [d, pl p] [] = some (Out.ok .non []) := callD_p (look_at_place_c q hs) (pair_pure (doc_pure q) pl_pure) rfl
  have k3 : callD (Cn (n + h + 3)) false "way_of" [d, pl p] [] = some (Out.ok (.tup (nmD d :: nms d p)) []) := callD_p hw (pair_pure (doc_pure q) pl_pure) pw
  refine run_rt rfl ?_
  trivial
/-! all places -/
def plcs : Nat → D → List (List Nat)
  | 0, _ => []
  | h + 1, d => [] :: (parts d).zipIdx.flatMap fun e => (plcs h e.1).map (e.2 :: ·)
theorem plcs_pure {ps : List (List Nat)} : D.pures (ps.map pl) = true := pures_of (by
  intro x hx
  obtain ⟨p, _, rfl⟩ := List.mem_map.mp hx
  exact pl_pure)
theorem size1 {ps : List (List Nat)} : (ps.map pl).length = ps.length := by simp
/-- how many -/
def cnt : Nat → Nat
  | 0 => 0
  | h + 1 => 1 + 3 * cnt h
theorem flat_len {α β : Type} {f : α → List β} {m : Nat} : ∀ {xs : List α}, (∀ x ∈ xs, (f x).length ≤ m) → (xs.flatMap f).length ≤ xs.length * m
  | [], _ => by simp
  | x :: xs, h => by
    rw [List.flatMap_cons, List.length_append, List.length_cons, Nat.succ_mul]
    have := flat_len (xs := xs) fun y hy => h y (List.mem_cons_of_mem _ hy)
    have := h x List.mem_cons_self
    omega
theorem plcs_len : ∀ {h : Nat} {d : D}, IsDoc h d → (plcs h d).length ≤ cnt h
  | 0, _, q => q.elim
  | h + 1, d, q => by
    obtain ⟨x, ps, rfl, _, hl, k, e, hq⟩ := doc_cut q
    cases e
    show (([] : List Nat) :: ps.zipIdx.flatMap fun e => (plcs h e.1).map (e.2 :: ·)).length ≤ 1 + 3 * cnt h
    rw [List.length_cons]
    have : (ps.zipIdx.flatMap fun e => (plcs h e.1).map (e.2 :: ·)).length ≤ ps.zipIdx.length * cnt h := flat_len fun z hz => by
      rw [List.length_map]
      obtain ⟨i, hi, e⟩ := List.getElem_of_mem hz
      have : z.1 ∈ ps := by
        rw [← e]; simp
      exact plcs_len (hq z.1 this)
    rw [List.length_zipIdx] at this
    have := Nat.mul_le_mul_right (cnt h) hl
    omega
theorem places_of_l {C : Wk.Ctx} {t : D} {h : Nat} : ∀ (ps : List D) (k : Nat) {x y z : Option D} {acc : List D}, (∀ p ∈ ps, ∀ st, callD C false "places_of" [p] st = some (.ok (.lst ((plcs h p).map pl)) st)) → (∀ p ∈ ps, (plcs h p).length ≤ cnt h) → (∀ p ∈ ps, ∀ q ∈ plcs h p, q.length ≤ 100) → cnt h ≤ 9000 → acc.length + ps.length * cnt h ≤ 9000 →
    ∃ x' y' z', loopM (loopF C (.tp (.cons (.nm 2) (.cons (.nm 3) .nil))) (v_places_of.body.at_ 1).body) ((ps.zipIdx k).map fun p => .tup [.int p.2, p.1]) [some t, some (.loc 0), x, y, z] [.lst false acc] = some (.ok (.nx [some t, some (.loc 0), x', y', z']) [.lst false (acc ++ ((ps.zipIdx k).flatMap fun e => (plcs h e.1).map (e.2 :: ·)).map pl)])
  | [], k, x, y, z, acc, _, _, _, _, _ => ⟨x, y, z, by simp; rfl⟩
  | p :: ps, k, x, y, z, acc, hc, hl, hq9, h9, hn => by
    have hp := hl p List.mem_cons_self
    rw [List.length_cons, Nat.succ_mul] at hn
    obtain ⟨x', y', z', ih⟩ := places_of_l (C := C) (t := t) (h := h) ps (k + 1) (x := some (.int (k : Nat))) (y := some p) (z := z) (acc := acc ++ (plcs h p).map fun q => pl (k :: q)) (fun r hr => hc r (List.mem_cons_of_mem _ hr)) (fun r hr => hl r (List.mem_cons_of_mem _ hr)) (fun r hr => hq9 r (List.mem_cons_of_mem _ hr)) h9 (by rw [List.length_append, List.length_map]; omega)
    refine ⟨x', y', z', ?_⟩
    have e1 : acc ++ (((p :: ps).zipIdx k).flatMap fun e => (plcs h e.1).map (e.2 :: ·)).map pl = (acc ++ (plcs h p).map fun q => pl (k :: q)) ++ ((ps.zipIdx (k + 1)).flatMap fun e => (plcs h e.1).map (e.2 :: ·)).map pl := by
      rw [List.zipIdx_cons, List.flatMap_cons, List.map_append, List.map_map, List.append_assoc]; rfl
    rw [e1, ← ih]
    have k1 : eachM (lcF C (.tup (.cons false (.var 2) (.cons true (.var 4) .nil))) (.nm 4) false (.cst .non) [4] [some t, some (.loc 0), some (.int (k : Nat)), some p, z]) ((plcs h p).map pl) [.lst false acc] = some (.ok ((plcs h p).map fun q => pl (k :: q)) [.lst false acc]) :=
      each_map fun q hq => by
        refine lcF_ok (env' := [some t, some (.loc 0), some (.int (k : Nat)), some p, some (pl q)]) rfl ?_
        have := Ev.tup (C := C) (env := [some t, some (.loc 0), some (.int (k : Nat)), some p, some (pl q)]) (st := [.lst false acc]) (EvA.cons (Ev.var (i := 2) rfl) (EvA.star (Ev.var (i := 4) rfl) rfl EvA.nil)) (ds := .int (k : Nat) :: ((q.map fun (i : Nat) => .int (i : Int)) ++ [])) (fit_small (by have := hq9 p List.mem_cons_self q hq; simp; omega))
        rw [List.append_nil] at this
        exact this
    have k2 : augD .Add (.loc 0) (.lst ((plcs h p).map fun q => pl (k :: q))) [.lst false acc] = some (.loc 0, [.lst false (acc ++ (plcs h p).map fun q => pl (k :: q))]) := by
      show (if fit _ = true then some (D.loc 0, ([Ob.lst false acc] : Store).set 0 _) else none) = _
      rw [if_pos (fit_small (by rw [List.length_map]; omega))]; rfl
    refine loop_cons (loopF_ok (env1 := [some t, some (.loc 0), some (.int (k : Nat)), some p, z]) rfl (Ess.nx (Es.aug rfl (Ev.lc (EvA.cons (Ev.call (EvA.cons (Ev.var rfl) EvA.nil) (hc p List.mem_cons_self _)) EvA.nil) rfl (fit_small (by rw [List.length_map]; omega)) k1 (fit_small (by rw [List.length_map]; omega))) k2) Ess.nil) rfl)
theorem doc_len : ∀ {h : Nat} {d : D} {p : List Nat}, IsDoc h d → p ∈ plcs h d → p.length < h
  | 0, _, _, q, _ => q.elim
  | h + 1, d, p, q, hp => by
    obtain ⟨x, ps, rfl, _, hl, k, e, hq⟩ := doc_cut q
    cases e
    have hp : p ∈ ([] : List Nat) :: ps.zipIdx.flatMap fun e => (plcs h e.1).map (e.2 :: ·) := hp
    rcases List.mem_cons.mp hp with z | z
    · subst z; simp
    · obtain ⟨e, he, z⟩ := List.mem_flatMap.mp z
      obtain ⟨r, hr, rfl⟩ := List.mem_map.mp z
      obtain ⟨i, hi, e'⟩ := List.getElem_of_mem he
      have : e.1 ∈ ps := by rw [← e']; simp
      have := doc_len (hq e.1 this) hr
      simp; omega
theorem cnt_le : ∀ {h : Nat}, h ≤ 6 → cnt h ≤ 1000
  | 0, _ | 1, _ | 2, _ | 3, _ | 4, _ | 5, _ | 6, _ => by decide
  | n + 7, z => by omega
theorem places_of_c : ∀ {h : Nat} {d : D}, h ≤ 6 → IsDoc h d → ∀ n, (Cn (n + h)).call "places_of" [d] [] = some (.ok (.loc 0) [.lst false ((plcs h d).map pl)])
  | 0, _, _, q, _ => q.elim
  | h + 1, d, h6, q, n => by
    rw [show n + (h + 1) = n + h + 1 by omega, call_s (F := Hd.v_places_of) (by kernel_rfl)]
    have q0 := q
    obtain ⟨x, ps, rfl, _, hl, k, e, hq⟩ := doc_cut q
    cases e
    have hc := cnt_le (h := h) (by omega)
    obtain ⟨a, b, c, hw⟩ := places_of_l (C := Cn (n + h)) (t := .tup [.str x, .tup ps]) (h := h) ps 0 (x := none) (y := none) (z := none) (acc := [pl []]) (fun p hp st => callD_l (places_of_c (by omega) (hq p hp) n) (one_pure (doc_pure (hq p hp))) plcs_pure) (fun p hp => plcs_len (hq p hp)) (fun p hp r hr => by have := doc_len (hq p hp) hr; omega) (by omega) (by
      have := Nat.mul_le_mul_right (cnt h) hl
      simp; omega)
    exact run_rt rfl (Ess.nx (Es.set (Ev.lstA (EvA.cons (Ev.tup EvA.nil rfl) EvA.nil) rfl) (show (1 : Nat) < 5 by decide)) (Ess.nx (Es.loopN (EvA.cons (Ev.ix (Ev.var rfl) Ev.cst rfl) EvA.nil) rfl hw) (Ess.rt (Es.ret (Ev.var rfl)))))
theorem places_c {h : Nat} {d : D} (h6 : h ≤ 6) (q : IsDoc h d) (n : Nat) : (Cn (n + h + 3)).call "places" [d] [] = some (.ok (.loc 0) [.lst false ((plcs h d).map pl)]) := by
  rw [call_s (F := Hd.v_places) (by kernel_rfl)]
  have k1 : callD (Cn (n + h + 2)) false "look_at_document" [d] [] = some (Out.ok .non []) := callD_p (look_at_document_c q n) (one_pure (doc_pure q)) rfl
  have k2 : callD (Cn (n + h + 2)) true "places_of" [d] [] = some (Out.ok (.loc 0) [.lst false ((plcs h d).map pl)]) := callD_k (by have := places_of_c h6 q (n + 2); rw [show n + 2 + h = n + h + 2 by omega] at this; exact this) (one_pure (doc_pure q)) plcs_pure
  refine run_rt rfl ?_
  trivial
/-! put -/
def putD : D → List Nat → D → D
  | _, [], o => o
  | d, i :: p, o => match (parts d)[i]? with
    | some e => .tup [nmD d, .tup ((parts d).take i ++ (putD e p o :: (parts d).drop (i + 1)))]
    | none => d
theorem doc_up {h k : Nat} {d : D} (q : IsDoc h d) (hk : h ≤ k) : IsDoc k d := by
  induction k generalizing h d with
  | zero => have : h = 0 := by omega
            subst this; exact q
  | succ k ih =>
    obtain ⟨x, ps, rfl, a, b, j, rfl, c⟩ := doc_cut q
    exact ⟨x, ps, rfl, a, b, fun p hp => ih (c p hp) (by omega)⟩
theorem put_doc {k : Nat} {o : D} (qo : IsDoc k o) : ∀ {p : List Nat} {h : Nat} {d e : D}, IsDoc h d → subD d p = some e → IsDoc (h + k) (putD d p o)
  | [], h, d, e, q, hs => doc_up qo (by omega)
  | i :: p, h, d, e, q, hs => by
    obtain ⟨nm0, ps, rfl, hn, hl, j, rfl, hq⟩ := doc_cut q
    have hs : (ps[i]?).bind (fun e => subD e p) = some e := hs
    cases hi : ps[i]? with
    | none => rw [hi] at hs; cases hs
    | some d' =>
      rw [hi] at hs
      have e1 : putD (.tup [.str nm0, .tup ps]) (i :: p) o = .tup [.str nm0, .tup (ps.take i ++ (putD d' p o :: ps.drop (i + 1)))] := by
        show (match ps[i]? with | some e => _ | none => _) = _
        rw [hi]; rfl
      rw [e1, show j + 1 + k = (j + k) + 1 by omega]
      have hlt := (List.getElem?_eq_some_iff.mp hi).1
      refine ⟨nm0, _, rfl, hn, by simp; omega, fun x hx => ?_⟩
      rcases List.mem_append.mp hx with z | z
      · exact doc_up (hq x (List.mem_of_mem_take z)) (by omega)
      · rcases List.mem_cons.mp z with z | z
        · subst z; exact put_doc qo (hq d' (List.mem_of_getElem? hi)) hs
        · exact doc_up (hq x (List.mem_of_mem_drop z)) (by omega)
theorem with_put_c {k : Nat} {o : D} (qo : IsDoc k o) : ∀ {p : List Nat} {h : Nat} {d e : D}, IsDoc h d → subD d p = some e → ∀ n, (Cn (n + p.length + 1)).call "with_put" [d, pl p, o] [] = some (.ok (putD d p o) [])
  | [], h, d, e, q, hs, n => by
    rw [call_s (F := Hd.v_with_put) (by kernel_rfl)]
    exact run_rt rfl (Ess.rt (Es.iffT (Ev.cmp (r := true) (Ev.var rfl) (Ev.tup EvA.nil rfl) (eq_nilp (st := []) (p := []))) (Ess.rt (Es.ret (Ev.var rfl)))))
  | i :: p, h, d, e, q, hs, n => by
    rw [show n + (i :: p).length + 1 = (n + p.length + 1) + 1 by simp; omega, call_s (F := Hd.v_with_put) (by kernel_rfl)]
    obtain ⟨nm0, ps, rfl, hn, hl, j, rfl, hq⟩ := doc_cut q
    have hs : (ps[i]?).bind (fun e => subD e p) = some e := hs
    cases hi : ps[i]? with
    | none => rw [hi] at hs; cases hs
    | some d' =>
      rw [hi] at hs
      have qd := hq d' (List.mem_of_getElem? hi)
      have e1 : putD (.tup [.str nm0, .tup ps]) (i :: p) o = .tup [.str nm0, .tup (ps.take i ++ (putD d' p o :: (ps.drop (i + 1) ++ [])))] := by
        show (match ps[i]? with | some e => _ | none => _) = _
        rw [hi, List.append_nil]; rfl
      rw [e1]
      have hlt := (List.getElem?_eq_some_iff.mp hi).1
      have h0 : ixD [] (pl (i :: p)) (.int 0) = some (.int (i : Nat)) := at_nat (ps := (i :: p).map fun (i : Nat) => D.int (i : Int)) (i := 0) rfl
      have h1 : ixD [] (.tup ps) (.int (i : Nat)) = some d' := at_nat hi
      have h2 : sliceD [] (pl (i :: p)) (some 1) none = some (pl p) := sl_from (xs := (i :: p).map fun (i : Nat) => D.int (i : Int)) 1 (by simp)
      have h3 : sliceD [] (.tup ps) none (some (i : Nat)) = some (.tup (ps.take i)) := sl_to i (by omega)
      have h4 : sliceD [] (.tup ps) (some ((i + 1 : Nat) : Int)) none = some (.tup (ps.drop (i + 1))) := sl_from (i + 1) (by omega)
      have k1 : callD (Cn (n + p.length + 1)) false "with_put" [d', pl p, o] [] = some (Out.ok (putD d' p o) []) := callD_p (with_put_c qo qd hs n) (tri_pure (doc_pure qd) pl_pure (doc_pure qo)) (doc_pure (put_doc qo qd hs))
      refine run_rt rfl (Ess.nx (Es.iffF (Ev.cmp (r := false) (Ev.var rfl) (Ev.tup EvA.nil rfl) (eq_nilp (st := []) (p := i :: p))) Ess.nil) (Ess.nx (Es.unp (Ev.var rfl) rfl) (Ess.nx (Es.set (Ev.call (EvA.cons (Ev.ix (Ev.var rfl) (Ev.ix (Ev.var rfl) Ev.cst h0) h1) (EvA.cons (Ev.sl (Ev.var rfl) Ev.cst rfl Ev.cst rfl h2) (EvA.cons (Ev.var rfl) EvA.nil))) k1) (show (3 : Nat) < 6 by decide))
        (Ess.rt (Es.ret (Ev.tup (EvA.cons (Ev.var rfl) (EvA.cons (Ev.tup (EvA.star (Ev.sl (Ev.var rfl) Ev.cst rfl (Ev.ix (Ev.var rfl) Ev.cst h0) rfl h3) rfl (EvA.cons (Ev.var rfl) (EvA.star (Ev.sl (Ev.var rfl) (Ev.bin (Ev.ix (Ev.var rfl) Ev.cst h0) Ev.cst rfl) rfl Ev.cst rfl h4) rfl EvA.nil))) (fit_small (by simp; omega))) EvA.nil)) rfl))))))
theorem put_c {n h k : Nat} {d e o : D} {p : List Nat} (q : IsDoc h d) (qo : IsDoc k o) (hs : subD d p = some e) : (Cn (n + h + k + p.length + 4)).call "put" [d, pl p, o] [] = some (.ok (putD d p o) []) := by
  rw [call_s (F := Hd.v_put) (by kernel_rfl)]
  have k1 : callD (Cn (n + h + k + p.length + 3)) false "look_at_document" [d] [] = some (Out.ok .non []) := callD_p (by have := look_at_document_c q (n + k + p.length + 1); rw [show n + k + p.length + 1 + h + 2 = n + h + k + p.length + 3 by omega] at this; exact this) (one_pure (doc_pure q)) rfl
  have k4 : callD (Cn (n + h + k + p.length + 3)) false "look_at_document" [o] [] = some (Out.ok .non []) := callD_p (by have := look_at_document_c qo (n + h + p.length + 1); rw [show n + h + p.length + 1 + k + 2 = n + h + k + p.length + 3 by omega] at this; exact this) (one_pure (doc_pure qo)) rfl
  have k2 : callD (Cn (n + h + k + p.length + 3)) false "look_at_place" [d, pl p] [] = some (Out.ok .non []) := callD_p (look_at_place_c q hs) (pair_pure (doc_pure q) pl_pure) rfl
  have k3 : callD (Cn (n + h + k + p.length + 3)) false "with_put" [d, pl p, o] [] = some (Out.ok (putD d p o) []) := callD_p (by have := with_put_c qo q hs (n + h + k + 2); rw [show n + h + k + 2 + p.length + 1 = n + h + k + p.length + 3 by omega] at this; exact this) (tri_pure (doc_pure q) pl_pure (doc_pure qo)) (doc_pure (put_doc qo q hs))
  refine run_rt rfl ?_
  trivial
end Hd

end
section
open Wk PySem
set_option maxRecDepth 100000
set_option maxHeartbeats 2000000
namespace Hd
local macro_rules
  | `(tactic| trivial) => `(tactic| first
    | exact Ev.cst
    | exact Ev.var rfl
    | exact EvA.nil
    | (apply EvA.cons <;> trivial)
    | (apply Ev.ix <;> trivial)
    | (apply Ev.isi' <;> trivial)
    | (apply Ev.not' <;> trivial)
    | (apply Ev.cmp <;> trivial)
    | (apply Ev.bin <;> trivial)
    | (apply Ev.blt <;> trivial)
    | (apply Ev.call <;> trivial)
    | (apply Ev.orF <;> trivial)
    | (apply Ev.orT <;> trivial)
    | (apply Ev.andT <;> trivial)
    | (apply Ev.andF <;> trivial)
    | (apply Es.ret <;> trivial)
    | (apply Es.ex <;> trivial)
    | (apply Es.set <;> trivial)
    | (apply Ess.nx <;> trivial)
    | (apply Ess.rt <;> trivial)
    | exact Ess.nil
    | (apply Es.iffF <;> trivial)
    | (apply Es.iffT <;> trivial)
    | assumption
    | rfl
    | (simp [cmpD]; done))

theorem set_ix {st : Store} {m : Nat} {xs : List D} {i : Nat} {v : D} (h : st[m]? = some (.lst false xs)) (hi : i < xs.length) : setIxD (.loc m) (.int (i : Nat)) v st = some ((), st.set m (.lst false (xs.set i v))) := by
  show (match st[m]? with
    | some (.lst false xs) => (L2.ixN xs.length (i : Nat)).map fun j => ((), st.set m (.lst false (xs.set j v)))
    | _ => none) = _
  rw [h]
  simp [L2.ixN, hi]
theorem set_cut {ps : List D} {i : Nat} {v : D} (hi : i < ps.length) : ps.set i v = ps.take i ++ (v :: ps.drop (i + 1)) := by
  rw [List.set_eq_take_append_cons_drop, if_pos hi]
theorem law_put_c {k : Nat} {o : D} (qo : IsDoc k o) : ∀ {p : List Nat} {h : Nat} {d e : D}, IsDoc h d → subD d p = some e → ∀ n, ∃ st, (Cn (n + p.length + 1)).call "_law_put" [d, pl p, o] [] = some (.ok (putD d p o) st)
  | [], h, d, e, q, hs, n => by
    rw [call_s (F := Hd.v__law_put) (by kernel_rfl)]
    exact ⟨_, run_rt rfl (Ess.rt (Es.iffT (Ev.cmp (r := true) (Ev.var rfl) (Ev.tup EvA.nil rfl) (eq_nilp (st := []) (p := []))) (Ess.rt (Es.ret (Ev.var rfl)))))⟩
  | i :: p, h, d, e, q, hs, n => by
    rw [show n + (i :: p).length + 1 = (n + p.length + 1) + 1 by simp; omega, call_s (F := Hd.v__law_put) (by kernel_rfl)]
    obtain ⟨nm0, ps, rfl, hn, hl, j, rfl, hq⟩ := doc_cut q
    have hs : (ps[i]?).bind (fun e => subD e p) = some e := hs
    cases hi : ps[i]? with
    | none => rw [hi] at hs; cases hs
    | some d' =>
      rw [hi] at hs
      have qd := hq d' (List.mem_of_getElem? hi)
      have hlt := (List.getElem?_eq_some_iff.mp hi).1
      have e1 : putD (.tup [.str nm0, .tup ps]) (i :: p) o = .tup [.str nm0, .tup (ps.set i (putD d' p o))] := by
        rw [set_cut hlt]
        show (match ps[i]? with | some e => _ | none => _) = _
        rw [hi]; rfl
      rw [e1]
      obtain ⟨sx, hw⟩ := law_put_c qo qd hs n
      have h0 : ∀ st, ixD st (pl (i :: p)) (.int 0) = some (.int (i : Nat)) := fun st => at_nat (ps := (i :: p).map fun (i : Nat) => D.int (i : Int)) (i := 0) rfl
      have h1 : ixD [.lst false ps] (.loc 0) (.int (i : Nat)) = some d' := at_nat hi
      have h2 : ∀ st, sliceD st (pl (i :: p)) (some 1) none = some (pl p) := fun st => sl_from (xs := (i :: p).map fun (i : Nat) => D.int (i : Int)) 1 (by simp)
      have k1 : callD (Cn (n + p.length + 1)) false "_law_put" [d', pl p, o] [.lst false ps] = some (Out.ok (putD d' p o) [.lst false ps]) := callD_p hw (tri_pure (doc_pure qd) pl_pure (doc_pure qo)) (doc_pure (put_doc qo qd hs))
      have k2 := set_ix (st := [.lst false ps]) (m := 0) (v := putD d' p o) rfl hlt
      exact ⟨_, run_rt rfl (Ess.nx (Es.iffF (Ev.cmp (r := false) (Ev.var rfl) (Ev.tup EvA.nil rfl) (eq_nilp (st := []) (p := i :: p))) Ess.nil) (Ess.nx (Es.set (Ev.lsa (EvA.cons (Ev.ix (Ev.var rfl) Ev.cst rfl) EvA.nil) rfl) (show (3 : Nat) < 4 by decide)) (Ess.nx (Es.six (Ev.call (EvA.cons (Ev.ix (Ev.var rfl) (Ev.ix (Ev.var rfl) Ev.cst (h0 _)) h1) (EvA.cons (Ev.sl (Ev.var rfl) Ev.cst rfl Ev.cst rfl (h2 _)) (EvA.cons (Ev.var rfl) EvA.nil))) k1) (Ev.var rfl) (Ev.ix (Ev.var rfl) Ev.cst (h0 _)) k2)
        (Ess.rt (Es.ret (Ev.tup (EvA.cons (Ev.ix (Ev.var rfl) Ev.cst rfl) (EvA.cons (Ev.blt (EvA.cons (Ev.var rfl) EvA.nil) rfl) EvA.nil)) rfl))))))⟩
theorem it_range {n : Nat} {st : Store} (h : n < 2 ^ 62) : itD .range1 [.int (n : Nat)] st = some ((List.range n).map fun (i : Nat) => .int (i : Int), none) := by
  unfold itD itR1
  have h1 : (decide (-(2 ^ 62 : Int) ≤ ((n : Nat) : Int)) && decide (((n : Nat) : Int) < 2 ^ 62)) = true := by
    rw [Bool.and_eq_true, decide_eq_true_eq, decide_eq_true_eq]; omega
  simp only [h1, if_true, Int.toNat_natCast]
theorem way_map : ∀ {p : List Nat} {h : Nat} {d e : D}, IsDoc h d → subD d p = some e → ((List.range (p.length + 1)).map fun k => nmD ((subD d (p.take k)).getD .non)) = nmD d :: nms d p
  | [], h, d, e, q, hs => rfl
  | i :: p, h, d, e, q, hs => by
    obtain ⟨nm0, ps, rfl, hn, hl, j, rfl, hq⟩ := doc_cut q
    have hs : (ps[i]?).bind (fun e => subD e p) = some e := hs
    cases hi : ps[i]? with
    | none => rw [hi] at hs; cases hs
    | some d' =>
      rw [hi] at hs
      have ih := way_map (hq d' (List.mem_of_getElem? hi)) hs
      have e1 : nms (.tup [.str nm0, .tup ps]) (i :: p) = nmD d' :: nms d' p := by
        show (match ps[i]? with | some e => nmD e :: nms e p | none => []) = _
        rw [hi]
      rw [e1, ← ih, List.length_cons, List.range_succ_eq_map, List.map_cons, List.map_map]
      congr 1
      refine List.map_congr_left fun k _ => ?_
      show nmD ((subD (.tup [.str nm0, .tup ps]) ((i :: p).take (k + 1))).getD .non) = _
      have : subD (.tup [.str nm0, .tup ps]) ((i :: p).take (k + 1)) = subD d' (p.take k) := by
        show (ps[i]?).bind (fun e => subD e (p.take k)) = _
        rw [hi]; rfl
      rw [this]
theorem sub_take : ∀ {p : List Nat} {d e : D}, subD d p = some e → ∀ k, ∃ x, subD d (p.take k) = some x
  | [], d, e, hs, k => ⟨d, by rw [List.take_nil]; rfl⟩
  | i :: p, d, e, hs, 0 => ⟨d, rfl⟩
  | i :: p, d, e, hs, k + 1 => by
    have hs : ((parts d)[i]?).bind (fun e => subD e p) = some e := hs
    cases hi : (parts d)[i]? with
    | none => rw [hi] at hs; cases hs
    | some d' =>
      rw [hi] at hs
      obtain ⟨x, hx⟩ := sub_take hs k
      refine ⟨x, ?_⟩
      show ((parts d)[i]?).bind (fun e => subD e (p.take k)) = _
      rw [hi]; exact hx
theorem law_way_c {n h : Nat} {d e : D} {p : List Nat} (q : IsDoc h d) (hs : subD d p = some e) (hl : p.length < 900) : (Cn (n + 2)).call "_law_way" [d, pl p] [] = some (.ok (.tup (nmD d :: nms d p)) []) := by
  rw [call_s (F := Hd.v__law_way) (by kernel_rfl)]
  have hlen : bltD "len" [pl p] [] = some (.int (p.length : Nat)) := by
    show some (D.int (((p.map fun (i : Nat) => D.int (i : Int)).length : Nat) : Int)) = _
    rw [List.length_map]
  have k1 : eachM (lcF (Cn (n + 1)) (.ix (.call false "_law_at" (.cons false (.var 0) (.cons false (.sl (.var 1) (.cst .non) (.var 2)) .nil))) (.cst (.int 0))) (.nm 2) false (.cst .non) [2] [some d, some (pl p), none]) ((List.range (p.length + 1)).map fun (i : Nat) => .int (i : Int)) [] = some (.ok ((List.range (p.length + 1)).map fun k => nmD ((subD d (p.take k)).getD .non)) []) :=
    each_map fun k hk => by
      have hk : k ≤ p.length := by have := List.mem_range.mp hk; omega
      obtain ⟨x, hx⟩ := sub_take hs k
      obtain ⟨j, _, qx⟩ := sub_doc q hx
      obtain ⟨nm0, ps, rfl, hnm⟩ := doc_nm qx
      rw [hx]
      have h2 : sliceD [] (pl p) none (some (k : Nat)) = some (pl (p.take k)) := by
        have := sl_to (st := []) (xs := p.map fun (i : Nat) => D.int (i : Int)) k (by simpa using hk)
        rw [← List.map_take] at this
        exact this
      have k2 : callD (Cn (n + 1)) false "_law_at" [d, pl (p.take k)] [] = some (Out.ok (.tup [.str nm0, .tup ps]) []) := callD_p (law_at_c q hx) (pair_pure (doc_pure q) pl_pure) (doc_pure qx)
      exact lcF_ok (env' := [some d, some (pl p), some (.int (k : Nat))]) rfl (Ev.ix (Ev.call (EvA.cons (Ev.var rfl) (EvA.cons (Ev.sl (Ev.var rfl) Ev.cst rfl (Ev.var rfl) rfl h2) EvA.nil)) k2) Ev.cst rfl)
  rw [way_map q hs] at k1
  have hnl : (nmD d :: nms d p).length ≤ 1000 := by
    rw [← way_map q hs, List.length_map, List.length_range]; omega
  exact run_rt rfl (Ess.rt (Es.ret (Ev.blt (EvA.cons (Ev.lc (EvA.cons (Ev.bin (Ev.blt (EvA.cons (Ev.var rfl) EvA.nil) hlen) Ev.cst rfl) EvA.nil) (it_range (n := p.length + 1) (by omega)) (fit_small (by simp; omega)) k1 (fit_small (by omega))) EvA.nil) rfl)))
end Hd

end
section
open Wk PySem
set_option maxRecDepth 100000
set_option maxHeartbeats 2000000
namespace Hd
local macro_rules
  | `(tactic| trivial) => `(tactic| first
    | exact Ev.cst
    | exact Ev.var rfl
    | exact EvA.nil
    | (apply EvA.cons <;> trivial)
    | (apply Ev.ix <;> trivial)
    | (apply Ev.isi' <;> trivial)
    | (apply Ev.not' <;> trivial)
    | (apply Ev.cmp <;> trivial)
    | (apply Ev.bin <;> trivial)
    | (apply Ev.blt <;> trivial)
    | (apply Ev.call <;> trivial)
    | (apply Ev.orF <;> trivial)
    | (apply Ev.orT <;> trivial)
    | (apply Ev.andT <;> trivial)
    | (apply Ev.andF <;> trivial)
    | (apply Es.ret <;> trivial)
    | (apply Es.ex <;> trivial)
    | (apply Es.set <;> trivial)
    | (apply Ess.nx <;> trivial)
    | (apply Ess.rt <;> trivial)
    | exact Ess.nil
    | (apply Es.iffF <;> trivial)
    | (apply Es.iffT <;> trivial)
    | assumption
    | rfl
    | (simp [cmpD]; done))


theorem law_places_l {C : Wk.Ctx} {h : Nat} {nm0 : Str} {ps : List D} (hc : ∀ p ∈ ps, ∀ st, callD C false "_law_places" [p] st = some (.ok (.lst ((plcs h p).map pl)) st)) (hl : ∀ p ∈ ps, (plcs h p).length ≤ cnt h) (hq9 : ∀ p ∈ ps, ∀ q ∈ plcs h p, q.length ≤ 100) (h9 : cnt h ≤ 9000) :
    ∀ (m k : Nat) {x y : Option D} {acc : List (List Nat)}, k + m = ps.length → acc.length + m * cnt h ≤ 9000 →
    ∃ x' y', loopM (loopF C (.nm 2) (v__law_places.body.at_ 1).body) ((List.range' k m).map fun (i : Nat) => .int (i : Int)) [some (.tup [.str nm0, .tup ps]), some (.lst (acc.map pl)), x, y] [] = some (.ok (.nx [some (.tup [.str nm0, .tup ps]), some (.lst ((acc ++ ((ps.drop k).zipIdx k).flatMap fun e => (plcs h e.1).map (e.2 :: ·)).map pl)), x', y']) [])
  | 0, k, x, y, acc, hk, hn => ⟨x, y, by
      have : ps.drop k = [] := List.drop_eq_nil_of_le (by omega)
      rw [this]; simp; rfl⟩
  | m + 1, k, x, y, acc, hk, hn => by
    have hlt : k < ps.length := by omega
    have hp : ps[k] ∈ ps := List.getElem_mem hlt
    rw [Nat.succ_mul] at hn
    have hlp := hl ps[k] hp
    have hqp := hq9 ps[k] hp
    obtain ⟨x', y', ih⟩ := law_places_l hc hl hq9 h9 m (k + 1) (x := some (.int (k : Nat))) (y := y) (acc := acc ++ (plcs h ps[k]).map (k :: ·)) (by omega) (by rw [List.length_append, List.length_map]; omega)
    refine ⟨x', y', ?_⟩
    rw [List.drop_eq_getElem_cons hlt, List.zipIdx_cons, List.flatMap_cons, ← List.append_assoc, ← ih]
    have hk' : ps[k]? = some ps[k] := List.getElem?_eq_getElem hlt
    generalize ps[k] = p at *
    have k0 : ixD [] (.tup ps) (.int (k : Nat)) = some p := at_nat hk'
    have k1 : eachM (lcF C (.bin .Add (.tup (.cons false (.var 2) .nil)) (.var 3)) (.nm 3) false (.cst .non) [3] [some (.tup [.str nm0, .tup ps]), some (.lst (acc.map pl)), some (.int (k : Nat)), y]) ((plcs h p).map pl) [] = some (.ok ((plcs h p).map fun q => pl (k :: q)) []) :=
      each_map fun q hq => lcF_ok (env' := [some (.tup [.str nm0, .tup ps]), some (.lst (acc.map pl)), some (.int (k : Nat)), some (pl q)]) rfl (Ev.bin (Ev.tup (EvA.cons (Ev.var rfl) EvA.nil) rfl) (Ev.var rfl) (by
        show (if fit _ = true then some (D.tup _) else none) = _
        rw [if_pos (fit_small (by have := hqp q hq; simp; omega))]; rfl))
    have k2 : binD .Add (.lst (acc.map pl)) (.lst ((plcs h p).map fun q => pl (k :: q))) [] = some (.lst ((acc ++ (plcs h p).map (k :: ·)).map pl)) := by
      rw [List.map_append, List.map_map]
      show (if fit _ = true then some (D.lst _) else none) = _
      rw [if_pos (fit_small (by rw [List.length_map, List.length_map]; omega))]; rfl
    rw [List.range'_succ, List.map_cons]
    refine loop_cons (loopF_ok (env1 := [some (.tup [.str nm0, .tup ps]), some (.lst (acc.map pl)), some (.int (k : Nat)), y]) rfl (Ess.nx (Es.set (Ev.bin (Ev.var rfl) (Ev.lc (EvA.cons (Ev.call (EvA.cons (Ev.ix (Ev.ix (Ev.var rfl) Ev.cst rfl) (Ev.var rfl) k0) EvA.nil) (hc p hp _)) EvA.nil) rfl (fit_small (by rw [List.length_map]; omega)) k1 (fit_small (by rw [List.length_map]; omega))) k2) (show (1 : Nat) < 4 by decide)) Ess.nil) rfl)
theorem law_places_c : ∀ {h : Nat} {d : D}, h ≤ 6 → IsDoc h d → ∀ n, (Cn (n + h)).call "_law_places" [d] [] = some (.ok (.lst ((plcs h d).map pl)) [])
  | 0, _, _, q, _ => q.elim
  | h + 1, d, h6, q, n => by
    rw [show n + (h + 1) = n + h + 1 by omega, call_s (F := Hd.v__law_places) (by kernel_rfl)]
    obtain ⟨x, ps, rfl, _, hl, k, e, hq⟩ := doc_cut q
    cases e
    have hc := cnt_le (h := h) (by omega)
    obtain ⟨a, b, hw⟩ := law_places_l (C := Cn (n + h)) (h := h) (nm0 := x) (ps := ps) (fun p hp st => callD_p (law_places_c (by omega) (hq p hp) n) (one_pure (doc_pure (hq p hp))) plcs_pure) (fun p hp => plcs_len (hq p hp)) (fun p hp r hr => by have := doc_len (hq p hp) hr; omega) (by omega) ps.length 0 (x := none) (y := none) (acc := [[]]) (by omega) (by
      have := Nat.mul_le_mul_right (cnt h) hl
      simp; omega)
    rw [← List.range_eq_range'] at hw
    exact run_rt rfl (Ess.nx (Es.set (Ev.lst (EvA.cons (Ev.tup EvA.nil rfl) EvA.nil) rfl) (show (1 : Nat) < 4 by decide)) (Ess.nx (Es.loopN (EvA.cons (Ev.blt (EvA.cons (Ev.ix (Ev.var rfl) Ev.cst rfl) EvA.nil) rfl) EvA.nil) (it_range (n := ps.length) (by omega)) hw) (Ess.rt (Es.ret (Ev.var rfl)))))
/-! ascending -/
def plt (a b : List Nat) : Prop := HT.lexLt (a.map fun (i : Nat) => (i : Int)) (b.map fun (i : Nat) => (i : Int)) = true
theorem lt_pl {a b : List Nat} (h : plt a b) {st : Store} : cmpD .Lt (pl a) (pl b) st = some true := by
  show (match intsOf (a.map fun (i : Nat) => D.int (i : Int)), intsOf (b.map fun (i : Nat) => D.int (i : Int)) with
    | some a, some b => some (HT.lexLt a b)
    | _, _ => none) = _
  rw [ints_of, ints_of]
  exact congrArg some h
theorem asc_l {C : Wk.Ctx} {xs0 : List D} : ∀ (rest acc : List (List Nat)) {x y : Option D}, (acc ++ rest).Pairwise plt → (acc ++ rest).length ≤ 9000 →
    ∃ x' y', loopM (loopF C (.nm 2) (v__law_ascending.body.at_ 1).body) (rest.map pl) [some (.loc 0), some (.loc 1), x, y] [.lst true xs0, .lst false (acc.map pl)] = some (.ok (.nx [some (.loc 0), some (.loc 1), x', y']) [.lst true xs0, .lst false ((acc ++ rest).map pl)])
  | [], acc, x, y, _, _ => ⟨x, y, by simp; rfl⟩
  | one :: rest, acc, x, y, hp, hl => by
    obtain ⟨x', y', ih⟩ := asc_l (C := C) (xs0 := xs0) rest (acc ++ [one]) (x := some (pl one)) (y := y) (by rw [List.append_assoc]; exact hp) (by rw [List.append_assoc]; exact hl)
    refine ⟨x', y', ?_⟩
    rw [show acc ++ one :: rest = (acc ++ [one]) ++ rest by simp, ← ih]
    have hlt : ∀ a ∈ acc, plt a one := fun a ha => (List.pairwise_append.mp hp).2.2 a ha one List.mem_cons_self
    have hla : acc.length ≤ 9000 := by simp at hl; omega
    have k1 : eachM (lcF C (.var 3) (.nm 3) true (.cmp .Lt (.var 3) (.var 2)) [3] [some (.loc 0), some (.loc 1), some (pl one), y]) (acc.map pl) [.lst true xs0, .lst true (acc.map pl)] = some (.ok (acc.map pl) [.lst true xs0, .lst true (acc.map pl)]) :=
      each_map fun q hq => lcF_t (env' := [some (.loc 0), some (.loc 1), some (pl one), some (pl q)]) rfl (Ev.cmp (Ev.var rfl) (Ev.var rfl) (lt_pl (hlt q hq))) (Ev.var rfl)
    have k2 := wl_eq (st := [.lst true xs0, .lst false (acc.map pl)]) (n := 1) rfl k1 rfl
    have k3 : metD "insert" (.loc 1) [.int ((acc.map pl).length : Nat), pl one] [.lst true xs0, .lst false (acc.map pl)] = some (.non, [.lst true xs0, .lst false ((acc ++ [one]).map pl)]) := by
      show (if (Nat.blt (acc.map pl).length sizeLine && decide ((0 : Int) ≤ ((acc.map pl).length : Nat)) && decide ((((acc.map pl).length : Nat) : Int) ≤ (acc.map pl).length)) = true then some (D.non, ([Ob.lst true xs0, .lst false (acc.map pl)] : Store).set 1 (.lst false ((acc.map pl).take (((acc.map pl).length : Nat) : Int).toNat ++ pl one :: (acc.map pl).drop (((acc.map pl).length : Nat) : Int).toNat))) else none) = _
      have hb : Nat.blt (acc.map pl).length sizeLine = true := by rw [sizeLine_eq]; exact Nat.blt_eq.mpr (by rw [List.length_map]; omega)
      rw [hb, Int.toNat_natCast, List.take_length, List.drop_length, List.map_append]
      simp
    refine loop_cons (loopF_ok (env1 := [some (.loc 0), some (.loc 1), some (pl one), y]) rfl (Ess.nx (Es.ex (Ev.met (Ev.var rfl) rfl (EvA.cons (Ev.blt (EvA.cons (Ev.lc (EvA.cons (Ev.var rfl) EvA.nil) rfl (fit_small (by rw [List.length_map]; omega)) k2 (fit_small (by rw [List.length_map]; omega))) EvA.nil) rfl) (EvA.cons (Ev.var rfl) EvA.nil)) k3)) Ess.nil) rfl)
theorem asc_c {n : Nat} {ps : List (List Nat)} (hp : ps.Pairwise plt) (hl : ps.length ≤ 9000) : (Cn (n + 1)).call "_law_ascending" [.loc 0] [.lst false (ps.map pl)] = some (.ok (.loc 1) [.lst false (ps.map pl), .lst false (ps.map pl)]) := by
  rw [call_s (F := Hd.v__law_ascending) (by kernel_rfl)]
  obtain ⟨x, y, hw⟩ := asc_l (C := Cn n) (xs0 := ps.map pl) ps [] (x := none) (y := none) (by simpa using hp) (by simpa using hl)
  have k1 := wl_eq (st := [.lst false (ps.map pl), .lst false []]) (n := 0) (xs := ps.map pl) rfl hw rfl
  exact run_rt rfl (Ess.nx (Es.set (Ev.lstA EvA.nil rfl) (show (1 : Nat) < 4 by decide)) (Ess.nx (Es.loop (EvA.cons (Ev.var rfl) EvA.nil) rfl (noEr_some k1)) (Ess.rt (Es.ret (Ev.var rfl)))))
end Hd

end
section
open Wk PySem
set_option maxRecDepth 100000
set_option maxHeartbeats 2000000
namespace Hd
local macro_rules
  | `(tactic| trivial) => `(tactic| first
    | exact Ev.cst
    | exact Ev.var rfl
    | exact EvA.nil
    | (apply EvA.cons <;> trivial)
    | (apply Ev.ix <;> trivial)
    | (apply Ev.isi' <;> trivial)
    | (apply Ev.not' <;> trivial)
    | (apply Ev.cmp <;> trivial)
    | (apply Ev.bin <;> trivial)
    | (apply Ev.blt <;> trivial)
    | (apply Ev.call <;> trivial)
    | (apply Ev.orF <;> trivial)
    | (apply Ev.orT <;> trivial)
    | (apply Ev.andT <;> trivial)
    | (apply Ev.andF <;> trivial)
    | (apply Es.ret <;> trivial)
    | (apply Es.ex <;> trivial)
    | (apply Es.set <;> trivial)
    | (apply Ess.nx <;> trivial)
    | (apply Ess.rt <;> trivial)
    | exact Ess.nil
    | (apply Es.iffF <;> trivial)
    | (apply Es.iffT <;> trivial)
    | assumption
    | rfl
    | (simp [cmpD]; done))


theorem plt_cons {i : Nat} {a b : List Nat} (h : plt a b) : plt (i :: a) (i :: b) := by
  show (if ((i : Int) = (i : Int)) then HT.lexLt _ _ else _) = true
  rw [if_pos rfl]; exact h
theorem plt_lt {i j : Nat} {a b : List Nat} (h : i < j) : plt (i :: a) (j :: b) := by
  show (if ((i : Int) = (j : Int)) then HT.lexLt _ _ else decide ((i : Int) < (j : Int))) = true
  rw [if_neg (by omega)]; exact decide_eq_true (by omega)
theorem zip_lt {α : Type} : ∀ {ps : List α} {k : Nat}, (∀ z ∈ ps.zipIdx k, k ≤ z.2) ∧ (ps.zipIdx k).Pairwise fun a b => a.2 < b.2
  | [], k => by simp
  | p :: ps, k => by
    obtain ⟨h1, h2⟩ := zip_lt (ps := ps) (k := k + 1)
    rw [List.zipIdx_cons]
    refine ⟨fun z hz => ?_, List.pairwise_cons.mpr ⟨fun z hz => by have := h1 z hz; show k < z.2; omega, h2⟩⟩
    rcases List.mem_cons.mp hz with e | e
    · subst e; exact Nat.le_refl _
    · have := h1 z e; omega
theorem plcs_sorted : ∀ {h : Nat} {d : D}, (plcs h d).Pairwise plt
  | 0, _ => List.Pairwise.nil
  | h + 1, d => by
    refine List.pairwise_cons.mpr ⟨fun x hx => ?_, ?_⟩
    · obtain ⟨e, he, z⟩ := List.mem_flatMap.mp hx
      obtain ⟨r, hr, rfl⟩ := List.mem_map.mp z
      rfl
    · refine List.pairwise_flatMap.mpr ⟨fun e he => List.pairwise_map.mpr (List.Pairwise.imp (fun z => plt_cons z) (plcs_sorted (h := h) (d := e.1))), ?_⟩
      refine List.Pairwise.imp (fun {a b} hab x hx y hy => ?_) (zip_lt (ps := parts d) (k := 0)).2
      obtain ⟨r, _, rfl⟩ := List.mem_map.mp hx
      obtain ⟨t, _, rfl⟩ := List.mem_map.mp hy
      exact plt_lt hab
/-! numbers -/
theorem emod_lt {a m : Int} (h : 0 < m) : 0 ≤ a % m ∧ a % m < m := ⟨Int.emod_nonneg a (by omega), Int.emod_lt_of_pos a h⟩
theorem abs_lt {a : Int} {n : Nat} (h1 : 0 ≤ a) (h2 : a < (n : Int)) : a.natAbs < n := by omega
theorem mixed_c {n : Nat} {c k : Int} (h1 : 0 ≤ k) (h2 : k < 2 ^ 60) : ∃ v : Int, 0 ≤ v ∧ v < 2147483579 ∧ (Cn (n + 1)).call "_law_mixed" [.int c, .int k] [] = some (.ok (.int v) []) := by
  have p1 := emod_lt (a := c) (m := 2147483647) (by decide)
  let a : Int := ((c % 2147483647) * 48271 + k * 69621 + 1048583) % 2147483629
  have p2 : 0 ≤ a ∧ a < 2147483629 := emod_lt (by decide)
  let b : Int := (a * a) % 2147483587
  have p3 : 0 ≤ b ∧ b < 2147483587 := emod_lt (by decide)
  have p4 := emod_lt (a := b * (b + 2)) (m := 2147483579) (by decide)
  refine ⟨(b * (b + 2)) % 2147483579, p4.1, p4.2, ?_⟩
  rw [call_s (F := Hd.v__law_mixed) (by kernel_rfl)]
  have q1 : ∀ st, binD .Mod (.int c) (.int 2147483647) st = some (.int (c % 2147483647)) := fun st => modI (by decide)
  have q2 : ∀ st, binD .Mult (.int (c % 2147483647)) (.int 48271) st = some (.int ((c % 2147483647) * 48271)) := fun st => mulI (by omega) (by decide)
  have q3 : ∀ st, binD .Mult (.int k) (.int 69621) st = some (.int (k * 69621)) := fun st => mulI (by omega) (by decide)
  have q4 : ∀ st, binD .Mod (.int ((c % 2147483647) * 48271 + k * 69621 + 1048583)) (.int 2147483629) st = some (.int a) := fun st => modI (by decide)
  have q5 : ∀ st, binD .Mult (.int a) (.int a) st = some (.int (a * a)) := fun st => mulI (by omega) (by omega)
  have q6 : ∀ st, binD .Mod (.int (a * a)) (.int 2147483587) st = some (.int b) := fun st => modI (by decide)
  have q7 : ∀ st, binD .Mult (.int b) (.int (b + 2)) st = some (.int (b * (b + 2))) := fun st => mulI (by omega) (by omega)
  have q8 : ∀ st, binD .Mod (.int (b * (b + 2))) (.int 2147483579) st = some (.int ((b * (b + 2)) % 2147483579)) := fun st => modI (by decide)
  exact run_rt rfl (Ess.nx (Es.set (Ev.bin (Ev.blt (EvA.cons (Ev.bin (Ev.bin (Ev.bin (Ev.bin (Ev.blt (EvA.cons (Ev.var rfl) EvA.nil) rfl) Ev.cst (q1 _)) Ev.cst (q2 _)) (Ev.bin (Ev.var rfl) Ev.cst (q3 _)) rfl) Ev.cst rfl) EvA.nil) rfl) Ev.cst (q4 _)) (show (2 : Nat) < 3 by decide)) (Ess.nx (Es.set (Ev.bin (Ev.blt (EvA.cons (Ev.bin (Ev.var rfl) (Ev.var rfl) (q5 _)) EvA.nil) rfl) Ev.cst (q6 _)) (show (2 : Nat) < 3 by decide))
    (Ess.rt (Es.ret (Ev.bin (Ev.blt (EvA.cons (Ev.bin (Ev.var rfl) (Ev.bin (Ev.var rfl) Ev.cst rfl) (q7 _)) EvA.nil) rfl) Ev.cst (q8 _))))))
theorem big_c : ∃ M : Int, 0 < M ∧ ∀ (C : Wk.Ctx) (env : Wk.Env) (st : Store), Ev C env (.bin .Mult (.bin .Mult (.bin .Mult (.bin .Pow (.cst (.int 10)) (.cst (.int 60))) (.bin .Pow (.cst (.int 10)) (.cst (.int 60)))) (.bin .Pow (.cst (.int 10)) (.cst (.int 60)))) (.bin .Pow (.cst (.int 10)) (.cst (.int 60)))) st (.int M) st :=
  ⟨10 ^ 240, by decide +kernel, fun C env st => by
    show evE C _ env st = _
    kernel_rfl⟩
theorem pow18 : ∃ M : Int, ∀ (C : Wk.Ctx) (env : Wk.Env) (st : Store), Ev C env (.bin .Pow (.cst (.int 10)) (.cst (.int 18))) st (.int M) st :=
  ⟨10 ^ 18, fun C env st => by
    show evE C _ env st = _
    kernel_rfl⟩
theorem pile_c {n k : Nat} {ns : List Int} (hk : k < 1000) : ∃ a b : Int, (Cn (n + 1)).call "_law_pile" [.scr ns, .int (k : Nat)] [] = some (.ok (.loc 0) [.lst false [.int a, .int b, .int (1000 * (k : Nat))]]) := by
  have s1 : ∃ l : List Int, sliceD [] (.scr ns) none (some 1) = some (.lst (l.map D.int)) := by
    refine ⟨ns.take 1, ?_⟩
    show some (D.lst (cutD (ns.map D.int) none (some ((1 : Nat) : Int)))) = _
    unfold cutD
    rw [HT.sIx_none, HT.sIx_nat, List.map_take]
    congr 2
    rw [List.drop_zero, Nat.sub_zero, List.length_map]
    cases ns <;> simp
  obtain ⟨l, s1⟩ := s1
  have s2 : bltD "sum" [.lst (l.map D.int)] [] = some (.int l.sum) := by
    show ((some (l.map D.int)).bind intsOf).map _ = _
    rw [Option.bind_some, intsL]; rfl
  have s3 : ∀ st, binD .Mod (.int l.sum) (.int 1000003) st = some (.int (l.sum % 1000003)) := fun st => modI (by decide)
  obtain ⟨M, hM, big⟩ := big_c
  obtain ⟨T, p18⟩ := pow18
  have s5 : ∀ (b : Int) st, binD .Mod (.int b) (.int M) st = some (.int (b % M)) := fun b st => modI hM
  have s6 : ∀ st, binD .Mult (.int 1000) (.int (k : Nat)) st = some (.int (1000 * (k : Nat))) := fun st => mulI (by decide) (by omega)
  rw [call_s (F := Hd.v__law_pile) (by kernel_rfl)]
  by_cases hl : k < ns.length
  · have c1 : cmpD .Lt (.int (k : Nat)) (.int (ns.length : Nat)) [] = some true := by
      show some (decide ((k : Int) < (ns.length : Int))) = _
      congr 1; exact decide_eq_true (by omega)
    have c2 : ixD [] (.scr ns) (.int (k : Nat)) = some (.int ns[k]) := by
      show (L2.atI ns (k : Nat)).map D.int = _
      simp [L2.atI, L2.ixN, hl]
    exact ⟨_, _, run_rt rfl (Ess.nx (Es.set (Ev.bin (Ev.blt (EvA.cons (Ev.sl (Ev.var rfl) Ev.cst rfl Ev.cst rfl s1) EvA.nil) s2) Ev.cst (s3 _)) (show (2 : Nat) < 3 by decide)) (Ess.nx (Es.iffT (Ev.cmp (Ev.var rfl) (Ev.blt (EvA.cons (Ev.var rfl) EvA.nil) rfl) c1) (Ess.nx (Es.set (Ev.ix (Ev.var rfl) (Ev.var rfl) c2) (show (2 : Nat) < 3 by decide)) Ess.nil))
      (Ess.rt (Es.ret (Ev.lstA (EvA.cons (Ev.bin (Ev.blt (EvA.cons (Ev.blt (EvA.cons (Ev.bin (Ev.var rfl) (p18 _ _ _) rfl) (EvA.cons Ev.cst EvA.nil)) rfl) EvA.nil) rfl) (big _ _ _) (s5 _ _)) (EvA.cons (Ev.var rfl) (EvA.cons (Ev.bin Ev.cst (Ev.var rfl) (s6 _)) EvA.nil))) rfl)))))⟩
  · have c1 : cmpD .Lt (.int (k : Nat)) (.int (ns.length : Nat)) [] = some false := by
      show some (decide ((k : Int) < (ns.length : Int))) = _
      congr 1; exact decide_eq_false (by omega)
    exact ⟨_, _, run_rt rfl (Ess.nx (Es.set (Ev.bin (Ev.blt (EvA.cons (Ev.sl (Ev.var rfl) Ev.cst rfl Ev.cst rfl s1) EvA.nil) s2) Ev.cst (s3 _)) (show (2 : Nat) < 3 by decide)) (Ess.nx (Es.iffF (Ev.cmp (Ev.var rfl) (Ev.blt (EvA.cons (Ev.var rfl) EvA.nil) rfl) c1) Ess.nil)
      (Ess.rt (Es.ret (Ev.lstA (EvA.cons (Ev.bin (Ev.blt (EvA.cons (Ev.blt (EvA.cons (Ev.bin (Ev.var rfl) (p18 _ _ _) rfl) (EvA.cons Ev.cst EvA.nil)) rfl) EvA.nil) rfl) (big _ _ _) (s5 _ _)) (EvA.cons (Ev.var rfl) (EvA.cons (Ev.bin Ev.cst (Ev.var rfl) (s6 _)) EvA.nil))) rfl)))))⟩
end Hd

end
section
open Wk PySem
set_option maxRecDepth 100000
set_option maxHeartbeats 2000000
namespace Hd
local macro_rules
  | `(tactic| trivial) => `(tactic| first
    | exact Ev.cst
    | exact Ev.var rfl
    | exact EvA.nil
    | (apply EvA.cons <;> trivial)
    | (apply Ev.ix <;> trivial)
    | (apply Ev.isi' <;> trivial)
    | (apply Ev.not' <;> trivial)
    | (apply Ev.cmp <;> trivial)
    | (apply Ev.bin <;> trivial)
    | (apply Ev.blt <;> trivial)
    | (apply Ev.call <;> trivial)
    | (apply Ev.orF <;> trivial)
    | (apply Ev.orT <;> trivial)
    | (apply Ev.andT <;> trivial)
    | (apply Ev.andF <;> trivial)
    | (apply Es.ret <;> trivial)
    | (apply Es.ex <;> trivial)
    | (apply Es.set <;> trivial)
    | (apply Ess.nx <;> trivial)
    | (apply Ess.rt <;> trivial)
    | exact Ess.nil
    | (apply Es.iffF <;> trivial)
    | (apply Es.iffT <;> trivial)
    | assumption
    | rfl
    | (simp [cmpD]; done))


abbrev pst (a b c : Int) : Store := [.lst false [.int a, .int b, .int c]]
theorem bits_c {C : Wk.Ctx} {x y z : Option D} {a b c : Int} : Ev C [x, some (.int 4), y, z] (.bin .Add (.cst (.int 1)) (.bin .FloorDiv (.met "bit_length" (.var 1) .nil) (.cst (.int 28)))) (pst a b c) (.int 1) (pst a b c) := by
  show evE C _ _ _ = _
  kernel_rfl
theorem take_c {n : Nat} {a b c : Int} (h1 : 0 ≤ c) (h2 : c < 2 ^ 58) : ∃ d a' c' : Int, 0 ≤ d ∧ d < 4 ∧ c ≤ c' ∧ c' ≤ c + 1 ∧ (Cn (n + 2)).call "_law_take" [.loc 0, .int 4] (pst a b c) = some (.ok (.int d) (pst a' b c')) := by
  rw [call_s (F := Hd.v__law_take) (by kernel_rfl)]
  by_cases ha : 0 < a
  · have c1 : cmpD .Gt (.int a) (.int 0) (pst a b c) = some true := by
      show some (decide ((0 : Int) < a)) = _
      congr 1; exact decide_eq_true ha
    have c2 : ∀ st, binD .Mod (.int a) (.int 4) st = some (.int (a % 4)) := fun st => modI (by decide)
    have c3 : ∀ st, binD .FloorDiv (.int a) (.int 4) st = some (.int (a / 4)) := fun st => fdivI (by decide) (by decide)
    have p := emod_lt (a := a) (m := 4) (by decide)
    exact ⟨a % 4, a / 4, c, p.1, p.2, Int.le_refl _, by omega, run_rt rfl (Ess.rt (Es.iffT (Ev.cmp (Ev.ix (Ev.var rfl) Ev.cst rfl) Ev.cst c1) (Ess.nx (Es.set (Ev.bin (Ev.blt (EvA.cons (Ev.ix (Ev.var rfl) Ev.cst rfl) EvA.nil) rfl) (Ev.var rfl) (c2 _)) (show (2 : Nat) < 4 by decide)) (Ess.nx (Es.six (Ev.bin (Ev.ix (Ev.var rfl) Ev.cst rfl) (Ev.var rfl) (c3 _)) (Ev.var rfl) Ev.cst rfl) (Ess.rt (Es.ret (Ev.var rfl)))))))⟩
  · have c1 : cmpD .Gt (.int a) (.int 0) (pst a b c) = some false := by
      show some (decide ((0 : Int) < a)) = _
      congr 1; exact decide_eq_false ha
    obtain ⟨v, v1, v2, hv⟩ := mixed_c (n := n) (c := b) (k := c + 1) (by omega) (by omega)
    have k1 : callD (Cn (n + 1)) false "_law_mixed" [.int b, .int (c + 1)] (pst a b (c + 1)) = some (Out.ok (.int v) (pst a b (c + 1))) := callD_p hv rfl rfl
    have c2 : ∀ st, binD .Mod (.int (0 * 2147483579 + v)) (.int 4) st = some (.int ((0 * 2147483579 + v) % 4)) := fun st => modI (by decide)
    have c3 : ∀ st, binD .Mult (.int 0) (.int 2147483579) st = some (.int (0 * 2147483579)) := fun st => mulI (by decide) (by decide)
    have p := emod_lt (a := 0 * 2147483579 + v) (m := 4) (by decide)
    have hw : loopM (loopF (Cn (n + 1)) (.nm 3) (v__law_take.body.at_ 2).body) ((List.range 1).map fun (i : Nat) => .int (i : Int)) [some (.loc 0), some (.int 4), some (.int 0), none] (pst a b c) = some (.ok (.nx [some (.loc 0), some (.int 4), some (.int (0 * 2147483579 + v)), some (.int 0)]) (pst a b (c + 1))) := by
      show loopM _ [D.int 0] _ _ = _
      refine (loop_cons (loopF_ok (env1 := [some (.loc 0), some (.int 4), some (.int 0), some (.int 0)]) rfl (Ess.nx (Es.six (Ev.bin (Ev.ix (Ev.var rfl) Ev.cst rfl) Ev.cst rfl) (Ev.var rfl) Ev.cst rfl) (Ess.nx (Es.set (Ev.bin (Ev.bin (Ev.var rfl) Ev.cst (c3 _)) (Ev.call (EvA.cons (Ev.ix (Ev.var rfl) Ev.cst rfl) (EvA.cons (Ev.ix (Ev.var rfl) Ev.cst rfl) EvA.nil)) k1) rfl) (show (2 : Nat) < 4 by decide)) Ess.nil)) rfl)).trans ?_
      rfl
    exact ⟨(0 * 2147483579 + v) % 4, a, c + 1, p.1, p.2, by omega, by omega, run_rt rfl (Ess.nx (Es.iffF (Ev.cmp (Ev.ix (Ev.var rfl) Ev.cst rfl) Ev.cst c1) Ess.nil) (Ess.nx (Es.set Ev.cst (show (2 : Nat) < 4 by decide)) (Ess.nx (Es.loopN (EvA.cons bits_c EvA.nil) (it_range (n := 1) (by decide)) hw) (Ess.rt (Es.ret (Ev.bin (Ev.blt (EvA.cons (Ev.var rfl) EvA.nil) rfl) (Ev.var rfl) (c2 _)))))))⟩
def tk : Nat → Nat
  | 0 => 1
  | d + 1 => 2 + 3 * tk d
theorem pick {d : Int} (h1 : 0 ≤ d) (h2 : d < 4) : ∃ x, NmOk x ∧ ∀ st, ixD st (.lst [.str "a", .str "b", .str "cc", .str "a"]) (.int d) = some (.str x) := by
  have : d = 0 ∨ d = 1 ∨ d = 2 ∨ d = 3 := by omega
  rcases this with rfl | rfl | rfl | rfl
  · exact ⟨"a", .inl rfl, fun _ => rfl⟩
  · exact ⟨"b", .inr (.inl rfl), fun _ => rfl⟩
  · exact ⟨"cc", .inr (.inr (.inl rfl)), fun _ => rfl⟩
  · exact ⟨"a", .inl rfl, fun _ => rfl⟩
theorem draws {f : D → M (Option D)} {h t : Nat} {b : Int} (hf : ∀ (x : D) (a c : Int), 0 ≤ c → c + t < 2 ^ 58 → ∃ d a' c', IsDoc h d ∧ c ≤ c' ∧ c' ≤ c + t ∧ f x (pst a b c) = some (.ok (some d) (pst a' b c'))) :
    ∀ (xs : List D) (a c : Int), 0 ≤ c → c + xs.length * t < 2 ^ 58 → ∃ ds a' c', (∀ d ∈ ds, IsDoc h d) ∧ ds.length = xs.length ∧ c ≤ c' ∧ c' ≤ c + xs.length * t ∧ eachM f xs (pst a b c) = some (.ok ds (pst a' b c'))
  | [], a, c, _, _ => ⟨[], a, c, fun _ z => (nomatch z), rfl, Int.le_refl _, by simp, rfl⟩
  | x :: xs, a, c, h1, h2 => by
    have e : ((x :: xs).length : Int) * t = xs.length * t + t := by rw [List.length_cons, Int.natCast_succ, Int.add_mul]; omega
    rw [e] at h2
    have hp : (0 : Int) ≤ xs.length * t := by exact_mod_cast Nat.zero_le (xs.length * t)
    obtain ⟨d, a1, c1, q, l1, l2, e1⟩ := hf x a c h1 (by omega)
    obtain ⟨ds, a2, c2, qs, hn, m1, m2, e2⟩ := draws hf xs a1 c1 (by omega) (by omega)
    refine ⟨d :: ds, a2, c2, fun y hy => (List.mem_cons.mp hy).elim (fun z => z ▸ q) (qs y), by simp [hn], by omega, by rw [e]; omega, ?_⟩
    show M.bind (f x) _ _ = _
    rw [bind_ok e1]; show M.bind (eachM f xs) _ _ = _
    rw [bind_ok e2]; rfl
theorem drawn_c {b : Int} : ∀ (deep n : Nat) (a c : Int), 0 ≤ c → c + tk deep < 2 ^ 58 → ∃ d a' c', IsDoc (deep + 1) d ∧ c ≤ c' ∧ c' ≤ c + tk deep ∧ (Cn (n + deep + 3)).call "_law_drawn" [.loc 0, .int (deep : Nat)] (pst a b c) = some (.ok d (pst a' b c'))
  | 0, n, a, c, h1, h2 => by
    rw [call_s (F := Hd.v__law_drawn) (by kernel_rfl)]
    obtain ⟨g, a1, c1, g1, g2, l1, l2, hv⟩ := take_c (n := n) (a := a) (b := b) (c := c) h1 (by simp [tk] at h2; omega)
    have k1 : callD (Cn (n + 0 + 2)) false "_law_take" [.loc 0, .int 4] (pst a b c) = some (Out.ok (.int g) (pst a1 b c1)) := callD_mi rfl rfl hv rfl rfl
    obtain ⟨x, hx, hix⟩ := pick g1 g2
    refine ⟨.tup [.str x, .tup []], a1, c1, ⟨x, [], rfl, hx, by simp, fun _ z => nomatch z⟩, l1, by simp [tk]; omega, ?_⟩
    exact run_rt rfl (Ess.nx (Es.set (Ev.lst EvA.nil rfl) (show (2 : Nat) < 4 by decide)) (Ess.nx (Es.iffF (Ev.cmp (r := false) (Ev.var rfl) Ev.cst rfl) Ess.nil) (Ess.rt (Es.ret (Ev.tup (EvA.cons (Ev.ix (Ev.lst (EvA.cons Ev.cst (EvA.cons Ev.cst (EvA.cons Ev.cst (EvA.cons Ev.cst EvA.nil)))) rfl) (Ev.call (EvA.cons (Ev.var rfl) (EvA.cons Ev.cst EvA.nil)) k1) (hix _)) (EvA.cons (Ev.blt (EvA.cons (Ev.var rfl) EvA.nil) rfl) EvA.nil)) rfl)))))
  | deep + 1, n, a, c, h1, h2 => by
    rw [call_s (F := Hd.v__law_drawn) (by kernel_rfl)]
    have htk : tk (deep + 1) = 2 + 3 * tk deep := rfl
    obtain ⟨g, a1, c1, g1, g2, l1, l2, hv⟩ := take_c (n := n + deep + 1) (a := a) (b := b) (c := c) h1 (by omega)
    have k1 : callD (Cn (n + (deep + 1) + 2)) false "_law_take" [.loc 0, .int 4] (pst a b c) = some (Out.ok (.int g) (pst a1 b c1)) := callD_mi rfl rfl hv rfl rfl
    obtain ⟨m, rfl⟩ : ∃ m : Nat, g = (m : Nat) := ⟨g.toNat, by omega⟩
    have hm : m ≤ 3 := by omega
    have hmt : (m : Int) * tk deep ≤ 3 * tk deep := by exact_mod_cast Nat.mul_le_mul_right (tk deep) hm
    obtain ⟨ds, a2, c2, qs, hn, m1, m2, e2⟩ := draws (h := deep + 1) (t := tk deep) (b := b) (f := lcF (Cn (n + (deep + 1) + 2)) (.call false "_law_drawn" (.cons false (.var 0) (.cons false (.bin .Sub (.var 1) (.cst (.int 1))) .nil))) (.nm 3) false (.cst .non) [3] [some (.loc 0), some (.int ((deep + 1 : Nat) : Int)), some (.lst []), none])
      (fun x a c h1 h2 => by
        obtain ⟨d, a', c', q, p1, p2, hd⟩ := drawn_c (b := b) deep n a c h1 h2
        refine ⟨d, a', c', q, p1, p2, lcF_ok (env' := [some (.loc 0), some (.int ((deep + 1 : Nat) : Int)), some (.lst []), some x]) rfl (Ev.call (EvA.cons (Ev.var rfl) (EvA.cons (Ev.bin (Ev.var rfl) Ev.cst rfl) EvA.nil)) ?_)⟩
        have e : ((deep + 1 : Nat) : Int) - 1 = (deep : Nat) := by omega
        rw [e]
        exact callD_mi rfl rfl hd (doc_pure q) rfl) ((List.range m).map fun (i : Nat) => .int (i : Int)) a1 c1 (by omega) (by rw [List.length_map, List.length_range]; omega)
    rw [List.length_map, List.length_range] at hn m2
    obtain ⟨g', a3, c3, g3, g4, l3, l4, hv2⟩ := take_c (n := n + deep + 1) (a := a2) (b := b) (c := c2) (by omega) (by omega)
    have k3 : callD (Cn (n + (deep + 1) + 2)) false "_law_take" [.loc 0, .int 4] (pst a2 b c2) = some (Out.ok (.int g') (pst a3 b c3)) := callD_mi rfl rfl hv2 rfl rfl
    obtain ⟨x, hx, hix⟩ := pick g3 g4
    have cg : cmpD .Gt (.int ((deep + 1 : Nat) : Int)) (.int 0) (pst a b c) = some true := by
      show some (decide ((0 : Int) < ((deep + 1 : Nat) : Int))) = _
      congr 1; exact decide_eq_true (by omega)
    refine ⟨.tup [.str x, .tup ds], a3, c3, ⟨x, ds, rfl, hx, by omega, qs⟩, by omega, by omega, ?_⟩
    exact run_rt rfl (Ess.nx (Es.set (Ev.lst EvA.nil rfl) (show (2 : Nat) < 4 by decide)) (Ess.nx (Es.iffT (Ev.cmp (Ev.var rfl) Ev.cst cg) (Ess.nx (Es.set (Ev.lc (EvA.cons (Ev.call (EvA.cons (Ev.var rfl) (EvA.cons Ev.cst EvA.nil)) k1) EvA.nil) (it_range (n := m) (by omega)) (fit_small (by rw [List.length_map, List.length_range]; omega)) e2 (fit_small (by omega))) (show (2 : Nat) < 4 by decide)) Ess.nil)) (Ess.rt (Es.ret (Ev.tup (EvA.cons (Ev.ix (Ev.lst (EvA.cons Ev.cst (EvA.cons Ev.cst (EvA.cons Ev.cst (EvA.cons Ev.cst EvA.nil)))) rfl) (Ev.call (EvA.cons (Ev.var rfl) (EvA.cons Ev.cst EvA.nil)) k3) (hix _)) (EvA.cons (Ev.blt (EvA.cons (Ev.var rfl) EvA.nil) rfl) EvA.nil)) rfl)))))
end Hd

end
section
open Wk PySem
set_option maxRecDepth 100000
set_option maxHeartbeats 0
namespace Hd
def restS : Sxs → Sxs
  | .cons _ r => r
  | .nil => .nil
theorem tail_c (ns : List Int) (k1 k4 : Int) : ∃ st, Ess (Cn 99) [some (.scr ns), some (.int k1), none, none, some (.int k4), none] (restS v_law.body) [] (.rt (.bl true)) st := by
  refine ⟨[], ?_⟩
  show evSs (Cn 99) (restS v_law.body) [some (.scr ns), some (.int k1), none, none, some (.int k4), none] [] = some (.ok (.rt (.bl true)) [])
  kernel_rfl
end Hd

end
section
open Wk PySem
set_option maxRecDepth 100000
set_option maxHeartbeats 2000000
namespace Hd
local macro_rules
  | `(tactic| trivial) => `(tactic| first
    | exact Ev.cst
    | exact Ev.var rfl
    | exact EvA.nil
    | (apply EvA.cons <;> trivial)
    | (apply Ev.ix <;> trivial)
    | (apply Ev.isi' <;> trivial)
    | (apply Ev.not' <;> trivial)
    | (apply Ev.cmp <;> trivial)
    | (apply Ev.bin <;> trivial)
    | (apply Ev.blt <;> trivial)
    | (apply Ev.call <;> trivial)
    | (apply Ev.orF <;> trivial)
    | (apply Ev.orT <;> trivial)
    | (apply Ev.andT <;> trivial)
    | (apply Ev.andF <;> trivial)
    | (apply Es.ret <;> trivial)
    | (apply Es.ex <;> trivial)
    | (apply Es.set <;> trivial)
    | (apply Ess.nx <;> trivial)
    | (apply Ess.rt <;> trivial)
    | exact Ess.nil
    | (apply Es.iffF <;> trivial)
    | (apply Es.iffT <;> trivial)
    | assumption
    | rfl
    | (simp [cmpD]; done))


def shb : Nat → Nat
  | 0 => 0
  | h + 1 => 2 * (3 * (shb h + 2) + 11) + 3
theorem nm_pd {x : Str} (h : NmOk x) : Pd 0 6 (.str x) := by
  rcases h with rfl | rfl | rfl | rfl | rfl <;> exact Pd.str (okS_lit (by decide +kernel)) (by decide +kernel) (okS_lit (by decide +kernel))
theorem doc_pd : ∀ {h : Nat} {d : D}, IsDoc h d → Pd (2 * h) (shb h) d
  | 0, _, q => q.elim
  | h + 1, d, q => by
    obtain ⟨x, ps, rfl, hx, hl, k, e, hq⟩ := doc_cut q
    cases e
    have p1 : Pd (2 * h + 1) (3 * (shb h + 2) + 3) (.tup ps) := (Pd.tup fun p hp => doc_pd (hq p hp)).mono (Nat.le_refl _) (by have := Nat.mul_le_mul_right (shb h + 2) hl; omega)
    have p2 : Pd (2 * h + 1 + 1) (2 * ((3 * (shb h + 2) + 9) + 2) + 3) (.tup [.str x, .tup ps]) := Pd.tup (ds := [.str x, .tup ps]) fun z hz => by
      rcases List.mem_cons.mp hz with e | e
      · subst e; exact (nm_pd hx).mono (by omega) (by omega)
      · rcases List.mem_cons.mp e with e | e
        · subst e; exact p1.mono (Nat.le_refl _) (by omega)
        · cases e
    exact p2.mono (by omega) (by show _ ≤ 2 * (3 * (shb h + 2) + 11) + 3; omega)
theorem int_pd {i : Nat} (h : i < 3) : Pd 0 1 (.int (i : Int)) := by
  have : i = 0 ∨ i = 1 ∨ i = 2 := by omega
  rcases this with rfl | rfl | rfl
  · exact ⟨.int 0, rfl, rfl, Nat.le_refl _, by decide +kernel, by decide +kernel, okS_lit (by decide +kernel)⟩
  · exact ⟨.int 1, rfl, rfl, Nat.le_refl _, by decide +kernel, by decide +kernel, okS_lit (by decide +kernel)⟩
  · exact ⟨.int 2, rfl, rfl, Nat.le_refl _, by decide +kernel, by decide +kernel, okS_lit (by decide +kernel)⟩
theorem pl_pd {p : List Nat} (h : ∀ i ∈ p, i < 3) (hl : p.length ≤ 10) : Pd 1 33 (pl p) := by
  have := Pd.tup (dep := 0) (sh := 1) (ds := p.map fun (i : Nat) => D.int (i : Int)) fun z hz => by
    obtain ⟨i, hi, rfl⟩ := List.mem_map.mp hz
    exact int_pd (h i hi)
  exact this.mono (by omega) (by rw [List.length_map]; omega)
theorem plcs_sub : ∀ {h : Nat} {d : D} {p : List Nat}, IsDoc h d → p ∈ plcs h d → (∃ e, subD d p = some e) ∧ ∀ i ∈ p, i < 3
  | 0, _, _, q, _ => q.elim
  | h + 1, d, p, q, hp => by
    obtain ⟨x, ps, rfl, _, hl, k, e, hq⟩ := doc_cut q
    cases e
    have hp : p ∈ ([] : List Nat) :: ps.zipIdx.flatMap fun e => (plcs h e.1).map (e.2 :: ·) := hp
    rcases List.mem_cons.mp hp with z | z
    · subst z; exact ⟨⟨_, rfl⟩, fun _ z => nomatch z⟩
    · obtain ⟨e, he, z⟩ := List.mem_flatMap.mp z
      obtain ⟨r, hr, rfl⟩ := List.mem_map.mp z
      obtain ⟨i, hi, e'⟩ := List.getElem_of_mem he
      have hi' : i < ps.length := by simpa using hi
      have e1 : e = (ps[i], i) := by rw [← e']; simp
      subst e1
      have hm : ps[i] ∈ ps := List.getElem_mem hi'
      obtain ⟨⟨y, hy⟩, hb⟩ := plcs_sub (hq _ hm) hr
      refine ⟨⟨y, ?_⟩, fun j hj => ?_⟩
      · show (ps[i]?).bind (fun e => subD e r) = _
        rw [List.getElem?_eq_getElem hi']; exact hy
      · rcases List.mem_cons.mp hj with z | z
        · rw [z]; omega
        · exact hb j z
theorem put_same : ∀ {p : List Nat} {h : Nat} {d e : D}, IsDoc h d → subD d p = some e → putD d p e = d
  | [], h, d, e, q, hs => by cases hs; rfl
  | i :: p, h, d, e, q, hs => by
    obtain ⟨nm0, ps, rfl, hn, hl, j, rfl, hq⟩ := doc_cut q
    have hs : (ps[i]?).bind (fun e => subD e p) = some e := hs
    cases hi : ps[i]? with
    | none => rw [hi] at hs; cases hs
    | some d' =>
      rw [hi] at hs
      have hlt := (List.getElem?_eq_some_iff.mp hi).1
      have e0 : putD (.tup [.str nm0, .tup ps]) (i :: p) e = .tup [.str nm0, .tup (ps.take i ++ (putD d' p e :: ps.drop (i + 1)))] := by
        show (match ps[i]? with | some e => _ | none => _) = _
        rw [hi]; rfl
      rw [e0, put_same (hq d' (List.mem_of_getElem? hi)) hs, ← set_cut hlt]
      have : ps[i] = d' := by rw [List.getElem?_eq_getElem hlt] at hi; exact Option.some.inj hi
      rw [← this, List.set_getElem_self]
end Hd

end
section
open Wk PySem
set_option maxRecDepth 100000
set_option maxHeartbeats 1000000
namespace Hd
local macro_rules
  | `(tactic| trivial) => `(tactic| first
    | exact Ev.cst
    | exact Ev.var rfl
    | exact EvA.nil
    | (apply EvA.cons <;> trivial)
    | (apply Ev.ix <;> trivial)
    | (apply Ev.isi' <;> trivial)
    | (apply Ev.not' <;> trivial)
    | (apply Ev.cmp <;> trivial)
    | (apply Ev.bin <;> trivial)
    | (apply Ev.blt <;> trivial)
    | (apply Ev.call <;> trivial)
    | (apply Ev.orF <;> trivial)
    | (apply Ev.orT <;> trivial)
    | (apply Ev.andT <;> trivial)
    | (apply Ev.andF <;> trivial)
    | (apply Es.ret <;> trivial)
    | (apply Es.ex <;> trivial)
    | (apply Es.set <;> trivial)
    | (apply Ess.nx <;> trivial)
    | (apply Ess.rt <;> trivial)
    | exact Ess.nil
    | (apply Es.iffF <;> trivial)
    | (apply Es.iffT <;> trivial)
    | assumption
    | rfl
    | (simp [cmpD]; done))


theorem nms_pd : ∀ {p : List Nat} {h : Nat} {d : D}, IsDoc h d → ∀ z ∈ nmD d :: nms d p, Pd 0 6 z := by
  intro p h d q z hz
  have nd : ∀ {h : Nat} {d : D}, IsDoc h d → Pd 0 6 (nmD d) := fun {h d} q => by
    obtain ⟨x, ps, rfl, hx, _⟩ := doc_cut q
    exact nm_pd hx
  have rest : ∀ {p : List Nat} {h : Nat} {d : D}, IsDoc h d → ∀ z ∈ nms d p, Pd 0 6 z := by
    intro p
    induction p with
    | nil => intro h d q z hz; cases hz
    | cons i p ih =>
      intro h d q z hz
      obtain ⟨nm0, ps, rfl, hn, hl, j, rfl, hq⟩ := doc_cut q
      have hz : z ∈ (match ps[i]? with | some e => nmD e :: nms e p | none => []) := hz
      cases hi : ps[i]? with
      | none => rw [hi] at hz; cases hz
      | some d' =>
        rw [hi] at hz
        have qd := hq d' (List.mem_of_getElem? hi)
        exact (List.mem_cons.mp hz).elim (fun e => e ▸ nd qd) (ih qd z)
  exact (List.mem_cons.mp hz).elim (fun e => e ▸ nd q) (rest q z)
theorem nms_len : ∀ {p : List Nat} {d : D}, (nms d p).length ≤ p.length
  | [], d => Nat.le_refl _
  | i :: p, d => by
    show (match (parts d)[i]? with | some e => nmD e :: nms e p | none => []).length ≤ _
    cases (parts d)[i]? with
    | none => simp
    | some e => have := nms_len (p := p) (d := e); simp; omega
/-- one place looked at -/
theorem good_turn {d o : D} {kept due : D} {p : List Nat} {e : D} {xs : List D} {y : Option D} (q : IsDoc 4 d) (qo : IsDoc 2 o) (hs : subD d p = some e) (hp : p.length < 5) :
    loopF (Cn 98) (.nm 5) (v__law_good.body.at_ 6).body (pl p) [some d, some o, some kept, some due, some (.loc 0), y] [.lst false xs] = some (.ok (.nx [some d, some o, some kept, some due, some (.loc 0), some (pl p)]) [.lst false xs]) := by
  obtain ⟨k, hk, qe⟩ := sub_doc q hs
  have pe := (doc_pd qe).mono (show 2 * k ≤ 20 by omega) (Nat.le_refl _)
  have pd := (doc_pd q).mono (show 2 * 4 ≤ 20 by omega) (Nat.le_refl _)
  have qp := put_doc qo q hs
  have pp := (doc_pd qp).mono (show 2 * (4 + 2) ≤ 20 by omega) (Nat.le_refl _)
  obtain ⟨st, hlp⟩ := law_put_c qo q hs (98 - p.length - 1)
  rw [show 98 - p.length - 1 + p.length + 1 = 98 by omega] at hlp
  generalize hN : (98 : Nat) = N60
  have a1 := at_c (n := 90) q hs
  have a2 := law_at_c (n := 97) q hs
  have a3 := way_c (n := 90) q hs (by omega)
  have a4 := law_way_c (n := 96) q hs (by omega)
  have a5 := put_c (n := 88 - p.length) q qo hs
  have a7 := put_c (n := 90 - k - p.length) q qe hs
  rw [put_same q hs] at a7
  rw [show 90 + 4 + 4 = N60 by omega] at a1 a3
  rw [show 97 + 1 = N60 by omega] at a2
  rw [show 96 + 2 = N60 by omega] at a4
  rw [show 88 - p.length + 4 + 2 + p.length + 4 = N60 by omega] at a5
  rw [show 90 - k - p.length + 4 + k + p.length + 4 = N60 by omega] at a7
  rw [hN] at hlp
  have k1 : callD (Cn N60) false "at" [d, pl p] [.lst false xs] = some (Out.ok e [.lst false xs]) := callD_p a1 (pair_pure (doc_pure q) pl_pure) (doc_pure qe)
  have k2 : callD (Cn N60) false "_law_at" [d, pl p] [.lst false xs] = some (Out.ok e [.lst false xs]) := callD_p a2 (pair_pure (doc_pure q) pl_pure) (doc_pure qe)
  have pw : (D.tup (nmD d :: nms d p)).pure = true := by
    obtain ⟨x, ps', e1, e2⟩ := doc_nm q
    show ((nmD d).pure && D.pures (nms d p)) = true
    rw [e2, nms_pure q]; rfl
  have k3 : callD (Cn N60) false "way" [d, pl p] [.lst false xs] = some (Out.ok (.tup (nmD d :: nms d p)) [.lst false xs]) := callD_p a3 (pair_pure (doc_pure q) pl_pure) pw
  have k4 : callD (Cn N60) false "_law_way" [d, pl p] [.lst false xs] = some (Out.ok (.tup (nmD d :: nms d p)) [.lst false xs]) := callD_p a4 (pair_pure (doc_pure q) pl_pure) pw
  have k5 : callD (Cn N60) false "put" [d, pl p, o] [.lst false xs] = some (Out.ok (putD d p o) [.lst false xs]) := callD_p a5 (tri_pure (doc_pure q) pl_pure (doc_pure qo)) (doc_pure qp)
  have k6 : callD (Cn N60) false "_law_put" [d, pl p, o] [.lst false xs] = some (Out.ok (putD d p o) [.lst false xs]) := callD_p hlp (tri_pure (doc_pure q) pl_pure (doc_pure qo)) (doc_pure qp)
  have k7 : callD (Cn N60) false "put" [d, pl p, e] [.lst false xs] = some (Out.ok d [.lst false xs]) := callD_p a7 (tri_pure (doc_pure q) pl_pure (doc_pure qe)) (doc_pure q)
  have c1 := (ne_same (st := [.lst false xs]) pe (by decide) (rsv_pure (doc_pure qe)) (rsv_pure (doc_pure qe))).1
  have c3 := (ne_same (st := [.lst false xs]) pp (by decide) (rsv_pure (doc_pure qp)) (rsv_pure (doc_pure qp))).1
  have c4 := (ne_same (st := [.lst false xs]) pd (by decide) (rsv_pure (doc_pure q)) (rsv_pure (doc_pure q))).1
  obtain ⟨wx, we, ws, wo⟩ := show_ok (st := [.lst false xs]) (e := .tup (nmD d :: nms d p)) (Pd.tup (dep := 0) (sh := 6) (nms_pd q)) (by decide) (by
    have := nms_len (p := p) (d := d); simp; omega) (rsv_pure pw) ⟨_, .inl rfl⟩
  have c2 := ne_str (st := [.lst false xs]) wo
  have w1 : bltD "repr" [.tup (nmD d :: nms d p)] [.lst false xs] = some (.str wx.shown) := by
    show (showD _ _).map D.str = _
    rw [ws]; rfl
  refine loopF_ok (env1 := [some d, some o, some kept, some due, some (.loc 0), some (pl p)]) rfl ?_ (Nat.le_refl _ |> Nat.ble_eq.mpr)
  refine Ess.nx (Es.iffF (Ev.cmp (Ev.call (EvA.cons (Ev.var rfl) (EvA.cons (Ev.var rfl) EvA.nil)) k1) (Ev.call (EvA.cons (Ev.var rfl) (EvA.cons (Ev.var rfl) EvA.nil)) k2) c1) Ess.nil) ?_
  refine Ess.nx (Es.iffF (Ev.cmp (Ev.blt (EvA.cons (Ev.call (EvA.cons (Ev.var rfl) (EvA.cons (Ev.var rfl) EvA.nil)) k3) EvA.nil) w1) (Ev.blt (EvA.cons (Ev.call (EvA.cons (Ev.var rfl) (EvA.cons (Ev.var rfl) EvA.nil)) k4) EvA.nil) w1) c2) Ess.nil) ?_
  refine Ess.nx (Es.iffF (Ev.cmp (Ev.call (EvA.cons (Ev.var rfl) (EvA.cons (Ev.var rfl) (EvA.cons (Ev.var rfl) EvA.nil))) k5) (Ev.call (EvA.cons (Ev.var rfl) (EvA.cons (Ev.var rfl) (EvA.cons (Ev.var rfl) EvA.nil))) k6) c3) Ess.nil) ?_
  exact Ess.nx (Es.iffF (Ev.cmp (Ev.call (EvA.cons (Ev.var rfl) (EvA.cons (Ev.var rfl) (EvA.cons (Ev.call (EvA.cons (Ev.var rfl) (EvA.cons (Ev.var rfl) EvA.nil)) k1) EvA.nil))) k7) (Ev.var rfl) c4) Ess.nil) Ess.nil
end Hd

end
section
open Wk PySem
set_option maxRecDepth 100000
set_option maxHeartbeats 1000000
namespace Hd
local macro_rules
  | `(tactic| trivial) => `(tactic| first
    | exact Ev.cst
    | exact Ev.var rfl
    | exact EvA.nil
    | (apply EvA.cons <;> trivial)
    | (apply Ev.ix <;> trivial)
    | (apply Ev.isi' <;> trivial)
    | (apply Ev.not' <;> trivial)
    | (apply Ev.cmp <;> trivial)
    | (apply Ev.bin <;> trivial)
    | (apply Ev.blt <;> trivial)
    | (apply Ev.call <;> trivial)
    | (apply Ev.orF <;> trivial)
    | (apply Ev.orT <;> trivial)
    | (apply Ev.andT <;> trivial)
    | (apply Ev.andF <;> trivial)
    | (apply Es.ret <;> trivial)
    | (apply Es.ex <;> trivial)
    | (apply Es.set <;> trivial)
    | (apply Ess.nx <;> trivial)
    | (apply Ess.rt <;> trivial)
    | exact Ess.nil
    | (apply Es.iffF <;> trivial)
    | (apply Es.iffT <;> trivial)
    | assumption
    | rfl
    | (simp [cmpD]; done))



theorem good_turn' {N : Nat} (hN : N = 98) {d o : D} {kept due : D} {p : List Nat} {e : D} {xs : List D} {y : Option D} (q : IsDoc 4 d) (qo : IsDoc 2 o) (hs : subD d p = some e) (hp : p.length < 5) :
    loopF (Cn N) (.nm 5) (v__law_good.body.at_ 6).body (pl p) [some d, some o, some kept, some due, some (.loc 0), y] [.lst false xs] = some (.ok (.nx [some d, some o, some kept, some due, some (.loc 0), some (pl p)]) [.lst false xs]) := by
  subst hN; exact good_turn q qo hs hp
theorem good_c {N : Nat} (hN : N = 98) {d o : D} (q : IsDoc 4 d) (qo : IsDoc 2 o) : ∃ st, (Cn (N + 1)).call "_law_good" [d, o] [] = some (.ok (.bl true) st) := by
  rw [call_s (F := Hd.v__law_good) (by kernel_rfl)]
  have hX : ∀ z ∈ (plcs 4 d).map pl, Pd 1 33 z := fun z hz => by
    obtain ⟨p, hp, rfl⟩ := List.mem_map.mp hz
    have := doc_len q hp
    exact pl_pd (plcs_sub q hp).2 (by omega)
  have hlen : (plcs 4 d).length ≤ 40 := plcs_len q
  have b1 := law_places_c (n := 94) (by decide) q
  have b2 := places_c (n := 91) (by decide) q
  have b3 := asc_c (n := 97) (plcs_sorted (h := 4) (d := d)) (by omega)
  rw [show 94 + 4 = N by omega] at b1
  rw [show 91 + 4 + 3 = N by omega] at b2
  rw [show 97 + 1 = N by omega] at b3
  have turn : ∀ {kept due : D} {xs : List D} (p : List Nat), p ∈ plcs 4 d → ∀ y : Option D, loopF (Cn N) (.nm 5) (v__law_good.body.at_ 6).body (pl p) [some d, some o, some kept, some due, some (.loc 0), y] [.lst false xs] = some (.ok (.nx [some d, some o, some kept, some due, some (.loc 0), some (pl p)]) [.lst false xs]) := fun {kept due xs} p hp y => by
    obtain ⟨⟨e, he⟩, _⟩ := plcs_sub q hp
    have := doc_len q hp
    exact good_turn' hN q qo he (by omega)
  clear hN
  obtain ⟨X, eX⟩ : ∃ X, X = (plcs 4 d).map pl := ⟨_, rfl⟩
  have pX : D.pures X = true := by rw [eX]; exact plcs_pure
  have lX : X.length ≤ 40 := by rw [eX, List.length_map]; exact hlen
  rw [← eX] at b1 b2 b3 hX
  have pdo := pair_pure (doc_pure q) (doc_pure qo)
  have s4 : shb 4 ≤ 10000 := by decide
  have s2 : shb 2 ≤ 10000 := by decide
  have pl2 : Pd 9 20007 (.lst [d, o]) := (Pd.lst (dep := 8) (sh := 10000) (ds := [d, o]) fun z hz => by
    rcases List.mem_cons.mp hz with e | e
    · subst e; exact (doc_pd q).mono (by omega) s4
    · rcases List.mem_cons.mp e with e | e
      · subst e; exact (doc_pd qo).mono (by omega) s2
      · cases e).mono (by omega) (by simp)
  have plX : Pd 2 2000 (.lst X) := (Pd.lst hX).mono (by omega) (by omega)
  have rd : ∀ st, ∃ w : Str, bltD "repr" [.lst [d, o]] st = some (.str w) ∧ okS w ∧ ∀ st', bltD "repr" [.lst [d, o]] st' = some (.str w) := fun st => by
    obtain ⟨x, e, hs, ho⟩ := show_ok (st := st) (e := .lst [d, o]) pl2 (by decide) (by omega) rfl ⟨_, .inr rfl⟩
    refine ⟨x.shown, by show (showD _ _).map D.str = _; rw [hs]; rfl, ho, fun st' => ?_⟩
    obtain ⟨x', e', hs', _⟩ := show_ok (st := st') (e := .lst [d, o]) pl2 (by decide) (by omega) rfl ⟨_, .inr rfl⟩
    rw [e] at e'; cases e'
    show (showD _ _).map D.str = _
    rw [hs']; rfl
  obtain ⟨K, k0, kO, kS⟩ := rd []
  obtain ⟨x1, e1, hs1, ho1⟩ := show_ok (st := [.lst false X]) (e := .loc 0) plX (by decide) (by omega) rfl ⟨_, .inr rfl⟩
  obtain ⟨x2, e2, hs2, _⟩ := show_ok (st := [.lst false X]) (e := .lst X) plX (by decide) (by omega) rfl ⟨_, .inr rfl⟩
  rw [e1] at e2; cases e2
  have r1 : bltD "repr" [.loc 0] [.lst false X] = some (.str x1.shown) := by show (showD _ _).map D.str = _; rw [hs1]; rfl
  have r2 : bltD "repr" [.lst X] [.lst false X] = some (.str x1.shown) := by show (showD _ _).map D.str = _; rw [hs2]; rfl
  have n1 := ne_str (st := [.lst false X]) ho1
  have n2 := (ne_same (st := [.lst false X]) plX (by decide) (e := .loc 0) rfl rfl).1
  have n3 := (ne_same (st := [.lst false (X ++ [.non])]) plX (by decide) (e := .lst X) rfl rfl).1
  have k1 : callD (Cn N) false "_law_places" [d] [] = some (Out.ok (.lst X) []) := callD_p b1 (one_pure (doc_pure q)) pX
  have k2 : callD (Cn N) true "places" [d] [] = some (Out.ok (.loc 0) [.lst false X]) := callD_k b2 (one_pure (doc_pure q)) pX
  have k3 : callD (Cn N) false "_law_ascending" [.loc 0] [.lst false X] = some (Out.ok (.lst X) [.lst false X]) := callD_m1 rfl pX b3 pX pX
  have k4 : callD (Cn N) false "places" [d] [.lst false (X ++ [.non])] = some (Out.ok (.lst X) [.lst false (X ++ [.non])]) := callD_l b2 (one_pure (doc_pure q)) pX
  have m1 : metD "append" (.loc 0) [.non] [.lst false X] = some (.non, [.lst false (X ++ [.non])]) := by
    show (if Nat.blt X.length sizeLine = true then some (D.non, ([Ob.lst false X] : Store).set 0 (.lst false (X ++ [.non]))) else none) = _
    rw [if_pos (by rw [sizeLine_eq]; exact Nat.blt_eq.mpr (by omega))]; rfl
  have cl : ∀ lo hi, (cutD X lo hi).length ≤ 40 := fun lo hi => by
    unfold cutD
    rw [List.length_take, List.length_drop]; omega
  have a1 : ∀ st, binD .Add (.lst (cutD X none (some 24))) (.lst (cutD X (some (-3)) none)) st = some (.lst (cutD X none (some 24) ++ cutD X (some (-3)) none)) := fun st => by
    show (if fit _ = true then some (D.lst _) else none) = _
    have := cl none (some 24); have := cl (some (-3)) none
    rw [if_pos (fit_small (by omega))]
  obtain ⟨y', hw⟩ := loop_inv (g := fun y => [some d, some o, some (.str K), some (.lst X), some (.loc 0), y]) (st := [.lst false (X ++ [.non])]) (f := loopF (Cn N) (.nm 5) (v__law_good.body.at_ 6).body) (L := cutD X none (some 24) ++ cutD X (some (-3)) none) (y := none) (fun x hx y => by
    have : x ∈ X := (List.mem_append.mp hx).elim mem_cut mem_cut
    rw [eX] at this
    obtain ⟨p, hp, rfl⟩ := List.mem_map.mp this
    exact turn p hp y)
  have eK : cmpD .Eq (.str K) (.str K) [.lst false (X ++ [.non])] = some true := by
    have := eq_str (st := [.lst false (X ++ [.non])]) kO kO
    rw [show (K == K) = true by simp] at this
    exact this
  refine ⟨[.lst false (X ++ [.non])], run_rt rfl ?_⟩
  refine (Ess.nx (Es.set (Ev.blt (EvA.cons (Ev.lst (EvA.cons (Ev.var rfl) (EvA.cons (Ev.var rfl) EvA.nil)) rfl) EvA.nil) k0) (show (2 : Nat) < 6 by decide)) ?_)
  refine Ess.nx (Es.set (Ev.call (EvA.cons (Ev.var rfl) EvA.nil) k1) (show (3 : Nat) < 6 by decide)) ?_
  refine Ess.nx (Es.set (Ev.call (EvA.cons (Ev.var rfl) EvA.nil) k2) (show (4 : Nat) < 6 by decide)) ?_
  refine Ess.nx (Es.iffF (Ev.orF (Ev.not' (Ev.isi' (r := true) (Ev.var rfl) rfl rfl) rfl) (Ev.orF (Ev.cmp (Ev.blt (EvA.cons (Ev.var rfl) EvA.nil) r1) (Ev.blt (EvA.cons (Ev.var rfl) EvA.nil) r2) n1) (Ev.cmp (Ev.var rfl) (Ev.call (EvA.cons (Ev.var rfl) EvA.nil) k3) n2))) Ess.nil) ?_
  refine Ess.nx (Es.ex (Ev.met (Ev.var rfl) rfl (EvA.cons Ev.cst EvA.nil) m1)) ?_
  refine Ess.nx (Es.iffF (Ev.cmp (Ev.call (EvA.cons (Ev.var rfl) EvA.nil) k4) (Ev.var rfl) n3) Ess.nil) ?_
  refine Ess.nx (Es.loopN (EvA.cons (Ev.bin (Ev.sl (Ev.var rfl) Ev.cst rfl Ev.cst rfl rfl) (Ev.sl (Ev.var rfl) (Ev.neg Ev.cst) rfl Ev.cst rfl rfl) (a1 _)) EvA.nil) rfl hw) ?_
  exact Ess.rt (Es.ret (Ev.cmp (Ev.blt (EvA.cons (Ev.lst (EvA.cons (Ev.var rfl) (EvA.cons (Ev.var rfl) EvA.nil)) rfl) EvA.nil) (kS _)) (Ev.var rfl) eK))
end Hd

end
section
open Wk PySem
set_option maxRecDepth 100000
set_option maxHeartbeats 1000000
namespace Hd
local macro_rules
  | `(tactic| trivial) => `(tactic| first
    | exact Ev.cst
    | exact Ev.var rfl
    | exact EvA.nil
    | (apply EvA.cons <;> trivial)
    | (apply Ev.ix <;> trivial)
    | (apply Ev.isi' <;> trivial)
    | (apply Ev.not' <;> trivial)
    | (apply Ev.cmp <;> trivial)
    | (apply Ev.bin <;> trivial)
    | (apply Ev.blt <;> trivial)
    | (apply Ev.call <;> trivial)
    | (apply Ev.orF <;> trivial)
    | (apply Ev.orT <;> trivial)
    | (apply Ev.andT <;> trivial)
    | (apply Ev.andF <;> trivial)
    | (apply Es.ret <;> trivial)
    | (apply Es.ex <;> trivial)
    | (apply Es.set <;> trivial)
    | (apply Ess.nx <;> trivial)
    | (apply Ess.rt <;> trivial)
    | exact Ess.nil
    | (apply Es.iffF <;> trivial)
    | (apply Es.iffT <;> trivial)
    | assumption
    | rfl
    | (simp [cmpD]; done))




def body4 : Sxs := ((v_law.body.at_ 0).body.at_ 1).body
/-- one of four -/
theorem four_l {ns : List Int} {k : Nat} {b : Int} {t2 t3 : Option D} : ∀ (xs : List Int) (a c : Int) {y : Option D}, 0 ≤ c → c + xs.length * 1000 < 2 ^ 50 →
    ∃ y' a' c', (∀ z, y = some (.int z) → ∃ z', y' = some (.int z')) ∧ (xs ≠ [] → ∃ z', y' = some (.int z')) ∧ loopM (loopF (Cn 99) (.nm 4) body4) (xs.map D.int) [some (.scr ns), some (.int (k : Nat)), t2, t3, y, some (.loc 0)] (pst a b c) = some (.ok (.nx [some (.scr ns), some (.int (k : Nat)), t2, t3, y', some (.loc 0)]) (pst a' b c'))
  | [], a, c, y, _, _ => ⟨y, a, c, fun z h => ⟨z, h⟩, fun h => absurd rfl h, rfl⟩
  | x :: xs, a, c, y, h1, h2 => by
    have e : ((x :: xs).length : Int) * 1000 = xs.length * 1000 + 1000 := by rw [List.length_cons]; omega
    rw [e] at h2
    have hp : (0 : Int) ≤ xs.length * 1000 := by omega
    obtain ⟨d, a1, c1, q, l1, l2, e1⟩ := drawn_c (b := b) 3 93 a c h1 (by have : tk 3 = 53 := rfl; omega)
    have t3' : tk 3 = 53 := rfl
    have t1' : tk 1 = 5 := rfl
    obtain ⟨o, a2, c2, qo, m1, m2, e2⟩ := drawn_c (b := b) 1 95 a1 c1 (by omega) (by omega)
    obtain ⟨st, hg⟩ := good_c (N := 98) rfl q qo
    generalize hM : (99 : Nat) = M
    rw [show 93 + 3 + 3 = M by omega] at e1
    rw [show 95 + 1 + 3 = M by omega] at e2
    rw [show 98 + 1 = M by omega] at hg
    have k1 : callD (Cn M) false "_law_drawn" [.loc 0, .int 3] (pst a b c) = some (Out.ok d (pst a1 b c1)) := callD_mi rfl rfl e1 (doc_pure q) rfl
    have k2 : callD (Cn M) false "_law_drawn" [.loc 0, .int 1] (pst a1 b c1) = some (Out.ok o (pst a2 b c2)) := callD_mi rfl rfl e2 (doc_pure qo) rfl
    have k3 : callD (Cn M) false "_law_good" [d, o] (pst a2 b c2) = some (Out.ok (.bl true) (pst a2 b c2)) := callD_p hg (pair_pure (doc_pure q) (doc_pure qo)) rfl
    obtain ⟨y', a', c', f1, f2, ih⟩ := four_l (ns := ns) (k := k) (b := b) (t2 := t2) (t3 := t3) xs a2 c2 (y := some (.int x)) (by omega) (by omega)
    rw [hM] at ih
    refine ⟨y', a', c', fun _ _ => f1 x rfl, fun _ => f1 x rfl, ?_⟩
    rw [← ih]
    exact loop_cons (loopF_ok (env1 := [some (.scr ns), some (.int (k : Nat)), t2, t3, some (.int x), some (.loc 0)]) rfl (Ess.nx (Es.iffF (Ev.not' (Ev.call (EvA.cons (Ev.call (EvA.cons (Ev.var rfl) (EvA.cons Ev.cst EvA.nil)) k1) (EvA.cons (Ev.call (EvA.cons (Ev.var rfl) (EvA.cons Ev.cst EvA.nil)) k2) EvA.nil)) k3) rfl) Ess.nil) Ess.nil) rfl)
theorem loopF_trim {C : Wk.Ctx} {tg : Tg} {body : Sxs} {d : D} {env env1 env' : Wk.Env} {o : Ob} (h : tgSet tg d env = some env1) (hb : Ess C env1 body [] (.nx env') [o]) : loopF C tg body d env [] = some (.ok (.nx (trimE 0 env')) []) := by
  have : (M.of (tgSet tg d env) >>= fun env' => evSs C body env') [] = some (.ok (.nx env') [o]) := by
    rw [h]; exact hb
  unfold loopF trimM
  rw [this]
  rfl
theorem outer_l {ns : List Int} : ∀ (ks : List Nat) {x1 x4 : Option D}, (∀ k ∈ ks, k < 1000) → ∃ y1 y4, (∀ i j, x1 = some (.int i) → x4 = some (.int j) → ∃ i j, y1 = some (.int i) ∧ y4 = some (.int j)) ∧ (ks ≠ [] → ∃ i j, y1 = some (.int i) ∧ y4 = some (.int j)) ∧
    loopM (loopF (Cn 99) (.nm 1) (v_law.body.at_ 0).body) (ks.map fun (k : Nat) => .int (k : Int)) [some (.scr ns), x1, none, none, x4, none] [] = some (.ok (.nx [some (.scr ns), y1, none, none, y4, none]) [])
  | [], x1, x4, _ => ⟨x1, x4, fun i j h1 h2 => ⟨i, j, h1, h2⟩, fun h => absurd rfl h, rfl⟩
  | k :: ks, x1, x4, hk => by
    have hk1 := hk k List.mem_cons_self
    obtain ⟨a, b, hp⟩ := pile_c (n := 98) (k := k) (ns := ns) hk1
    obtain ⟨y, a', c', _, f2, h4⟩ := four_l (ns := ns) (k := k) (b := b) (t2 := none) (t3 := none) [0, 1, 2, 3] a (1000 * (k : Nat)) (y := x4) (by omega) (by simp; omega)
    obtain ⟨z, rfl⟩ := f2 (by simp)
    obtain ⟨y1, y4, g1, g2, ih⟩ := outer_l (ns := ns) ks (x1 := some (.int (k : Nat))) (x4 := some (.int z)) fun j hj => hk j (List.mem_cons_of_mem _ hj)
    refine ⟨y1, y4, fun _ _ _ _ => g1 _ _ rfl rfl, fun _ => g1 _ _ rfl rfl, ?_⟩
    generalize hM : (99 : Nat) = M at *
    rw [show 98 + 1 = M by omega] at hp
    have k1 : callD (Cn M) true "_law_pile" [.scr ns, .int (k : Nat)] [] = some (Out.ok (.loc 0) (pst a b (1000 * (k : Nat)))) := callD_k hp rfl rfl
    rw [← ih]
    refine (loop_cons (loopF_trim (env1 := [some (.scr ns), some (.int (k : Nat)), none, none, x4, none]) rfl (Ess.nx (Es.set (Ev.call (EvA.cons (Ev.var rfl) (EvA.cons (Ev.var rfl) EvA.nil)) k1) (show (5 : Nat) < 6 by decide)) (Ess.nx (Es.loopN (EvA.cons Ev.cst EvA.nil) (it_range (n := 4) (by decide)) h4) Ess.nil)))).trans ?_
    rfl
theorem turns (ns : List Int) : ∃ m : Nat, 1 ≤ m ∧ m ≤ 8 ∧ ∀ C env, env[0]? = some (some (.scr ns)) → Ev C env (.blt "max" (.cons false (.cst (.int 2)) (.cons false (.blt "min" (.cons false (.blt "len" (.cons false (.var 0) .nil)) (.cons false (.cst (.int 8)) .nil))) .nil))) [] (.int (m : Nat)) [] := by
  obtain ⟨l, hl, hl8⟩ : ∃ l : Nat, (if (8 : Int) < (ns.length : Nat) then (8 : Int) else (ns.length : Nat)) = (l : Nat) ∧ l ≤ 8 := by
    by_cases h : (8 : Int) < (ns.length : Nat)
    · exact ⟨8, by rw [if_pos h]; rfl, Nat.le_refl _⟩
    · exact ⟨ns.length, by rw [if_neg h], by omega⟩
  obtain ⟨m, hm, h1, h2⟩ : ∃ m : Nat, (if (l : Int) > 2 then ((l : Nat) : Int) else 2) = (m : Nat) ∧ 1 ≤ m ∧ m ≤ 8 := by
    by_cases h : (l : Int) > 2
    · exact ⟨l, by rw [if_pos h], by omega, hl8⟩
    · exact ⟨2, by rw [if_neg h]; rfl, by omega, by omega⟩
  refine ⟨m, h1, h2, fun C env he => ?_⟩
  have b1 : bltD "min" [.int (ns.length : Nat), .int 8] [] = some (.int (l : Nat)) := by
    show some (D.int (if (8 : Int) < (ns.length : Nat) then 8 else (ns.length : Nat))) = _
    rw [hl]
  have b2 : bltD "max" [.int 2, .int (l : Nat)] [] = some (.int (m : Nat)) := by
    show some (D.int (if (l : Int) > 2 then ((l : Nat) : Int) else 2)) = _
    rw [hm]
  exact Ev.blt (EvA.cons Ev.cst (EvA.cons (Ev.blt (EvA.cons (Ev.blt (EvA.cons (Ev.var he) EvA.nil) rfl) (EvA.cons Ev.cst EvA.nil)) b1) EvA.nil)) b2
theorem law_all (ns : List Int) : ∃ st, (Cn (99 + 1)).call "law" [.scr ns] [] = some (.ok (.bl true) st) := by
  rw [call_s (F := Hd.v_law) (by kernel_rfl)]
  obtain ⟨m, m1, m8, hm⟩ := turns ns
  obtain ⟨y1, y4, _, g, hw⟩ := outer_l (ns := ns) (List.range m) (x1 := none) (x4 := none) fun k hk => by have := List.mem_range.mp hk; omega
  obtain ⟨i, j, rfl, rfl⟩ := g (by intro z; have := congrArg List.length z; simp at this; omega)
  obtain ⟨st, ht⟩ := tail_c ns i j
  generalize hM : (99 : Nat) = M at *
  exact ⟨st, run_rt rfl (Ess.nx (Es.loopN (EvA.cons (hm _ _ rfl) EvA.nil) (it_range (n := m) (by omega)) hw) ht)⟩
end Hd

end
theorem Hd.law_true : ∀ ns : List Int, ns.length ≤ 63 → ∃ st, Wk.callN (Wk.fnsOf Hd.ts) (Wk.globsOf Hd.cs) 100 Hd.t_law.d.name [.scr ns] [] = some (.ok (.bl true) st) := fun ns _ => Hd.law_all ns
set_option maxHeartbeats 0
open PySem PySem.W PySem.Calls PyProof.Rows
theorem PySem.Challenge.cw_waykinds_k02_places_of_documents_holds : PySem.Challenge.rw_waykinds_k02_places_of_documents.Holds := by
  w_on; o_law
  refine HandSHeadRun.head_any (r := Hd.R) (q := view Hd.R.prog [31]) (H := Hd.hk) (ob := Hd.ob) (M := 1680) (loose := Hd.nm) (d := HandSHeadRun.topDef Hd.R.prog 31) (kwd := []) Hd.ob_eq
    (by kernel_rfl) (fun s => by kernel_rfl) Hd.run (by kernel_rfl) (by kernel_rfl) (by kernel_rfl) (by rfl) (by first | assumption | decide +kernel) (by decide +kernel) ⟨rfl, rfl, rfl, rfl, rfl, by decide +kernel⟩ ?hw ?hc
  case hw => w_witness2
  case hc => exact Wk.walk_ofG (k := 100) (n := 63) (ts := Hd.ts) (cs := Hd.cs) (bl := Hd.bl) (ex := Hd.ex) (t := Hd.t_law) (x := "_law_script") rfl (by decide) rfl ⟨rfl, by decide, by decide⟩ (fun w h y => y) (by kernel_rfl) Hd.ok (by simp [Hd.ts]) rfl rfl (by kernel_rfl) Hd.law_true
