import PyProof.Rows.All
import Wide.All
import OpenK.AllK
import Wide.FinOn
import Open.Row
import PyProof.ReprReads
import PyProof.StrBlockL
import KE.IntText
import HandS.ForMost
import HandS.ForExc
import HandS.Deep
import HandS.IsInst
import HandS.Conv
import HandS.Zip
import HandS.TupAny
import HandS.Wide
import HandS.Text
import HandS.TupMul
import HandS.TupLe
import HandS.WordsExc
import HandS.CallSlots
import PyProof.ReprRoads
import PyProof.Rows.ReprR
import PyProof.TupleOfGen
import PyProof.Rows.SumAny
import PyProof.WalksMore
import PyProof.WalkInts
import HandS.TupLen
import KE.GoesZip
import KE.GoesMore
import KE.GoesEnum
import PyProof.EnumMake
import PyProof.Draws
import HandS.NoneIn
import HandS.ExcOwn
import HandS.SetKeys
import KE.KDictLaws
import PyProof.DictMoreH
import PyProof.DictUpdate
import KE.KDictDisplayH
import PyProof.DictTable
import KE.KDictZip
import KE.KItemsList
import HandS.ListItems
import HandS.Replace
import KE.KStateDown
import HandS.Head0
import HandS.Head1
import HandS.Head2
import HandS.HeadEnd
import HandS.HeadHook1
import PyProof.ExcBaseAll.ValueError
import PyProof.ReprLen
import PyProof.FitsInt
import PyProof.Rows.StrDigits
import PySem.Challenge.RW_quarterfold_k14_whole_texts_of_shapes
section
set_option linter.all false
/-! Core: a small language with values (no heap); its evaluator. One text for all laws. -/
namespace Q
open PySem
abbrev Ky := Sum Int Str
/-- values -/
inductive D where
  | non | bl (b : Bool) | int (i : Int) | str (s : Str)
  | tup (xs : List D) | ktup (xs : List D) | fls (xs : List D)
  | lst (xs : List D) | dk (kvs : List (Ky × D)) | dt (kvs : List (List Ky × D))
  | obj (c : Nat) (fs : List D)
  | hole | lk (d : D)
  deriving Inhabited
/-- may be shared -/
def D.pure : D → Bool
  | .non | .bl _ | .int _ | .str _ | .tup _ | .ktup _ | .fls _ => true
  | _ => false
/-- a field that holds it may be written -/
def D.rep : D → Bool
  | .non | .bl _ | .int _ | .str _ | .tup _ => true
  | _ => false
/-- held by one alone -/
def D.lin : D → Bool
  | .lst _ | .dk _ | .dt _ | .obj _ _ | .lk _ => true
  | _ => false
abbrev Sl := List (Option D)
def lim : Nat := 16777216
inductive R (α : Type) where
  | ok (a : α) (S : Sl) | er (c : Nat) (S : Sl) | no
def R.bind {α β : Type} : R α → (α → Sl → R β) → R β
  | .ok a S, f => f a S
  | .er c S, _ => .er c S
  | .no, _ => .no
inductive Fl where
  | nx (S : Sl) | rt (d : D) (S : Sl) | bk (S : Sl) | ct (S : Sl) | er (c : Nat) (S : Sl) | no
def R.fl {α : Type} : R α → (α → Sl → Fl) → Fl
  | .ok a S, f => f a S
  | .er c S, _ => .er c S
  | .no, _ => .no
inductive FR where
  | ok (d : D) (ps : Sl) | er (c : Nat) (ps : Sl) | no
def R.of {α : Type} (S : Sl) : Option α → R α
  | some a => .ok a S
  | none => .no

inductive BOp where | add | sub | mul | fdiv | mod | pow | shl | shr | band | bor | bxor | ix
inductive UOp where | neg
inductive COp where | eq | ne | lt | le | gt | ge | is_ | isn | in_ | nin
inductive Bi where | len | tuple | list | max | min | abs | sum | any | all | int | str | repr
  deriving DecidableEq
/-- methods that read | that change -/
inductive Bm where | sidx | join | split
inductive Mu where | append | extend | pop
inductive IK where | seq | rng | enum | zip
inductive Ty where | int | bool | str | tuple | list
  deriving DecidableEq
mutual
inductive Ex where
  | var (i : Nat) | cst (d : D) | glb (g : Nat) | nop
  | bin (o : BOp) (a b : Ex) | un (o : UOp) (a : Ex) | cmp (o : COp) (a b : Ex) | chain (o o2 : COp) (a b c : Ex)
  | and_ (a b : Ex) | or_ (a b : Ex) | not_ (a : Ex) | ife (c a b : Ex)
  | tup (es : Exs) | lst (es : Exs) | dk0 | dt0
  | slc (a lo hi : Ex) | att (a : Ex) (f : Nat) | isi (a : Ex) (ts : List Ty)
  | call (f : Nat) (es : Exs) | meth (c f : Nat) (o : Ex) (es : Exs) | new (c f : Nat) (es : Exs)
  | bi (b : Bi) (es : Exs) | bm (b : Bm) (o : Ex) (es : Exs) | mut (m : Mu) (o : Ex) (es : Exs)
  | comp (ts : List Nat) (k : IK) (es : Exs) (own : List Nat) (c : Ex) (elt : Ex)
  | inc (a : Ex) (ls : List (List Int)) | sdf (o a b : Ex) | dgt (o a b : Ex) | dup (o a : Ex) | dkd (es : Exs) | dtd (es : Exs) | lz (es : Exs) | frz (e : Ex)
inductive Exs where | nil | cons (e : Ex) (es : Exs)
end
mutual
inductive Cm where
  | set (i : Nat) (e : Ex) | unp (is : List Nat) (e : Ex) | par (i j : Nat) (a b : Ex)
  | sts (o i e : Ex) | stf (o : Ex) (f : Nat) (e : Ex)
  | exp (e : Ex) | ret (e : Ex) | retN | pass | brk | cnt
  | ite (c : Ex) (a b : Cms) | for_ (ts : List Nat) (k : IK) (es : Exs) (body : Cms) | while_ (c : Ex) (body : Cms)
  | rais (c : Nat) | never
inductive Cms where | nil | cons (c : Cm) (cs : Cms)
end

/-! ### operations on values -/
def b2 (b : Bool) : Int := if b then 1 else 0
mutual
/-- == -/
def deq : D → D → Bool
  | .non, .non => true
  | .bl a, .bl b => a == b
  | .bl a, .int j => b2 a == j
  | .int i, .bl b => i == b2 b
  | .int i, .int j => i == j
  | .str x, .str y => x == y
  | .tup xs, .tup ys | .tup xs, .ktup ys | .ktup xs, .tup ys | .ktup xs, .ktup ys => deqs xs ys
  | .lst xs, .lst ys | .lst xs, .fls ys | .fls xs, .lst ys | .fls xs, .fls ys => deqs xs ys
  | _, _ => false
def deqs : List D → List D → Bool
  | [], [] => true
  | x :: xs, y :: ys => deq x y && deqs xs ys
  | _, _ => false
end
mutual
/-- data that == reads: at most so deep -/
def shp : Nat → D → Bool
  | _, .non | _, .bl _ | _, .int _ => true
  | _, .str x => x.cps.all (· < 1114112)
  | k, .tup xs | k, .ktup xs | k, .lst xs | k, .fls xs => decide (0 < k) && shps (k - 1) xs
  | _, _ => false
def shps : Nat → List D → Bool
  | _, [] => true
  | k, x :: xs => shp k x && shps k xs
end
def D.unlk : D → D
  | .lk d => d
  | d => d
/-- the items of a list or tuple -/
def D.items : D → Option (List D)
  | .tup xs | .ktup xs | .fls xs | .lst xs | .lk (.lst xs) => some xs
  | _ => none
/-- .. of a list -/
def D.litems : D → Option (List D)
  | .fls xs | .lst xs | .lk (.lst xs) => some xs
  | _ => none
def atZ {α : Type} (xs : List α) (i : Int) : Option α := if 0 ≤ i then xs[i.toNat]? else if 0 ≤ i + xs.length then xs[(i + xs.length).toNat]? else none
def tupI : D → Option (List D)
  | .tup xs | .ktup xs => some xs
  | _ => none
def kyOf : D → Option Ky
  | .int i => some (.inl i)
  | .str s => some (.inr s)
  | _ => none
def kysOf : List D → Option (List Ky)
  | [] => some []
  | x :: xs => match kyOf x, kysOf xs with
    | some k, some ks => some (k :: ks)
    | _, _ => none
def tkOf : D → Option (List Ky)
  | .tup xs => kysOf xs
  | _ => none
def kget {κ : Type} [DecidableEq κ] : List (κ × D) → κ → Option D
  | [], _ => none
  | kv :: r, k => if kv.1 = k then some kv.2 else kget r k
def kput {κ : Type} [DecidableEq κ] (kvs : List (κ × D)) (k : κ) (v : D) : List (κ × D) :=
  if (kvs.any fun kv => decide (kv.1 = k)) = true then kvs.map (fun kv => if kv.1 = k then (kv.1, v) else kv) else kvs ++ [(k, v)]
/-- what a dict holds at a key: none, no dict or no key of its kind -/
def dget : D → D → Option (Option D)
  | .dk kvs, k | .lk (.dk kvs), k => (kyOf k).map (kget kvs)
  | .dt kvs, k | .lk (.dt kvs), k => (tkOf k).map (kget kvs)
  | _, _ => none
def opB : BOp → D → D → Option D
  | .add, .int i, .int j => some (.int (i + j))
  | .add, .int i, .bl b => some (.int (i + b2 b))
  | .add, .str x, .str y => if x.length + y.length ≤ lim then some (.str (x ++ y)) else none
  | .add, .tup xs, .tup ys => if xs.length + ys.length ≤ lim then some (.tup (xs ++ ys)) else none
  | .add, .lst xs, .lst ys => if xs.length + ys.length ≤ lim then some (.lst (xs ++ ys)) else none
  | .sub, .int i, .int j => some (.int (i - j))
  | .mul, .int i, .int j => if i.natAbs < 18446744073709551616 ∨ j.natAbs < 18446744073709551616 then some (.int (i * j)) else none
  | .mul, .str x, .int k => if k = 0 then some (.str Str.empty) else if k = 1 then some (.str x) else none
  | .mul, .tup xs, .int k => if xs.isEmpty = false ∧ 2 ≤ k ∧ k ≤ 1000 ∧ xs.length ≤ 1000 then some (.tup (List.replicate k.toNat xs).flatten) else none
  | .fdiv, .int i, .int j => if 0 < j ∧ (j < 1073741824 ∨ j.natAbs.log2 < 9000) then some (.int (i / j)) else none
  | .mod, .int i, .int j => if 0 < j then some (.int (i % j)) else none
  | .pow, .int i, .int j => if 0 ≤ j ∧ j ≤ 1000000 ∧ i.natAbs < 18446744073709551616 then some (.int (i ^ j.toNat)) else none
  | .shl, .int i, .int j => if 0 ≤ j ∧ j ≤ 1000000 ∧ i.natAbs < 18446744073709551616 then some (.int (i * 2 ^ j.toNat)) else none
  | .shr, .int i, .int j => if 0 ≤ j then some (.int (i / 2 ^ j.toNat)) else none
  | .band, .int i, .int j => if j = 1 then some (.int (i % 2)) else if 0 ≤ i ∧ 0 ≤ j then some (.int (i.toNat &&& j.toNat : Nat)) else none
  | .bor, .int i, .int j => if 0 ≤ i ∧ 0 ≤ j then some (.int (i.toNat ||| j.toNat : Nat)) else none
  | .bxor, .int i, .int j => if 0 ≤ i ∧ 0 ≤ j then some (.int (i.toNat ^^^ j.toNat : Nat)) else none
  | .ix, .str x, .int i => if x.length ≤ lim then (atZ x.cps.toList i).map fun c => .str ⟨#[c]⟩ else none
  | .ix, .dk kvs, k => (kyOf k).bind (kget kvs)
  | .ix, .lk (.dk kvs), k => (kyOf k).bind (kget kvs)
  | .ix, .dt kvs, k => (tkOf k).bind (kget kvs)
  | .ix, .lk (.dt kvs), k => (tkOf k).bind (kget kvs)
  | .ix, d, .int i => match d.items with
    | some xs => atZ xs i
    | none => none
  | _, _, _ => none
def opU : UOp → D → Option D
  | .neg, .int i => some (.int (-i))
  | _, _ => none
def isNon : D → Option Bool
  | .non => some true
  | .bl _ | .int _ | .str _ | .tup _ | .ktup _ | .fls _ | .lst _ | .dk _ | .dt _ | .obj _ _ => some false
  | _ => none
/-- y in x -/
def opIn (x y : D) : Option Bool :=
  match dget y x with
  | some o => some o.isSome
  | none => match y with
    | .str z => match x with
      | .str w => if w.length = 1 then some (decide ((w.cps.getD 0 0) ∈ z.cps.toList)) else none
      | _ => none
    | .tup ys => if shp 60 x && shps 60 ys then some (ys.any fun z => deq z x) else none
    | .ktup ys => if shp 60 x && shps 60 ys then some (ys.any fun z => deq z x) else none
    | .lst ys => if shp 60 x && shps 60 ys then some (ys.any fun z => deq z x) else none
    | .fls ys => if shp 60 x && shps 60 ys then some (ys.any fun z => deq z x) else none
    | _ => none
def opC : COp → D → D → Option Bool
  | .eq, x, y => if shp 60 x && shp 60 y then some (deq x y) else none
  | .ne, x, y => if shp 60 x && shp 60 y then some (!deq x y) else none
  | .lt, .int i, .int j => some (decide (i < j))
  | .le, .int i, .int j => some (decide (i ≤ j))
  | .gt, .int i, .int j => some (decide (j < i))
  | .ge, .int i, .int j => some (decide (j ≤ i))
  | .is_, x, .non => isNon x
  | .is_, .bl a, .bl b => some (decide (a = b))
  | .isn, .bl a, .bl b => some (!decide (a = b))
  | .isn, x, .non => (isNon x).map (!·)
  | .in_, x, y => opIn x y
  | .nin, x, y => (opIn x y).map (!·)
  | _, _, _ => none
def intsOf : List D → Option (List Int)
  | [] => some []
  | .int i :: r => (intsOf r).map (i :: ·)
  | _ :: _ => none
def boolsOf : List D → Option (List Bool)
  | [] => some []
  | .bl i :: r => (boolsOf r).map (i :: ·)
  | _ :: _ => none
def maxL (i : Int) : List Int → Int
  | [] => i
  | j :: r => maxL (max i j) r
def minL (i : Int) : List Int → Int
  | [] => i
  | j :: r => minL (min i j) r
def dkeysK (kvs : List (Ky × D)) : List D := kvs.map fun kv => match kv.1 with | .inl i => .int i | .inr s => .str s
def kyD : Ky → D
  | .inl i => .int i
  | .inr s => .str s
mutual
def toP : D → PyData
  | .non => .none
  | .bl b => .bool b
  | .int i => .int i
  | .str s => .str s
  | .tup xs => .tuple (toPs xs)
  | .ktup xs => .tuple (toPs xs)
  | .lst xs => .list (toPs xs)
  | .fls xs => .list (toPs xs)
  | .dk _ | .dt _ | .obj _ _ | .hole | .lk _ => .dict []
def toPs : List D → List PyData
  | [] => []
  | x :: xs => toP x :: toPs xs
end
/-- what repr shows -/
def showOk (d : D) : Bool := shp 60 d && (toP d).showable && decide ((toP d).shown.length ≤ lim)
def opBi : Bi → List D → Option D
  | .len, [.str x] => if x.length ≤ lim then some (.int x.length) else none
  | .len, [.dk kvs] => some (.int kvs.length)
  | .len, [.dt kvs] => some (.int kvs.length)
  | .len, [d] => d.items.map fun xs => .int xs.length
  | .tuple, [.ktup xs] => some (.ktup xs)
  | .tuple, [.dt kvs] => some (.tup (kvs.map fun kv => .tup (kv.1.map kyD)))
  | .tuple, [d] => d.items.map .tup
  | .list, [.dk kvs] => some (.lst (kvs.map fun kv => kyD kv.1))
  | .list, [.dt kvs] => some (.lst (kvs.map fun kv => .tup (kv.1.map kyD)))
  | .list, [d] => d.items.map .lst
  | .max, [.int i, .int j] => some (.int (max i j))
  | .min, [.int i, .int j] => some (.int (min i j))
  | .max, [.tup xs] => match intsOf xs with
    | some (i :: r) => some (.int (maxL i r))
    | _ => none
  | .min, [.tup xs] => match intsOf xs with
    | some (i :: r) => some (.int (minL i r))
    | _ => none
  | .max, [d] => match d.litems.bind intsOf with
    | some (i :: r) => some (.int (maxL i r))
    | _ => none
  | .min, [d] => match d.litems.bind intsOf with
    | some (i :: r) => some (.int (minL i r))
    | _ => none
  | .abs, [.int i] => some (.int (i.natAbs : Nat))
  | .sum, [.tup xs] => (intsOf xs).map fun l => .int l.sum
  | .sum, [d] => (d.litems.bind intsOf).map fun l => .int l.sum
  | .any, [d] => (d.litems.bind boolsOf).map fun l => .bl (l.any id)
  | .all, [d] => (d.litems.bind boolsOf).map fun l => .bl (l.all id)
  | .int, [.int i] => some (.int i)
  | .int, [.bl b] => some (.int (b2 b))
  | .int, [.str x] => if x.length ≤ 640 then (PySem.intText? x).map .int else none
  | .str, [.int i] => if i.natAbs.log2 < 1920 then some (.str (PyData.int i).shown) else none
  | .repr, [d] => if showOk d then some (.str (toP d).shown) else none
  | _, _ => none
def strsOf : List D → Option (List Str)
  | [] => some []
  | .str x :: r => (strsOf r).map (x :: ·)
  | _ => none
def opBm : Bm → List D → Option D
  | .join, [.str a, d] => match d.items.bind strsOf with
    | some ys => if (ys.map (·.length)).sum + ys.length * a.length ≤ lim then some (.str (Txt.join a ys)) else none
    | none => none
  | .split, [.str a, .str b] => if b.length ≠ 0 ∧ a.length + 2 ≤ lim then some (.lst ((Txt.split a b).map .str)) else none
  | .sidx, [.str a, .str b] => match Builtin.Str.occurrences a b 0 a.length 1 with
    | i :: _ => some (.int (i : Nat))
    | [] => none
  | _, _ => none
/-- whose method it is -/
def bmOf : Bm → Option D → Bool
  | _, some (.str _) => true
  | _, _ => false
def opMu : Mu → D → List D → Option (D × D)
  | .append, .lst xs, [x] => if x.pure && decide (xs.length < lim) then some (.lst (xs ++ [x]), .non) else none
  | .extend, .lst xs, [.lst ys] => if xs.length + ys.length ≤ lim then some (.lst (xs ++ ys), .non) else none
  | .pop, .lst xs, [] => match xs.getLast? with
    | some x => some (.lst xs.dropLast, x)
    | none => none
  | _, _, _ => none
def cutD (xs : List D) (lo hi : Option Int) : List D :=
  let n := xs.length
  let f (d : Nat) : Option Int → Nat := fun o => match o with
    | none => d
    | some i => if i < 0 then (i + n).toNat else min i.toNat n
  (xs.drop (f 0 lo)).take (f n hi - f 0 lo)
def partOf (e : Ex) (d : D) : Option (Option Int) :=
  match e, d with
  | .nop, _ => some none
  | _, .int i => some (some i)
  | _, _ => none
def pOf (e : Ex) (r : R D) : R (Option Int) := r.bind fun d S => match partOf e d with
  | some o => .ok o S
  | none => .no
def opSl (d : D) (l h : Option Int) : Option D :=
  match d with
    | .tup xs => some (.tup (cutD xs l h))
    | .lst xs | .fls xs | .lk (.lst xs) => some (.lst (cutD xs l h))
    | _ => none
def isTy : Ty → D → Option Bool
  | .int, .int _ | .int, .bl _ | .bool, .bl _ | .str, .str _ | .tuple, .tup _ | .tuple, .ktup _ | .list, .lst _ | .list, .fls _ => some true
  | _, .non | _, .bl _ | _, .int _ | _, .str _ | _, .tup _ | _, .ktup _ | _, .lst _ | _, .fls _ | _, .dk _ | _, .dt _ => some false
  | _, _ => none
def isTys : List Ty → D → Option Bool
  | [], _ => some false
  | t :: ts, d => match isTy t d, isTys ts d with
    | some a, some b => some (a || b)
    | _, _ => none

/-! ### places -/
def fieldIx : List Nat → Nat → Option Nat
  | [], _ => none
  | g :: r, f => if g = f then some 0 else (fieldIx r f).map (· + 1)
structure Sg where
  glob : Nat → Option D
  flds : Nat → List Nat
def rdF (sg : Sg) : D → List Nat → Option D
  | d, [] => some d
  | .obj c fs, f :: r => match fieldIx (sg.flds c) f with
    | some j => match fs[j]? with
      | some d => rdF sg d r
      | none => none
    | none => none
  | _, _ :: _ => none
def wrF (sg : Sg) : D → List Nat → D → Option D
  | _, [], x => some x
  | .obj c fs, f :: r, x => match fieldIx (sg.flds c) f with
    | some j => match fs[j]? with
      | some d => (wrF sg d r x).map fun d' => .obj c (fs.set j d')
      | none => none
    | none => none
  | _, _ :: _, _ => none
def rdS (sg : Sg) (S : Sl) (i : Nat) (p : List Nat) : Option D :=
  match S[i]? with
  | some (some d) => rdF sg d p
  | _ => none
def wrS (sg : Sg) (S : Sl) (i : Nat) (p : List Nat) (x : D) : Option Sl :=
  match S[i]? with
  | some (some d) => (wrF sg d p x).map fun d' => S.set i (some d')
  | _ => none
inductive Arg where | val (d : D) | pl (i : Nat) (p : List Nat)
def pathOf : Ex → Option (Nat × List Nat)
  | .var i => some (i, [])
  | .att a f => (pathOf a).map fun q => (q.1, q.2 ++ [f])
  | _ => none
/-- an expression that is a place of something that can't be shared -/
def placeOf (sg : Sg) (S : Sl) (e : Ex) : Option Arg :=
  match pathOf e with
  | some (i, p) => match rdS sg S i p with
    | some d => if d.lin then some (.pl i p) else none
    | none => none
  | none => none
def argOf (sg : Sg) (S : Sl) (e : Ex) (r : R D) : R Arg :=
  match placeOf sg S e with
  | some a => .ok a S
  | none => r.bind fun d S' => .ok (.val d) S'
def argD (sg : Sg) (S : Sl) : Arg → Option D
  | .val d => some d
  | .pl i p => match rdS sg S i p with
    | some d => if d.lin then some d else none
    | none => none
def argDs (sg : Sg) (S : Sl) : List Arg → Option (List D)
  | [] => some []
  | a :: r => match argD sg S a, argDs sg S r with
    | some d, some ds => some (d :: ds)
    | _, _ => none
/-- what can be handed over: places are left with a hole -/
def D.movable : D → Bool
  | .hole | .lk _ => false
  | _ => true
def takes (sg : Sg) : List Arg → Sl → Option (List D × Sl)
  | [], S => some ([], S)
  | .val d :: r, S => match takes sg r S with
    | some (ds, S') => some (d :: ds, S')
    | none => none
  | .pl i p :: r, S => match rdS sg S i p, wrS sg S i p .hole with
    | some d, some S1 => if d.lin then match takes sg r S1 with
      | some (ds, S') => some (d :: ds, S')
      | none => none
      else none
    | _, _ => none
def puts (sg : Sg) : List Arg → Sl → Sl → Option Sl
  | [], _, S => some S
  | .val _ :: r, _ :: ps, S => puts sg r ps S
  | .pl i p :: r, x :: ps, S => match x, p with
    | some d, _ => match rdS sg S i p, wrS sg S i p d with
      | some .hole, some S1 => puts sg r ps S1
      | _, _ => none
    | none, [] => puts sg r ps (S.set i none)
    | none, _ => none
  | _, _, _ => none
def callU (sg : Sg) (cf : Nat → List D → FR) (f : Nat) (as : List Arg) (S : Sl) : R D :=
  match takes sg as S with
  | some (ds, S1) => match cf f ds with
    | .ok d ps => match puts sg as ps S1 with
      | some S2 => .ok d S2
      | none => .no
    | .er c ps => match puts sg as ps S1 with
      | some S2 => .er c S2
      | none => .no
    | .no => .no
  | none => .no
def mutU (sg : Sg) (m : Mu) (a : Arg) (ds : List D) (S : Sl) : R D :=
  match a with
  | .pl i p => match rdS sg S i p with
    | some d => match opMu m d ds with
      | some (d', r) => match wrS sg S i p d' with
        | some S' => .ok r S'
        | none => .no
      | none => .no
    | none => .no
  | .val _ => .no
def newU (cf : Nat → List D → FR) (c f : Nat) (ds : List D) (S : Sl) : R D :=
  match cf f (.obj c [] :: ds) with
  | .ok .non (some d :: _) => .ok d S
  | .er c' _ => .er c' S
  | _ => .no
def rngOf : List D → Option (List D)
  | [.int n] => if -4611686018427387904 ≤ n ∧ n < 4611686018427387904 then some ((List.range n.toNat).map fun k => .int (k : Nat)) else none
  | [.int a, .int b] => if -4611686018427387904 ≤ a ∧ a < 4611686018427387904 ∧ -4611686018427387904 ≤ b ∧ b < 4611686018427387904 then some ((List.range (b - a).toNat).map fun k => .int (a + (k : Nat))) else none
  | [.int a, .int b, .int c] => if -1000000000 ≤ a ∧ a < 1000000000 ∧ -1000000000 ≤ b ∧ b < 1000000000 ∧ c = -1 then some ((List.range (a - b).toNat).map fun k => .int (a - (k : Nat))) else none
  | _ => none
def enumL (n : Nat) : List D → List D
  | [] => []
  | x :: xs => .tup [.int n, x] :: enumL (n + 1) xs
/-- the items that are walked -/
def itemsOf : IK → List D → Option (List D)
  | .seq, [.str x] => if x.length ≤ lim then some (x.cps.toList.map fun c => .str ⟨#[c]⟩) else none
  | .seq, [.dk kvs] | .seq, [.lk (.dk kvs)] => some (kvs.map fun kv => kyD kv.1)
  | .seq, [.dt kvs] | .seq, [.lk (.dt kvs)] => some (kvs.map fun kv => .tup (kv.1.map kyD))
  | .seq, [d] => d.items
  | .rng, ds => rngOf ds
  | .enum, [d] => d.items.map (enumL 0)
  | .zip, [a, b] => match a.items, b.items with
    | some xs, some ys => if (a.litems.isSome || !b.litems.isSome) = true then some ((xs.zip ys).map fun p => .tup [p.1, p.2]) else none
    | _, _ => none
  | _, _ => none
/-- what is walked is locked while one walks; the slots that are not to be stored -/
def allVal : List Arg → Bool
  | [] => true
  | .val (.dk _) :: _ => false
  | .val (.dt _) :: _ => false
  | .val _ :: r => allVal r
  | _ :: _ => false
def lockS (sg : Sg) (as : List Arg) (S : Sl) : Option (Sl × List Nat) :=
  match as with
  | [.pl i p] => match rdS sg S i p with
    | some (.lk _) => some (S, [])
    | some (.lst xs) => (wrS sg S i p (.lk (.lst xs))).map fun S' => (S', [i])
    | some (.dk xs) => (wrS sg S i p (.lk (.dk xs))).map fun S' => (S', [i])
    | some (.dt xs) => (wrS sg S i p (.lk (.dt xs))).map fun S' => (S', [i])
    | _ => none
  | as => if allVal as then some (S, []) else none
def unlockS (sg : Sg) (as : List Arg) (ls : List Nat) (S : Sl) : Option Sl :=
  match ls, as with
  | [], _ => some S
  | _ :: _, .pl i p :: _ => match rdS sg S i p with
    | some (.lk d) => wrS sg S i p d
    | _ => none
  | _, _ => none
/-- .. and of a comprehension over zip(own list, what is shared) -/
def lockZ (sg : Sg) (k : IK) (es : Exs) (as : List Arg) (S : Sl) : Option (Sl × List Nat) :=
  match k, es, as with
  | .zip, .cons (.var i) (.cons (.var j) .nil), [.pl _ _, .val _] => match rdS sg S j [], rdS sg S i [] with
    | some d, some (.lst xs) => if (d.pure && !d.lin && decide (i ≠ j)) = true then (wrS sg S i [] (.lk (.lst xs))).map fun S' => (S', [i]) else none
    | _, _ => none
  | _, _, as => lockS sg as S
/-- behind a walk that locked something -/
def Fl.unl (ls : List Nat) (f : Sl → Option Sl) : Fl → Fl
  | .nx S => match f S with
    | some S' => .nx S'
    | none => .no
  | .rt d S => match f S with
    | some S' => .rt d S'
    | none => .no
  | .er c S => match ls with
    | [] => .er c S
    | _ :: _ => .no
  | _ => .no
/-- pn: slots that are not to be stored -/
def setV (pn : List Nat) (S : Sl) (i : Nat) (d : D) : Option Sl :=
  if i < S.length ∧ i ∉ pn then some (S.set i (some d)) else none
/-- a target's names: one, or several of a tuple -/
def bindN (pn : List Nat) : List Nat → D → Sl → Option Sl
  | [i], x, S => setV pn S i x
  | [i, j], .tup [x, y], S => (setV pn S i x).bind fun S1 => setV pn S1 j y
  | [i, j, k], .tup [x, y, z], S => ((setV pn S i x).bind fun S1 => setV pn S1 j y).bind fun S2 => setV pn S2 k z
  | [i, j, k, l], .tup [x, y, z, w], S => (((setV pn S i x).bind fun S1 => setV pn S1 j y).bind fun S2 => setV pn S2 k z).bind fun S3 => setV pn S3 l w
  | [i, j], .lst [x, y], S => (setV pn S i x).bind fun S1 => setV pn S1 j y
  | [i, j, k], .lst [x, y, z], S => ((setV pn S i x).bind fun S1 => setV pn S1 j y).bind fun S2 => setV pn S2 k z
  | [i, j, k, l], .lst [x, y, z, w], S => (((setV pn S i x).bind fun S1 => setV pn S1 j y).bind fun S2 => setV pn S2 k z).bind fun S3 => setV pn S3 l w
  | _, _, _ => none
def loopF (pn : List Nat) (body : Sl → Fl) (ts : List Nat) : List D → Sl → Fl
  | [], S => .nx S
  | x :: xs, S => match bindN pn ts x S with
    | some S1 => match body S1 with
      | .nx S2 => loopF pn body ts xs S2
      | .ct S2 => loopF pn body ts xs S2
      | .bk S2 => .nx S2
      | r => r
    | none => .no
def loopW (c : Sl → R D) (body : Sl → Fl) : Nat → Sl → Fl
  | 0, _ => .no
  | n + 1, S => match c S with
    | .ok (.bl true) S1 => match body S1 with
      | .nx S2 => loopW c body n S2
      | .ct S2 => loopW c body n S2
      | .bk S2 => .nx S2
      | r => r
    | .ok (.bl false) S1 => .nx S1
    | .er e S1 => .er e S1
    | _ => .no
def wipeS (S : Sl) : List Nat → Sl
  | [] => S
  | v :: vs => (wipeS S vs).set v none
/-- a comprehension's turns; acc: what is made so far. A turn's test, its element -/
def loopC (c e : Sl → R D) (ts own : List Nat) : List D → List D → Sl → R D
  | [], acc, S => .ok (.lst acc) S
  | x :: xs, acc, S => match bindN [] ts x S with
    | some S1 => match c S1 with
      | .ok (.bl true) S2 => match e S2 with
        | .ok d S3 => if d.pure && decide (acc.length < lim) then loopC c e ts own xs (acc ++ [d]) (wipeS S3 own) else .no
        | _ => .no
      | .ok (.bl false) S2 => loopC c e ts own xs acc (wipeS S2 own)
      | _ => .no
    | none => .no
/-- an own list is frozen for good -/
def frzR : D → Sl → R D
  | .lst xs, S => .ok (.fls xs) S
  | _, _ => .no
def isDk : Option D → Bool
  | some (.dk _) => true
  | some (.dt _) => true
  | some (.lk (.dk _)) => true
  | _ => false
/-- setdefault -/
def sdfU (sg : Sg) (x : Arg) (k v : D) (S : Sl) : R D :=
  match x with
  | .pl i p => match rdS sg S i p with
    | some (.dk kvs) => match kyOf k with
      | some q => if v.pure && decide (kvs.length < lim) then match kget kvs q with
        | some d => .ok d S
        | none => match wrS sg S i p (.dk (kput kvs q v)) with
          | some S' => .ok v S'
          | none => .no
        else .no
      | none => .no
    | some (.dt kvs) => match tkOf k with
      | some q => if v.pure && decide (kvs.length < lim) then match kget kvs q with
        | some d => .ok d S
        | none => match wrS sg S i p (.dt (kput kvs q v)) with
          | some S' => .ok v S'
          | none => .no
        else .no
      | none => .no
    | _ => .no
  | .val _ => .no
def dgtU (sg : Sg) (x : Arg) (k v : D) (S : Sl) : R D :=
  match argD sg S x with
  | some d => if v.pure then match dget d k with
    | some (some r) => .ok r S
    | some none => .ok v S
    | none => .no
    else .no
  | none => .no
def kmerge {κ : Type} [DecidableEq κ] (kvs more : List (κ × D)) : List (κ × D) := more.foldl (fun acc kv => kput acc kv.1 kv.2) kvs
/-- update, by another dict in a place -/
def dupU (sg : Sg) (x y : Arg) (S : Sl) : R D :=
  match x, y with
  | .pl i p, .pl j q => match rdS sg S i p, wrS sg S i p .hole with
    | some (.dk kvs), some S1 => match rdS sg S1 j q, wrS sg S1 j q .hole with
      | some (.dk more), some _ => if kvs.length + more.length ≤ lim then match wrS sg S i p (.dk (kmerge kvs more)) with
        | some S' => .ok .non S'
        | none => .no
        else .no
      | _, _ => .no
    | _, _ => .no
  | _, _ => .no
def prsK : List D → Option (List (Ky × D))
  | [] => some []
  | k :: v :: r => match kyOf k, prsK r with
    | some q, some l => if v.pure then some ((q, v) :: l) else none
    | _, _ => none
  | _ => none
def prsT : List D → Option (List (List Ky × D))
  | [] => some []
  | k :: v :: r => match tkOf k, prsT r with
    | some q, some l => if v.pure then some ((q, v) :: l) else none
    | _, _ => none
  | _ => none
/-- the slots of a comprehension's own names may be pure ones only; they are put back -/
def ownOk (S : Sl) : List Nat → Bool
  | [] => true
  | i :: r => (match S[i]? with
    | some (some d) => d.pure
    | some none => true
    | none => false) && ownOk S r
def backS (S : Sl) : List Nat → Sl → Sl
  | [], S' => S'
  | i :: r, S' => (backS S r S').set i (S[i]?.getD none)
def allPure : List D → Bool
  | [] => true
  | d :: r => d.pure && allPure r
def loopMax : Nat := 1000000000
section
variable (sg : Sg) (cf : Nat → List D → FR)
mutual
def evE : Ex → Sl → R D
  | .var i, S => match S[i]? with
    | some (some d) => if d.pure then .ok d S else if d.movable then .ok d (S.set i none) else .no
    | _ => .no
  | .cst d, S => .ok d S
  | .nop, S => .ok .non S
  | .glb g, S => .of S (sg.glob g)
  | .bin o a b, S => (argOf sg S a (evE a S)).bind fun x S1 => (argOf sg S1 b (evE b S1)).bind fun y S2 => match argD sg S2 x, argD sg S2 y with
    | some d, some e => .of S2 (opB o d e)
    | _, _ => .no
  | .un o a, S => (evE a S).bind fun d S1 => .of S1 (opU o d)
  | .cmp o a b, S => (argOf sg S a (evE a S)).bind fun x S1 => (argOf sg S1 b (evE b S1)).bind fun y S2 => match argD sg S2 x, argD sg S2 y with
    | some d, some e => .of S2 ((opC o d e).map .bl)
    | _, _ => .no
  | .chain o o2 a b c, S => (evE a S).bind fun x S1 => (evE b S1).bind fun y S2 => match x.pure && y.pure, opC o x y with
    | true, some true => (evE c S2).bind fun z S3 => if z.pure then .of S3 ((opC o2 y z).map .bl) else .no
    | true, some false => .ok (.bl false) S2
    | _, _ => .no
  | .and_ a b, S => (evE a S).bind fun d S1 => match d with
    | .bl true => evE b S1
    | .bl false => .ok (.bl false) S1
    | _ => .no
  | .or_ a b, S => (evE a S).bind fun d S1 => match d with
    | .bl true => .ok (.bl true) S1
    | .bl false => evE b S1
    | _ => .no
  | .not_ a, S => (evE a S).bind fun d S1 => match d with
    | .bl b => .ok (.bl (!b)) S1
    | _ => .no
  | .ife c a b, S => (evE c S).bind fun d S1 => match d with
    | .bl true => evE a S1
    | .bl false => evE b S1
    | _ => .no
  | .tup es, S => (evX es S).bind fun ds S1 => if allPure ds && decide (ds.length ≤ lim) then .ok (.tup ds) S1 else .no
  | .lst es, S => (evX es S).bind fun ds S1 => if allPure ds && decide (ds.length ≤ lim) then .ok (.lst ds) S1 else .no
  | .dk0, S => .ok (.dk []) S
  | .dt0, S => .ok (.dt []) S
  | .slc a lo hi, S => (argOf sg S a (evE a S)).bind fun x S1 => (pOf lo (evE lo S1)).bind fun l S2 => (pOf hi (evE hi S2)).bind fun h S3 => match argD sg S3 x with
    | some d => .of S3 (opSl d l h)
    | none => .no
  | .att a f, S => match pathOf (.att a f) with
    | some (i, p) => match rdS sg S i p with
      | some d => if d.pure then .ok d S else .no
      | none => .no
    | none => .no
  | .isi a ts, S => (argOf sg S a (evE a S)).bind fun x S1 => match argD sg S1 x with
    | some d => .of S1 ((isTys ts d).map .bl)
    | none => .no
  | .call f es, S => (evA es S).bind fun as S1 => callU sg cf f as S1
  | .meth c f o es, S => (argOf sg S o (evE o S)).bind fun x S1 => match argD sg S1 x with
    | some (.obj c' _) => if c' = c then (evA es S1).bind fun as S2 => callU sg cf f (x :: as) S2 else .no
    | _ => .no
  | .new c f es, S => (evX es S).bind fun ds S1 => newU cf c f ds S1
  | .bi b es, S => (evA es S).bind fun as S1 => match argDs sg S1 as with
    | some ds => .of S1 (opBi b ds)
    | none => .no
  | .bm b o es, S => (argOf sg S o (evE o S)).bind fun x S1 => if bmOf b (argD sg S1 x) then (evA es S1).bind fun as S2 => match argD sg S2 x, argDs sg S2 as with
    | some d, some ds => .of S2 (opBm b (d :: ds))
    | _, _ => .no
    else .no
  | .mut m o es, S => (argOf sg S o (evE o S)).bind fun x S1 => match argD sg S1 x with
    | some (.lst _) => (evA es S1).bind fun as S2 => match argDs sg S2 as with
      | some ds => mutU sg m x ds S2
      | none => .no
    | _ => .no
  | .comp ts k es own c e, S => (evA es S).bind fun as S1 => match argDs sg S1 as with
    | some ds => match itemsOf k ds, lockZ sg k es as S1, ownOk S1 own with
      | some xs, some (S2, ls), true => (loopC (evE c) (evE e) ts own xs [] (wipeS S2 own)).bind fun d S3 => match unlockS sg as ls (backS S1 own S3) with
        | some S4 => .ok d S4
        | none => .no
      | _, _, _ => .no
    | none => .no
  | .inc a ls, S => (argOf sg S a (evE a S)).bind fun x S1 => match argD sg S1 x with
    | some d => if shp 60 d && (decide (ls.length ≤ 100) && ls.all fun l => decide (l.length ≤ 100)) then .ok (.bl (ls.any fun l => deq (.lst (l.map .int)) d)) S1 else .no
    | none => .no
  | .sdf o a b, S => (argOf sg S o (evE o S)).bind fun x S1 => if isDk (argD sg S1 x) then (evE a S1).bind fun k S2 => (evE b S2).bind fun v S3 => sdfU sg x k v S3 else .no
  | .dgt o a b, S => (argOf sg S o (evE o S)).bind fun x S1 => if isDk (argD sg S1 x) then (evE a S1).bind fun k S2 => (evE b S2).bind fun v S3 => dgtU sg x k v S3 else .no
  | .dup o a, S => (argOf sg S o (evE o S)).bind fun x S1 => if isDk (argD sg S1 x) then (argOf sg S1 a (evE a S1)).bind fun y S2 => dupU sg x y S2 else .no
  | .dkd es, S => (evX es S).bind fun ds S1 => match prsK ds with
    | some l => if l.length ≤ 15 then .ok (.dk (kmerge [] l)) S1 else .no
    | none => .no
  | .dtd es, S => (evX es S).bind fun ds S1 => match prsT ds with
    | some l => if l.length ≤ 15 then .ok (.dt (kmerge [] l)) S1 else .no
    | none => .no
  | .frz a, S => (evE a S).bind frzR
  | .lz es, S => (evA es S).bind fun as S1 => match argDs sg S1 as with
    | some [d, e] => match tupI d, tupI e with
      | some xs, some ys => .ok (.lst ((xs.zip ys).map fun p => .tup [p.1, p.2])) S1
      | _, _ => .no
    | _ => .no
def evX : Exs → Sl → R (List D)
  | .nil, S => .ok [] S
  | .cons e es, S => (evE e S).bind fun d S1 => (evX es S1).bind fun ds S2 => .ok (d :: ds) S2
def evA : Exs → Sl → R (List Arg)
  | .nil, S => .ok [] S
  | .cons e es, S => (argOf sg S e (evE e S)).bind fun d S1 => (evA es S1).bind fun ds S2 => .ok (d :: ds) S2
end
/-- an item is stored -/
def stsU (sg : Sg) (v : D) (x : Arg) (k : D) (S3 : Sl) : Fl :=
  match x with
  | .pl r p => match rdS sg S3 r p with
    | some (.lst xs) => match k with
      | .int n => if v.pure && decide (0 ≤ n ∧ n < xs.length) then match wrS sg S3 r p (.lst (xs.set n.toNat v)) with
        | some S4 => .nx S4
        | none => .no
        else .no
      | _ => .no
    | some (.dk kvs) => match kyOf k with
      | some q => if v.pure && decide (kvs.length < lim) then match wrS sg S3 r p (.dk (kput kvs q v)) with
        | some S4 => .nx S4
        | none => .no
        else .no
      | none => .no
    | some (.dt kvs) => match tkOf k with
      | some q => if v.pure && decide (kvs.length < lim) then match wrS sg S3 r p (.dt (kput kvs q v)) with
        | some S4 => .nx S4
        | none => .no
        else .no
      | none => .no
    | _ => .no
  | .val _ => .no
mutual
def evC : List Nat → Cm → Sl → Fl
  | pn, .set i e, S => (evE sg cf e S).fl fun d S1 => match setV pn S1 i d with
    | some S2 => .nx S2
    | none => .no
  | pn, .unp is e, S => (evE sg cf e S).fl fun d S1 => match is with
    | _ :: _ :: _ => match bindN pn is d S1 with
      | some S2 => .nx S2
      | none => .no
    | _ => .no
  | pn, .par i j a b, S => (evE sg cf a S).fl fun x S1 => (evE sg cf b S1).fl fun y S2 => match (setV pn S2 i x).bind fun S3 => setV pn S3 j y with
    | some S4 => .nx S4
    | none => .no
  | _, .sts o i e, S => (evE sg cf e S).fl fun v S1 => (argOf sg S1 o (evE sg cf o S1)).fl fun x S2 => (evE sg cf i S2).fl fun k S3 => stsU sg v x k S3
  | _, .stf o f e, S => (evE sg cf e S).fl fun v S1 => match pathOf o with
    | some (r, p) => match rdS sg S1 r p with
      | some (.obj c fs) => if v.movable && decide (fs.length < 1000) then match fieldIx (sg.flds c) f with
        | some j => if j = fs.length then match wrS sg S1 r p (.obj c (fs ++ [v])) with
            | some S2 => .nx S2
            | none => .no
          else match fs[j]? with
            | some d => if d.rep then match wrS sg S1 r p (.obj c (fs.set j v)) with
                | some S2 => .nx S2
                | none => .no
              else .no
            | none => .no
        | none => .no
        else .no
      | _ => .no
    | none => .no
  | _, .exp e, S => (evE sg cf e S).fl fun _ S1 => .nx S1
  | _, .ret e, S => (evE sg cf e S).fl fun d S1 => .rt d S1
  | _, .retN, S => .rt .non S
  | _, .pass, S => .nx S
  | _, .brk, S => .bk S
  | _, .cnt, S => .ct S
  | pn, .ite c a b, S => (evE sg cf c S).fl fun d S1 => match d with
    | .bl true => evCs pn a S1
    | .bl false => evCs pn b S1
    | _ => .no
  | pn, .for_ ts k es body, S => (evA sg cf es S).fl fun as S1 => match argDs sg S1 as with
    | some ds => match itemsOf k ds, lockS sg as S1 with
      | some xs, some (S2, ls) => (loopF (ls ++ pn) (evCs (ls ++ pn) body) ts xs S2).unl ls (unlockS sg as ls)
      | _, _ => .no
    | none => .no
  | pn, .while_ c body, S => loopW (evE sg cf c) (evCs pn body) loopMax S
  | _, .rais c, S => .er c S
  | _, .never, _ => .no
def evCs : List Nat → Cms → Sl → Fl
  | _, .nil, S => .nx S
  | pn, .cons c cs, S => match evC pn c S with
    | .nx S1 => evCs pn cs S1
    | r => r
end
end
structure Fn where
  np : Nat
  ns : Nat
  io : List Nat
  body : Cms
/-- what stands at the parameters that are never stored -/
def outP (S : Sl) (io : List Nat) (np : Nat) : Sl := (List.range np).map fun i => if i ∈ io then (S[i]?).getD none else none
def runB (sg : Sg) (cf : Nat → List D → FR) (fn : Fn) (ds : List D) : FR :=
  if ds.length = fn.np then match evCs sg cf fn.io fn.body (ds.map some ++ List.replicate (fn.ns - fn.np) none) with
    | .rt d S => .ok d (outP S fn.io fn.np)
    | .nx S => .ok .non (outP S fn.io fn.np)
    | .er c S => .er c (outP S fn.io fn.np)
    | _ => .no
  else .no
def run (sg : Sg) (tb : Nat → Option Fn) : Nat → Nat → List D → FR
  | 0, _, _ => .no
  | n + 1, f, ds => match tb f with
    | some fn => runB sg (run sg tb n) fn ds
    | none => .no
end Q
end
section
set_option Elab.async false
set_option linter.all false
set_option maxRecDepth 100000
/-! how the core's values stand in a heap -/
namespace Q
open PySem PySem.Spec PyProof.Rows L2

/-- the world of a law: field names, classes, exceptions by number -/
inductive Kd where | no | fn | me (c : Nat) | mk (c : Nat)
structure Nm where
  sg : Sg
  fld : Nat → Str
  fn : Nat → Str
  cn : Nat → Str
  gn : Nat → Str
  en : Nat → Str
  kd : Nat → Kd
structure Wd where
  n : Nm
  K : PySem.W.Frag
  cl : Nat → Option Addr
  ecl : Nat → Option Value
  nd : ∀ c, ((n.sg.flds c).map n.fld).Nodup

def KLs (K : PySem.W.Frag) (a : Addr) (xs : List V) : Prop :=
  ∃ (o : Obj) (its : Array Value) (n : Nat), K.lookup a = some o ∧ o.cls = .type "list" ∧ o.dict = none ∧ o.data = .seq its n ∧ its.size ≤ sizeLine ∧ Vals xs its.toList
def KTs (K : PySem.W.Frag) (a : Addr) (xs : List V) : Prop :=
  ∃ (o : Obj) (its : Array Value) (n : Nat), K.lookup a = some o ∧ o.cls = .type "tuple" ∧ o.data = .seq its n ∧ its.size ≤ sizeLine ∧ Vals xs its.toList

mutual
inductive Pr (K : PySem.W.Frag) (F : List Addr) (H : Hp) : D → V → Prop
  | non : Pr K F H .non .non
  | bl (b : Bool) : Pr K F H (.bl b) (.bl b)
  | int (i : Int) : Pr K F H (.int i) (.int i)
  | str (s : Str) : Pr K F H (.str s) (.str s)
  | tup {p : Addr} {xs : List D} {vs : List V} : H p = some (.tup vs) → Prs K F H xs vs → Pr K F H (.tup xs) (.ref p)
  | ktup {p : Addr} {xs : List D} {vs : List V} : KTs K p vs → Prs K F H xs vs → Pr K F H (.ktup xs) (.ref p)
  | fls {p : Addr} {xs : List D} {vs : List V} : ((p ∉ F ∧ ∃ o, H p = some (.frz o (.lst vs))) ∨ KLs K p vs) → Prs K F H xs vs → Pr K F H (.fls xs) (.ref p)
inductive Prs (K : PySem.W.Frag) (F : List Addr) (H : Hp) : List D → List V → Prop
  | nil : Prs K F H [] []
  | cons {x : D} {v : V} {xs : List D} {vs : List V} : Pr K F H x v → Prs K F H xs vs → Prs K F H (x :: xs) (v :: vs)
end
/-- b is no tuple -/
def Nt (H : Hp) (b : Addr) : Prop := ∃ o, H b = some o ∧ ∀ vs, o ≠ .tup vs
mutual
inductive Mr (w : Wd) (F : List Addr) (H : Hp) : D → V → List Addr → Prop
  | pr {d : D} {v : V} : Pr w.K F H d v → Mr w F H d v []
  | lst {p : Addr} {xs : List D} {vs : List V} : H p = some (.lst vs) → Prs w.K F H xs vs → Mr w F H (.lst xs) (.ref p) [p]
  | dk {p : Addr} {kvs : List (Ky × D)} {ws : List (Key × V)} : H p = some (.dK ws) → ws.map (·.1) = kvs.map (·.1) → Prs w.K F H (kvs.map (·.2)) (ws.map (·.2)) → Mr w F H (.dk kvs) (.ref p) [p]
  | dt {p : Addr} {kvs : List (List Ky × D)} {ws : List (List Key × V)} : H p = some (.dT ws) → ws.map (·.1) = kvs.map (·.1) → Prs w.K F H (kvs.map (·.2)) (ws.map (·.2)) → Mr w F H (.dt kvs) (.ref p) [p]
  | obj {p C dx : Addr} {c : Nat} {fs : List D} {ws : List (Str × V)} {A : List Addr} : H p = some (.ins C dx ws) → w.cl c = some C → ws.map (·.1) = ((w.n.sg.flds c).take fs.length).map w.n.fld → ws.length = fs.length → Ml w F H (fs.zip (ws.map (·.2))) A → Mr w F H (.obj c fs) (.ref p) (p :: A)
  | hole {v : V} : Mr w F H .hole v []
  | lkl {p : Addr} {o : Obj} {xs : List D} {vs : List V} : H p = some (.frz o (.lst vs)) → Prs w.K F H xs vs → Mr w F H (.lk (.lst xs)) (.ref p) [p]
  | lkk {p : Addr} {o : Obj} {kvs : List (Ky × D)} {ws : List (Key × V)} : H p = some (.frz o (.dK ws)) → ws.map (·.1) = kvs.map (·.1) → Prs w.K F H (kvs.map (·.2)) (ws.map (·.2)) → Mr w F H (.lk (.dk kvs)) (.ref p) [p]
  | lkt {p : Addr} {o : Obj} {kvs : List (List Ky × D)} {ws : List (List Key × V)} : H p = some (.frz o (.dT ws)) → ws.map (·.1) = kvs.map (·.1) → Prs w.K F H (kvs.map (·.2)) (ws.map (·.2)) → Mr w F H (.lk (.dt kvs)) (.ref p) [p]
inductive Ml (w : Wd) (F : List Addr) (H : Hp) : List (D × V) → List Addr → Prop
  | nil : Ml w F H [] []
  | cons {d : D} {v : V} {L : List (D × V)} {A B : List Addr} : Mr w F H d v A → Ml w F H L B → Ml w F H ((d, v) :: L) (A ++ B)
end

/-- what stands may change at A alone; A' is what is held behind -/
structure Step (A : List Addr) (H : Hp) (A' : List Addr) (H' : Hp) : Prop where
  keep : ∀ b o, H b = some o → b ∉ A → H' b = some o
  new : ∀ b ∈ A', b ∈ A ∨ H b = none
  there : ∀ b o, H b = some o → ∃ o', H' b = some o'
  stab : ∀ b C dx ws, H b = some (.ins C dx ws) → ∃ ws', H' b = some (.ins C dx ws') ∧ ∀ f a, ws.lookup f = some (.ref a) → Nt H a → ws'.lookup f = some (.ref a)
  nt : ∀ a, Nt H a → Nt H' a
  frz : ∀ b ob u, H b = some (.frz ob u) → H' b = some (.frz ob u)
theorem Step.sub {A B : List Addr} {H : Hp} (h : ∀ b ∈ B, b ∈ A) : Step A H B H := ⟨fun _ _ h _ => h, fun b hb => .inl (h b hb), fun _ o h => ⟨o, h⟩, fun _ _ _ ws h => ⟨ws, h, fun _ _ q _ => q⟩, fun _ h => h, fun _ _ _ h => h⟩
theorem Step.refl {A : List Addr} {H : Hp} : Step A H A H := Step.sub fun _ h => h
theorem Step.trans {A A1 A2 : List Addr} {H H1 H2 : Hp} (a : Step A H A1 H1) (b : Step A1 H1 A2 H2) : Step A H A2 H2 where
  keep := fun c o h hc => by
    refine b.keep c o (a.keep c o h hc) fun h1 => ?_
    rcases a.new c h1 with z | z
    · exact hc z
    · rw [h] at z; cases z
  new := fun c hc => by
    rcases b.new c hc with z | z
    · exact a.new c z
    · refine .inr ?_
      cases q : H c with
      | none => rfl
      | some o =>
        obtain ⟨o', e⟩ := a.there c o q
        rw [z] at e; cases e
  there := fun c o h => by
    obtain ⟨o', e⟩ := a.there c o h
    exact b.there c o' e
  stab := fun c C dx ws h => by
    obtain ⟨ws1, e1, q1⟩ := a.stab c C dx ws h
    obtain ⟨ws2, e2, q2⟩ := b.stab c C dx ws1 e1
    exact ⟨ws2, e2, fun f x l n => q2 f x (q1 f x l n) (a.nt x n)⟩
  nt := fun x n => b.nt x (a.nt x n)
  frz := fun c ob u h => b.frz c ob u (a.frz c ob u h)
theorem Step.mono {A B A' B' : List Addr} {H H' : Hp} (s : Step A H A' H') (h : ∀ b ∈ A, b ∈ B) (h' : ∀ b ∈ B', b ∈ A' ∨ b ∈ B) : Step B H B' H' :=
  ⟨fun c o e hc => s.keep c o e fun z => hc (h c z), fun c hc => (h' c hc).elim (fun z => (s.new c z).imp (h c) id) .inl, s.there, s.stab, s.nt, s.frz⟩
/-- all that stood stands; B is new -/
theorem Step.ext {A B : List Addr} {H H' : Hp} (e : ∀ b o, H b = some o → H' b = some o) (n : ∀ b ∈ B, H b = none) : Step A H (B ++ A) H' :=
  ⟨fun b o h _ => e b o h, fun b hb => (List.mem_append.mp hb).elim (fun z => .inr (n b z)) .inl, fun b o h => ⟨o, e b o h⟩, fun b C dx ws h => ⟨ws, e b _ h, fun _ _ q _ => q⟩, fun a ⟨o, h, q⟩ => ⟨o, e a o h, q⟩, fun b ob u h => e b _ h⟩

/-! ### what doesn't change -/
theorem sq_lst {K : PySem.W.Frag} {F : List Addr} {H : Hp} {p : Addr} {vs : List V} (h : (p ∉ F ∧ ∃ o, H p = some (.frz o (.lst vs))) ∨ KLs K p vs) : SqL K H p vs := by
  rcases h with ⟨_, o, h⟩ | h
  · exact .inl (.inr ⟨o, h⟩)
  · exact .inr h
/-- b stands, whatever is done: a list that is frozen for good, or a tuple -/
def Fz (F : List Addr) (b : Addr) (o : HO) : Prop := (b ∉ F ∧ ∃ ob u, o = .frz ob u) ∨ ∃ vs, o = .tup vs
mutual
theorem Pr.keepF {K : PySem.W.Frag} {F F' : List Addr} {H H' : Hp} (k : ∀ b o, H b = some o → Fz F b o → (b ∉ F → b ∉ F' ∨ ∃ vs, o = .tup vs) ∧ H' b = some o) : ∀ (d : D) (v : V), Pr K F H d v → Pr K F' H' d v
  | _, _, .non => .non
  | _, _, .bl b => .bl b
  | _, _, .int i => .int i
  | _, _, .str s => .str s
  | .tup xs, _, .tup h q => .tup (k _ _ h (.inr ⟨_, rfl⟩)).2 (Prs.keepF k xs _ q)
  | .ktup xs, _, .ktup h q => .ktup h (Prs.keepF k xs _ q)
  | .fls xs, _, .fls h q => .fls (h.imp (fun ⟨m, o, e⟩ =>
      have z := k _ _ e (.inl ⟨m, _, _, rfl⟩)
      ⟨(z.1 m).resolve_right (fun ⟨_, y⟩ => nomatch y), o, z.2⟩) id) (Prs.keepF k xs _ q)
theorem Prs.keepF {K : PySem.W.Frag} {F F' : List Addr} {H H' : Hp} (k : ∀ b o, H b = some o → Fz F b o → (b ∉ F → b ∉ F' ∨ ∃ vs, o = .tup vs) ∧ H' b = some o) : ∀ (xs : List D) (vs : List V), Prs K F H xs vs → Prs K F' H' xs vs
  | _, _, .nil => .nil
  | x :: xs, _, .cons h q => .cons (Pr.keepF k x _ h) (Prs.keepF k xs _ q)
end
theorem Pr.keep {K : PySem.W.Frag} {F : List Addr} {H H' : Hp} (k : ∀ b o, H b = some o → Fz F b o → H' b = some o) (d : D) (v : V) (h : Pr K F H d v) : Pr K F H' d v := h.keepF fun b o e z => ⟨.inl, k b o e z⟩
theorem Prs.keep {K : PySem.W.Frag} {F : List Addr} {H H' : Hp} (k : ∀ b o, H b = some o → Fz F b o → H' b = some o) (xs : List D) (vs : List V) (h : Prs K F H xs vs) : Prs K F H' xs vs := h.keepF fun b o e z => ⟨.inl, k b o e z⟩
theorem Pr.pure {K : PySem.W.Frag} {F : List Addr} {H : Hp} {d : D} {v : V} (h : Pr K F H d v) : d.pure = true := by cases h <;> rfl
theorem Mr.ofPure {w : Wd} {F : List Addr} {H : Hp} {d : D} {v : V} {A : List Addr} (h : Mr w F H d v A) (hp : d.pure = true) : Pr w.K F H d v ∧ A = [] := by
  cases h with
  | pr h => exact ⟨h, rfl⟩
  | _ => simp [D.pure] at hp
mutual
theorem Mr.keepF {w : Wd} {F F' : List Addr} {H H' : Hp} (g : ∀ b ob u, H b = some (.frz ob u) → b ∉ F → b ∉ F') : ∀ (d : D) (v : V) (A : List Addr), (∀ b o, H b = some o → b ∈ A ∨ Fz F b o → H' b = some o) → Mr w F H d v A → Mr w F' H' d v A
  | d, _, _, k, .pr h => .pr (Pr.keepF (fun b o e q => ⟨fun n => q.imp (fun ⟨_, ob, u, y⟩ => g b ob u (y ▸ e) n) id, k b o e (.inr q)⟩) d _ h)
  | .lst xs, _, _, k, .lst h q => .lst (k _ _ h (.inl (by simp))) (Prs.keepF (fun b o e q => ⟨fun n => q.imp (fun ⟨_, ob, u, y⟩ => g b ob u (y ▸ e) n) id, k b o e (.inr q)⟩) xs _ q)
  | .dk xs, _, _, k, .dk h e q => .dk (k _ _ h (.inl (by simp))) e (Prs.keepF (fun b o e q => ⟨fun n => q.imp (fun ⟨_, ob, u, y⟩ => g b ob u (y ▸ e) n) id, k b o e (.inr q)⟩) _ _ q)
  | .dt xs, _, _, k, .dt h e q => .dt (k _ _ h (.inl (by simp))) e (Prs.keepF (fun b o e q => ⟨fun n => q.imp (fun ⟨_, ob, u, y⟩ => g b ob u (y ▸ e) n) id, k b o e (.inr q)⟩) _ _ q)
  | .obj c fs, _, _, k, .obj h e1 e2 e3 q => .obj (k _ _ h (.inl (by simp))) e1 e2 e3 (Ml.keepF g _ _ (fun b o e z => k b o e (z.imp (fun y => List.mem_cons_of_mem _ y) id)) q)
  | .hole, _, _, _, .hole => .hole
  | .lk (.lst xs), _, _, k, .lkl h q => .lkl (k _ _ h (.inl (by simp))) (Prs.keepF (fun b o e q => ⟨fun n => q.imp (fun ⟨_, ob, u, y⟩ => g b ob u (y ▸ e) n) id, k b o e (.inr q)⟩) xs _ q)
  | .lk (.dk xs), _, _, k, .lkk h e q => .lkk (k _ _ h (.inl (by simp))) e (Prs.keepF (fun b o e q => ⟨fun n => q.imp (fun ⟨_, ob, u, y⟩ => g b ob u (y ▸ e) n) id, k b o e (.inr q)⟩) _ _ q)
  | .lk (.dt xs), _, _, k, .lkt h e q => .lkt (k _ _ h (.inl (by simp))) e (Prs.keepF (fun b o e q => ⟨fun n => q.imp (fun ⟨_, ob, u, y⟩ => g b ob u (y ▸ e) n) id, k b o e (.inr q)⟩) _ _ q)
theorem Ml.keepF {w : Wd} {F F' : List Addr} {H H' : Hp} (g : ∀ b ob u, H b = some (.frz ob u) → b ∉ F → b ∉ F') : ∀ (L : List (D × V)) (A : List Addr), (∀ b o, H b = some o → b ∈ A ∨ Fz F b o → H' b = some o) → Ml w F H L A → Ml w F' H' L A
  | _, _, _, .nil => .nil
  | _ :: _, _, k, .cons h q => .cons (Mr.keepF g _ _ _ (fun b o e z => k b o e (z.imp (List.mem_append_left _) id)) h) (Ml.keepF g _ _ (fun b o e z => k b o e (z.imp (List.mem_append_right _) id)) q)
end
theorem Mr.keep {w : Wd} {F : List Addr} {H H' : Hp} (d : D) (v : V) (A : List Addr) (k : ∀ b o, H b = some o → b ∈ A ∨ Fz F b o → H' b = some o) (h : Mr w F H d v A) : Mr w F H' d v A := h.keepF (fun _ _ _ _ n => n) _ _ _ k
theorem Ml.keep {w : Wd} {F : List Addr} {H H' : Hp} (L : List (D × V)) (A : List Addr) (k : ∀ b o, H b = some o → b ∈ A ∨ Fz F b o → H' b = some o) (h : Ml w F H L A) : Ml w F H' L A := h.keepF (fun _ _ _ _ n => n) _ _ k
mutual
theorem Mr.held {w : Wd} {F : List Addr} {H : Hp} : ∀ (d : D) (v : V) (A : List Addr), Mr w F H d v A → ∀ b ∈ A, Nt H b
  | _, _, _, .pr h, b, hb => by simp at hb
  | .lst xs, _, _, .lst h q, b, hb => by
    have e := List.mem_singleton.mp hb
    subst e
    exact ⟨_, h, by intro vs z; cases z⟩
  | .dk xs, _, _, .dk h _ q, b, hb => by
    have e := List.mem_singleton.mp hb
    subst e
    exact ⟨_, h, by intro vs z; cases z⟩
  | .dt xs, _, _, .dt h _ q, b, hb => by
    have e := List.mem_singleton.mp hb
    subst e
    exact ⟨_, h, by intro vs z; cases z⟩
  | .obj c fs, _, _, .obj h e1 e2 e3 q, b, hb => by
    rcases List.mem_cons.mp hb with e | hb
    · subst e
      exact ⟨_, h, by intro vs z; cases z⟩
    · exact Ml.held _ _ q b hb
  | .hole, _, _, .hole, b, hb => by simp at hb
  | .lk (.lst xs), _, _, .lkl h q, b, hb => by
    have e := List.mem_singleton.mp hb
    subst e
    exact ⟨_, h, by intro vs z; cases z⟩
  | .lk (.dk xs), _, _, .lkk h e q, b, hb => by
    have e := List.mem_singleton.mp hb
    subst e
    exact ⟨_, h, by intro vs z; cases z⟩
  | .lk (.dt xs), _, _, .lkt h e q, b, hb => by
    have e := List.mem_singleton.mp hb
    subst e
    exact ⟨_, h, by intro vs z; cases z⟩
theorem Ml.held {w : Wd} {F : List Addr} {H : Hp} : ∀ (L : List (D × V)) (A : List Addr), Ml w F H L A → ∀ b ∈ A, Nt H b
  | _, _, .nil, b, hb => by simp at hb
  | _ :: _, _, .cons h q, b, hb => by
    rcases List.mem_append.mp hb with z | z
    · exact Mr.held _ _ _ h b z
    · exact Ml.held _ _ q b z
end
theorem Ml.app {w : Wd} {F : List Addr} {H : Hp} {L M : List (D × V)} {A B : List Addr} (h : Ml w F H L A) (g : Ml w F H M B) : Ml w F H (L ++ M) (A ++ B) := by
  induction L generalizing A with
  | nil => cases h; exact g
  | cons x L ih =>
    cases h with
    | cons h1 h2 =>
      rw [List.cons_append, List.append_assoc]
      exact .cons h1 (ih h2)
theorem Ml.split {w : Wd} {F : List Addr} {H : Hp} {L M : List (D × V)} {C : List Addr} (h : Ml w F H (L ++ M) C) : ∃ A B, C = A ++ B ∧ Ml w F H L A ∧ Ml w F H M B := by
  induction L generalizing C with
  | nil => exact ⟨[], C, rfl, .nil, h⟩
  | cons x L ih =>
    cases h with
    | cons h1 h2 =>
      obtain ⟨A, B, e, a, b⟩ := ih h2
      exact ⟨_ ++ A, B, by rw [e, List.append_assoc], .cons h1 a, b⟩
theorem Ml.perm {w : Wd} {F : List Addr} {H : Hp} {L M : List (D × V)} {A : List Addr} (p : L.Perm M) (h : Ml w F H L A) : ∃ B, A.Perm B ∧ Ml w F H M B := by
  induction p generalizing A with
  | nil => exact ⟨A, .refl _, h⟩
  | cons x p ih =>
    cases h with
    | cons h1 h2 =>
      obtain ⟨B, q, h3⟩ := ih h2
      exact ⟨_, q.append_left _, .cons h1 h3⟩
  | swap x y l =>
    cases h with
    | cons h1 h2 =>
      cases h2 with
      | cons h2 h3 =>
        refine ⟨_, ?_, .cons h2 (.cons h1 h3)⟩
        rw [← List.append_assoc, ← List.append_assoc]
        exact List.perm_append_comm.append_right _
  | trans p q ih1 ih2 =>
    obtain ⟨B, q1, h1⟩ := ih1 h
    obtain ⟨C, q2, h2⟩ := ih2 h1
    exact ⟨C, q1.trans q2, h2⟩

/-! ### what one holds -/
structure Ow (w : Wd) (F : List Addr) (H : Hp) (L : List (D × V)) (A : List Addr) : Prop where
  ml : Ml w F H L A
  nd : A.Nodup
  fr : ∀ p ∈ F, ∃ ob u, H p = some (.frz ob u)
theorem Ow.perm {w : Wd} {F : List Addr} {H : Hp} {L M : List (D × V)} {A : List Addr} (o : Ow w F H L A) (p : L.Perm M) : ∃ B, A.Perm B ∧ Ow w F H M B := by
  obtain ⟨B, q, h⟩ := Ml.perm p o.ml
  exact ⟨B, q, h, q.nodup_iff.mp o.nd, o.fr⟩
/-- dropping -/
theorem Ow.right {w : Wd} {F : List Addr} {H : Hp} {L M : List (D × V)} {C : List Addr} (o : Ow w F H (L ++ M) C) : ∃ A B, C = A ++ B ∧ Ow w F H L A ∧ Ow w F H M B := by
  obtain ⟨A, B, e, a, b⟩ := o.ml.split
  subst e
  have n := List.nodup_append.mp o.nd
  exact ⟨A, B, rfl, ⟨a, n.1, o.fr⟩, ⟨b, n.2.1, o.fr⟩⟩
/-- what is frozen stays so -/
theorem Step.fr {F A A' : List Addr} {H H' : Hp} (s : Step A H A' H') (f : ∀ p ∈ F, ∃ ob u, H p = some (.frz ob u)) : ∀ p ∈ F, ∃ ob u, H' p = some (.frz ob u) := fun p hp => let ⟨ob, u, e⟩ := f p hp; ⟨ob, u, s.frz p ob u e⟩
/-- THE FRAME: a part of what one holds changes -/
theorem Ow.frameF {w : Wd} {F F' : List Addr} {H H' : Hp} {L' M : List (D × V)} {A A' B : List Addr} (g : ∀ b ob u, H b = some (.frz ob u) → b ∉ F → b ∉ F') (n : (A ++ B).Nodup) (mB : Ml w F H M B) (heldA : ∀ b ∈ A, Nt H b) (o' : Ow w F' H' L' A') (s : Step A H A' H') :
    Ow w F' H' (L' ++ M) (A' ++ B) ∧ Step (A ++ B) H (A' ++ B) H' := by
  have nn := List.nodup_append.mp n
  have hB : ∀ b ∈ B, ∃ o, H b = some o := fun b hb => let ⟨o, e, _⟩ := Ml.held _ _ mB b hb; ⟨o, e⟩
  have mB' : Ml w F' H' M B := by
    refine Ml.keepF g _ _ (fun b o e z => ?_) mB
    rcases z with z | ⟨_, ob, u, z⟩ | ⟨vs, z⟩
    · exact s.keep b o e fun hA => nn.2.2 b hA b z rfl
    · subst z; exact s.frz b ob u e
    · refine s.keep b o e fun hA => ?_
      obtain ⟨o1, e1, q⟩ := heldA b hA
      rw [e] at e1; cases e1; exact q _ z
  refine ⟨⟨o'.ml.app mB', List.nodup_append.mpr ⟨o'.nd, nn.2.1, fun a ha b hb e => ?_⟩, o'.fr⟩, ?_⟩
  · subst e
    rcases s.new a ha with z | z
    · exact nn.2.2 a z a hb rfl
    · obtain ⟨o, e⟩ := hB a hb
      rw [z] at e; cases e
  · refine s.mono (fun b hb => List.mem_append_left _ hb) fun b hb => ?_
    rcases List.mem_append.mp hb with z | z
    · exact .inl z
    · exact .inr (List.mem_append_right _ z)
theorem Ow.frame {w : Wd} {F : List Addr} {H H' : Hp} {L L' M : List (D × V)} {A A' B : List Addr} (n : (A ++ B).Nodup) (mB : Ml w F H M B) (heldA : ∀ b ∈ A, Nt H b) (o' : Ow w F H' L' A') (s : Step A H A' H') :
    Ow w F H' (L' ++ M) (A' ++ B) ∧ Step (A ++ B) H (A' ++ B) H' := Ow.frameF (fun _ _ _ _ n => n) n mB heldA o' s
end Q
end
section
set_option Elab.async false
set_option linter.all false
set_option maxRecDepth 100000
namespace Q
open PySem PySem.Spec PyProof.Rows L2
/-! slots, places -/
inductive Lv : Sl → L2.St → List (D × V) → Prop
  | nil : Lv [] [] []
  | no {S : Sl} {σ : L2.St} {L : List (D × V)} {x : Option V} : Lv S σ L → Lv (none :: S) (x :: σ) L
  | so {S : Sl} {σ : L2.St} {L : List (D × V)} {d : D} {v : V} : Lv S σ L → Lv (some d :: S) (some v :: σ) ((d, v) :: L)
theorem Lv.len {S : Sl} {σ : L2.St} {L : List (D × V)} (h : Lv S σ L) : S.length = σ.length := by
  induction h with
  | nil => rfl
  | no _ ih => simp [ih]
  | so _ ih => simp [ih]
/-- a slot's value is taken out -/
theorem Lv.get {S : Sl} {σ : L2.St} {L : List (D × V)} {i : Nat} {d : D} (h : Lv S σ L) (e : S[i]? = some (some d)) : ∃ v L', σ[i]? = some (some v) ∧ Lv (S.set i none) σ L' ∧ L.Perm ((d, v) :: L') := by
  induction h generalizing i with
  | nil => simp at e
  | no h ih =>
    cases i with
    | zero => simp at e
    | succ i =>
      obtain ⟨v, L', a, b, c⟩ := ih (by simpa using e)
      exact ⟨v, L', by simpa using a, .no b, c⟩
  | @so S σ L d' v' h ih =>
    cases i with
    | zero =>
      simp at e; subst e
      exact ⟨v', L, rfl, .no h, .refl _⟩
    | succ i =>
      obtain ⟨v, L', a, b, c⟩ := ih (by simpa using e)
      exact ⟨v, (d', v') :: L', by simpa using a, .so b, (c.cons _).trans (.swap _ _ _)⟩
theorem Lv.put {S : Sl} {σ : L2.St} {L : List (D × V)} {i : Nat} {d : D} {v : V} (h : Lv S σ L) (e : S[i]? = some none) : ∃ L', Lv (S.set i (some d)) (σ.set i (some v)) L' ∧ L'.Perm ((d, v) :: L) := by
  induction h generalizing i with
  | nil => simp at e
  | @no S σ L x h ih =>
    cases i with
    | zero => exact ⟨_, .so h, .refl _⟩
    | succ i =>
      obtain ⟨L', b, c⟩ := ih (by simpa using e)
      exact ⟨L', .no b, c⟩
  | @so S σ L d' v' h ih =>
    cases i with
    | zero => simp at e
    | succ i =>
      obtain ⟨L', b, c⟩ := ih (by simpa using e)
      exact ⟨(d', v') :: L', .so b, (c.cons _).trans (.swap _ _ _)⟩
theorem Lv.none {S : Sl} {σ : L2.St} {L : List (D × V)} {i : Nat} {x : Option V} (h : Lv S σ L) (e : S[i]? = some none) : Lv S (σ.set i x) L := by
  induction h generalizing i with
  | nil => exact .nil
  | @no S σ L x h ih =>
    cases i with
    | zero => exact .no h
    | succ i => exact .no (ih (by simpa using e))
  | @so S σ L d' v' h ih =>
    cases i with
    | zero => simp at e
    | succ i => exact .so (ih (by simpa using e))
theorem Lv.drop {S : Sl} {σ : L2.St} {L : List (D × V)} {i : Nat} (h : Lv S σ L) (hi : i < S.length) : ∃ L' M, Lv (S.set i Option.none) σ L' ∧ L.Perm (M ++ L') := by
  cases e : S[i]? with
  | none => rw [List.getElem?_eq_none_iff] at e; omega
  | some x =>
    cases x with
    | none =>
      have e2 : S.set i Option.none = S := by
        apply List.ext_getElem?
        intro j
        by_cases hj : i = j
        · subst hj; rw [List.getElem?_set_self hi, e]
        · rw [List.getElem?_set_ne hj]
      exact ⟨L, [], by rw [e2]; exact h, .refl _⟩
    | some d =>
      obtain ⟨v, L', _, b, c⟩ := h.get e
      exact ⟨L', [(d, v)], b, c⟩
theorem setNone {S : Sl} {i : Nat} (hi : i < S.length) : (S.set i (none : Option D))[i]? = some none := List.getElem?_set_self hi
theorem set_set {α : Type} {S : List α} {i : Nat} {x y : α} : (S.set i x).set i y = S.set i y := by simp

/-- all that is known at a point: slots S at σ, further values T, held A -/
def Rl (w : Wd) (F : List Addr) (H : Hp) (S : Sl) (σ : L2.St) (T : List (D × V)) (A : List Addr) : Prop := ∃ L, Lv S σ L ∧ Ow w F H (L ++ T) A
section
variable {w : Wd} {F : List Addr} {H H' : Hp} {S S' : Sl} {σ : L2.St} {T T' U : List (D × V)} {A A' : List Addr}
theorem Rl.tperm (r : Rl w F H S σ T A) (p : T.Perm T') : ∃ B, A.Perm B ∧ Rl w F H S σ T' B := by
  obtain ⟨L, l, o⟩ := r
  obtain ⟨B, q, o'⟩ := o.perm (p.append_left L)
  exact ⟨B, q, L, l, o'⟩
theorem step_perm {B : List Addr} (p : A.Perm B) : Step A H B H := Step.sub fun _ hb => p.mem_iff.mpr hb
theorem Rl.tdrop (r : Rl w F H S σ (U ++ T) A) : ∃ B, Rl w F H S σ T B ∧ Step A H B H := by
  obtain ⟨L, l, o⟩ := r
  have p : (L ++ (U ++ T)).Perm (U ++ (L ++ T)) := by
    rw [← List.append_assoc, ← List.append_assoc]
    exact List.perm_append_comm.append_right T
  obtain ⟨B, q, o'⟩ := o.perm p
  obtain ⟨B1, B2, e, _, o2⟩ := o'.right
  exact ⟨B2, ⟨L, l, o2⟩, Step.sub fun b hb => q.mem_iff.mpr (by rw [e]; exact List.mem_append_right _ hb)⟩
theorem Rl.tdrop1 {x : D × V} (r : Rl w F H S σ (x :: T) A) : ∃ B, Rl w F H S σ T B ∧ Step A H B H := Rl.tdrop (U := [x]) r
/-- THE FRAME, for the values on top -/
theorem Rl.frame (r : Rl w F H S σ (U ++ T) A) (k : ∀ B, Ow w F H U B → (∀ b ∈ B, b ∈ A) → ∃ U' B', Ow w F H' U' B' ∧ Step B H B' H' ∧ T' = U' ++ T) : ∃ A', Rl w F H' S σ T' A' ∧ Step A H A' H' := by
  obtain ⟨L, l, o⟩ := r
  have p : (L ++ (U ++ T)).Perm (U ++ (L ++ T)) := by
    rw [← List.append_assoc, ← List.append_assoc]
    exact List.perm_append_comm.append_right T
  obtain ⟨B, q, o'⟩ := o.perm p
  obtain ⟨B1, B2, e, o1, o2⟩ := o'.right
  obtain ⟨U', B', oU, s, eT⟩ := k B1 o1 fun b hb => q.mem_iff.mpr (by rw [e]; exact List.mem_append_left _ hb)
  subst e
  obtain ⟨oo, ss⟩ := Ow.frame (L := U) o'.nd o2.ml (fun b hb => Ml.held _ _ o1.ml b hb) oU s
  have p2 : (U' ++ (L ++ T)).Perm (L ++ (U' ++ T)) := by
    rw [← List.append_assoc, ← List.append_assoc]
    exact List.perm_append_comm.append_right T
  obtain ⟨C, q2, o3⟩ := oo.perm p2
  exact ⟨C, ⟨L, l, by rw [eT]; exact o3⟩, (step_perm q).trans (ss.trans (step_perm q2))⟩
/-- a new value on top -/
theorem Rl.push {d : D} {v : V} {B : List Addr} (r : Rl w F H S σ T A) (e : ∀ b o, H b = some o → H' b = some o) (n : ∀ b ∈ B, H b = none) (nd : B.Nodup) (m : Mr w F H' d v B) : ∃ A', Rl w F H' S σ ((d, v) :: T) A' ∧ Step A H A' H' := by
  refine Rl.frame (U := []) (T := T) (T' := [(d, v)] ++ T) r fun C o _ => ⟨[(d, v)], B, ⟨?_, nd, fun p hp => ?_⟩, ?_, rfl⟩
  · have := Ml.cons m (.nil (w := w) (F := F) (H := H')); rwa [List.append_nil] at this
  · obtain ⟨ob, u, h⟩ := o.fr p hp
    exact ⟨ob, u, e _ _ h⟩
  · have s := Step.ext (A := C) e n
    exact s.mono (fun _ h => h) fun b hb => .inl (List.mem_append_left _ hb)
theorem Rl.pushP {d : D} {v : V} (r : Rl w F H S σ T A) (m : Pr w.K F H d v) : ∃ A', Rl w F H S σ ((d, v) :: T) A' ∧ Step A H A' H := Rl.push (B := []) r (fun _ _ h => h) (fun _ h => by simp at h) List.nodup_nil (.pr m)
/-- the value on top -/
theorem Rl.top {d : D} {v : V} (r : Rl w F H S σ ((d, v) :: T) A) : ∃ B, Mr w F H d v B ∧ ∀ b ∈ B, b ∈ A := by
  obtain ⟨L, l, o⟩ := r
  have p : (L ++ ((d, v) :: T)).Perm ((d, v) :: (L ++ T)) := List.perm_middle
  obtain ⟨B, q, o'⟩ := o.perm p
  cases o'.ml with
  | cons m _ => exact ⟨_, m, fun b hb => q.mem_iff.mpr (List.mem_append_left _ hb)⟩
theorem Rl.mem {x : D × V} (r : Rl w F H S σ T A) (hx : x ∈ T) : ∃ B, Mr w F H x.1 x.2 B ∧ ∀ b ∈ B, b ∈ A := by
  obtain ⟨T1, T2, e⟩ := List.append_of_mem hx
  have p : T.Perm (x :: (T1 ++ T2)) := by rw [e]; exact List.perm_middle
  obtain ⟨B, q, r'⟩ := r.tperm p
  obtain ⟨C, m, s⟩ := Rl.top (d := x.1) (v := x.2) r'
  exact ⟨C, m, fun b hb => q.mem_iff.mpr (s b hb)⟩
/-- a slot's value onto the top -/
theorem Rl.takeSlot {i : Nat} {d : D} (r : Rl w F H S σ T A) (e : S[i]? = some (some d)) : ∃ v A', σ[i]? = some (some v) ∧ Rl w F H (S.set i none) σ ((d, v) :: T) A' ∧ A.Perm A' := by
  obtain ⟨L, l, o⟩ := r
  obtain ⟨v, L', a, b, c⟩ := l.get e
  have p : (L ++ T).Perm (L' ++ ((d, v) :: T)) := (c.append_right T).trans (by rw [List.cons_append]; exact List.perm_middle.symm)
  obtain ⟨B, q, o'⟩ := o.perm p
  exact ⟨v, B, a, ⟨L', b, o'⟩, q⟩
/-- the value on top is stored -/
theorem Rl.store {i : Nat} {d : D} {v : V} (r : Rl w F H S σ ((d, v) :: T) A) (hi : i < S.length) : ∃ A', Rl w F H (S.set i (some d)) (σ.set i (some v)) T A' ∧ Step A H A' H := by
  obtain ⟨L, l, o⟩ := r
  obtain ⟨L1, M, b, c⟩ := l.drop hi
  obtain ⟨L2, b2, c2⟩ := b.put (d := d) (v := v) (setNone hi)
  rw [set_set] at b2
  have p : (L ++ ((d, v) :: T)).Perm (M ++ (L2 ++ T)) := by
    refine (c.append_right _).trans ?_
    rw [List.append_assoc]
    refine List.Perm.append_left M ?_
    refine List.perm_middle.trans ?_
    rw [← List.cons_append]
    exact c2.symm.append_right T
  obtain ⟨B, q, o'⟩ := o.perm p
  obtain ⟨B1, B2, e, _, o2⟩ := o'.right
  exact ⟨B2, ⟨L2, b2, o2⟩, Step.sub fun b hb => q.mem_iff.mpr (by rw [e]; exact List.mem_append_right _ hb)⟩
/-- the value on top goes to the empty slot that names it -/
theorem Rl.back {i : Nat} {d : D} {v : V} (r : Rl w F H S σ ((d, v) :: T) A) (e : S[i]? = some none) (hv : σ[i]? = some (some v)) : ∃ A', Rl w F H (S.set i (some d)) σ T A' ∧ A.Perm A' := by
  obtain ⟨L, l, o⟩ := r
  obtain ⟨L2, b2, c2⟩ := l.put (d := d) (v := v) e
  have eσ : σ.set i (some v) = σ := by
    apply List.ext_getElem?
    intro j
    by_cases hj : i = j
    · subst hj; rw [List.getElem?_set_self (List.getElem?_eq_some_iff.mp hv).1, hv]
    · rw [List.getElem?_set_ne hj]
  rw [eσ] at b2
  have p : (L ++ ((d, v) :: T)).Perm (L2 ++ T) := by
    refine List.perm_middle.trans ?_
    rw [← List.cons_append]
    exact c2.symm.append_right T
  obtain ⟨B, q, o'⟩ := o.perm p
  exact ⟨B, ⟨L2, b2, o'⟩, q⟩
/-- a slot is forgotten -/
theorem Rl.forget {i : Nat} (r : Rl w F H S σ T A) (hi : i < S.length) : ∃ A', Rl w F H (S.set i none) σ T A' ∧ Step A H A' H := by
  obtain ⟨L, l, o⟩ := r
  obtain ⟨L1, M, b, c⟩ := l.drop hi
  have p : (L ++ T).Perm (M ++ (L1 ++ T)) := by rw [← List.append_assoc]; exact c.append_right T
  obtain ⟨B, q, o'⟩ := o.perm p
  obtain ⟨B1, B2, e, _, o2⟩ := o'.right
  exact ⟨B2, ⟨L1, b, o2⟩, Step.sub fun b hb => q.mem_iff.mpr (by rw [e]; exact List.mem_append_right _ hb)⟩
theorem Rl.len (r : Rl w F H S σ T A) : S.length = σ.length := let ⟨_, l, _⟩ := r; l.len
end

/-! ### places -/
/-- along fields from v0 one comes to v, which is no tuple -/
def FV (w : Wd) (H : Hp) : V → List Nat → V → Prop
  | v0, [], v => v = v0 ∧ ∃ a, v0 = .ref a ∧ Nt H a
  | v0, f :: r, v => ∃ a C dx ws x, v0 = .ref a ∧ H a = some (.ins C dx ws) ∧ ws.lookup (w.n.fld f) = some x ∧ FV w H x r v
def PV (w : Wd) (H : Hp) (σ : L2.St) (i : Nat) (p : List Nat) (v : V) : Prop := ∃ v0, σ[i]? = some (some v0) ∧ FV w H v0 p v
theorem FV.nt {w : Wd} {H : Hp} {v0 v : V} {p : List Nat} (h : FV w H v0 p v) : ∃ a, v0 = .ref a ∧ Nt H a := by
  cases p with
  | nil => exact h.2
  | cons f r =>
    obtain ⟨a, C, dx, ws, x, e, h1, _⟩ := h
    exact ⟨a, e, _, h1, by intro vs z; cases z⟩
theorem FV.step {w : Wd} {H H' : Hp} {A A' : List Addr} (s : Step A H A' H') : ∀ {p : List Nat} {v0 v : V}, FV w H v0 p v → FV w H' v0 p v
  | [], v0, v, ⟨e, a, e2, n⟩ => ⟨e, a, e2, s.nt a n⟩
  | f :: r, v0, v, ⟨a, C, dx, ws, x, e, h1, l, h⟩ => by
    obtain ⟨ws', h2, q⟩ := s.stab a C dx ws h1
    obtain ⟨b, eb, nb⟩ := h.nt
    subst eb
    exact ⟨a, C, dx, ws', _, e, h2, q _ b l nb, FV.step s h⟩
theorem PV.step {w : Wd} {H H' : Hp} {A A' : List Addr} {σ : L2.St} {i : Nat} {p : List Nat} {v : V} (s : Step A H A' H') (h : PV w H σ i p v) : PV w H' σ i p v := let ⟨v0, e, q⟩ := h; ⟨v0, e, q.step s⟩
theorem FV.inj {w : Wd} {H : Hp} : ∀ {p : List Nat} {v0 v u : V}, FV w H v0 p v → FV w H v0 p u → v = u
  | [], _, _, _, ⟨e, _⟩, ⟨e', _⟩ => e.trans e'.symm
  | f :: r, _, _, _, ⟨a, C, dx, ws, x, e, h1, l, h⟩, ⟨a', C', dx', ws', x', e', h1', l', h'⟩ => by
    subst e; cases e'
    rw [h1] at h1'; cases h1'
    rw [l] at l'; cases l'
    exact FV.inj h h'
theorem PV.inj {w : Wd} {H : Hp} {σ : L2.St} {i : Nat} {p : List Nat} {v u : V} (h : PV w H σ i p v) (g : PV w H σ i p u) : v = u := by
  obtain ⟨x, e, q⟩ := h
  obtain ⟨y, e', q'⟩ := g
  rw [e] at e'; cases e'
  exact q.inj q'
/-- what is held alone is no tuple -/
theorem Mr.lin_nt {w : Wd} {F : List Addr} {H : Hp} {d : D} {v : V} {A : List Addr} (h : Mr w F H d v A) (hl : d.lin = true) : ∃ a, v = .ref a ∧ Nt H a := by
  cases h with
  | pr h => have := h.pure; cases d <;> simp [D.pure, D.lin] at this hl
  | lst h _ => exact ⟨_, rfl, _, h, by intro vs z; cases z⟩
  | dk h _ _ => exact ⟨_, rfl, _, h, by intro vs z; cases z⟩
  | dt h _ _ => exact ⟨_, rfl, _, h, by intro vs z; cases z⟩
  | obj h _ _ _ _ => exact ⟨_, rfl, _, h, by intro vs z; cases z⟩
  | hole => simp [D.lin] at hl
  | lkl h _ => exact ⟨_, rfl, _, h, by intro vs z; cases z⟩
  | lkk h _ _ => exact ⟨_, rfl, _, h, by intro vs z; cases z⟩
  | lkt h _ _ => exact ⟨_, rfl, _, h, by intro vs z; cases z⟩
theorem fieldIx_some : ∀ {l : List Nat} {f j : Nat}, fieldIx l f = some j → l[j]? = some f
  | [], f, j, h => by simp [fieldIx] at h
  | g :: r, f, j, h => by
    unfold fieldIx at h
    split at h
    · rename_i e; cases h; subst e; rfl
    · cases e : fieldIx r f with
      | none => rw [e] at h; simp at h
      | some k =>
        rw [e] at h; simp at h; subst h
        simpa using fieldIx_some e
theorem lookup_at {α : Type} : ∀ {ws : List (Str × α)} {j : Nat} {f : Str} {v : α}, (ws.map (·.1)).Nodup → ws[j]? = some (f, v) → ws.lookup f = some v
  | [], _, _, _, _, h => by simp at h
  | (g, x) :: r, 0, f, v, _, h => by simp at h; obtain ⟨rfl, rfl⟩ := h; simp
  | (g, x) :: r, j + 1, f, v, nd, h => by
    have h' : r[j]? = some (f, v) := by simpa using h
    have ne : f ≠ g := by
      rintro rfl
      refine (List.nodup_cons.mp nd).1 ?_
      exact List.mem_map.mpr ⟨_, List.mem_of_getElem? h', rfl⟩
    rw [List.lookup_cons, beq_eq_false_iff_ne.mpr ne]
    exact lookup_at (List.nodup_cons.mp nd).2 h'
section
variable {w : Wd} {F : List Addr} {H : Hp}
/-- the field of an object, in its heap -/
theorem obj_field {c f j : Nat} {fs : List D} {ws : List (Str × V)} {d : D} (en : ws.map (·.1) = ((w.n.sg.flds c).take fs.length).map w.n.fld) (el : ws.length = fs.length) (hj : fieldIx (w.n.sg.flds c) f = some j) (hd : fs[j]? = some d) :
    ∃ v, ws[j]? = some (w.n.fld f, v) ∧ ws.lookup (w.n.fld f) = some v ∧ (fs.zip (ws.map (·.2)))[j]? = some (d, v) := by
  have hjl : j < fs.length := (List.getElem?_eq_some_iff.mp hd).1
  have hjw : j < ws.length := by omega
  have e1 : (ws.map (·.1))[j]? = some (w.n.fld f) := by
    rw [en, List.getElem?_map, List.getElem?_take_of_lt hjl, fieldIx_some hj]; rfl
  have e2 : ws[j]? = some (w.n.fld f, ws[j].2) := by
    rw [List.getElem?_eq_getElem hjw]
    rw [List.getElem?_map, List.getElem?_eq_getElem hjw] at e1
    have e1' : ws[j].1 = w.n.fld f := by simpa using e1
    rw [← e1']
  refine ⟨ws[j].2, e2, lookup_at ?_ e2, ?_⟩
  · rw [en]
    exact (w.nd c).sublist ((List.take_sublist _ _).map _)
  · rw [List.getElem?_zip_eq_some]
    exact ⟨hd, by rw [List.getElem?_map, e2]; rfl⟩
theorem ml_at {L : List (D × V)} {A : List Addr} {j : Nat} {x : D × V} (h : Ml w F H L A) (e : L[j]? = some x) : ∃ A1 B A2, A = A1 ++ B ++ A2 ∧ Mr w F H x.1 x.2 B ∧ ∀ (H' : Hp) (y : D × V) (B' : List Addr), Ml w F H' (L.take j) A1 → Ml w F H' (L.drop (j + 1)) A2 → Mr w F H' y.1 y.2 B' → Ml w F H' (L.set j y) (A1 ++ B' ++ A2) := by
  have hj := (List.getElem?_eq_some_iff.mp e).1
  have eL : L = L.take j ++ x :: L.drop (j + 1) := by
    have := List.getElem?_eq_some_iff.mp e
    rw [← this.2, ← List.drop_eq_getElem_cons this.1, List.take_append_drop]
  rw [eL] at h
  obtain ⟨A1, R, e1, h1, h2⟩ := h.split
  cases h2 with
  | @cons d v _ B A2 m h3 =>
    refine ⟨A1, B, A2, by rw [e1, List.append_assoc], m, fun H' y B' g1 g2 g3 => ?_⟩
    have e3 : L.set j y = L.take j ++ y :: L.drop (j + 1) := by rw [List.set_eq_take_append_cons_drop, if_pos hj]
    rw [e3, List.append_assoc]
    exact g1.app (.cons g3 g2)
theorem ml_sides {L : List (D × V)} {A : List Addr} {j : Nat} {x : D × V} (h : Ml w F H L A) (e : L[j]? = some x) : ∃ A1 B A2, A = A1 ++ B ++ A2 ∧ Ml w F H (L.take j) A1 ∧ Mr w F H x.1 x.2 B ∧ Ml w F H (L.drop (j + 1)) A2 := by
  have eL : L = L.take j ++ x :: L.drop (j + 1) := by
    have := List.getElem?_eq_some_iff.mp e
    rw [← this.2, ← List.drop_eq_getElem_cons this.1, List.take_append_drop]
  rw [eL] at h
  obtain ⟨A1, R, e1, h1, h2⟩ := h.split
  cases h2 with
  | @cons d v _ B A2 m h3 => exact ⟨A1, B, A2, by rw [e1, List.append_assoc], h1, m, h3⟩
theorem ml_join {L : List (D × V)} {j : Nat} {y : D × V} {A1 B A2 : List Addr} (hj : j < L.length) (h1 : Ml w F H (L.take j) A1) (m : Mr w F H y.1 y.2 B) (h2 : Ml w F H (L.drop (j + 1)) A2) : Ml w F H (L.set j y) (A1 ++ B ++ A2) := by
  have e3 : L.set j y = L.take j ++ y :: L.drop (j + 1) := by rw [List.set_eq_take_append_cons_drop, if_pos hj]
  rw [e3, List.append_assoc]
  exact h1.app (.cons m h2)
theorem zip_set : ∀ {fs : List D} {vs : List V} {j : Nat} {x y : D} {v : V}, (fs.zip vs)[j]? = some (x, v) → (fs.set j y).zip vs = (fs.zip vs).set j (y, v)
  | [], vs, j, x, y, v, e => by simp at e
  | f :: fs, [], j, x, y, v, e => by simp at e
  | f :: fs, u :: vs, 0, x, y, v, e => by simp at e; simp [e.2]
  | f :: fs, u :: vs, j + 1, x, y, v, e => by
    have e' : (fs.zip vs)[j]? = some (x, v) := by simpa using e
    simp [zip_set (y := y) e']
/-- the value at a place is taken out: a hole is left -/
theorem takeF : ∀ {p : List Nat} {d0 d d1 : D} {v0 : V} {B : List Addr}, Mr w F H d0 v0 B → rdF w.n.sg d0 p = some d → wrF w.n.sg d0 p .hole = some d1 → d.lin = true →
    ∃ v B1 B2, FV w H v0 p v ∧ Mr w F H d v B1 ∧ Mr w F H d1 v0 B2 ∧ B.Perm (B1 ++ B2)
  | [], d0, d, d1, v0, B, m, hr, hw, hl => by
    have e1 : d0 = d := by simpa [rdF] using hr
    have e2 : D.hole = d1 := by simpa [wrF] using hw
    subst e1; subst e2
    obtain ⟨a, ea, na⟩ := m.lin_nt hl
    exact ⟨v0, B, [], ⟨rfl, a, ea, na⟩, m, .hole, by simp⟩
  | f :: r, d0, d, d1, v0, B, m, hr, hw, hl => by
    cases m with
    | @obj p C dx c fs ws A h1 hc en el ml =>
      simp only [rdF, wrF] at hr hw
      cases hj : fieldIx (w.n.sg.flds c) f with
      | none => rw [hj] at hr; simp at hr
      | some j =>
        rw [hj] at hr hw
        simp only at hr hw
        cases hx : fs[j]? with
        | none => rw [hx] at hr; simp at hr
        | some x =>
          rw [hx] at hr hw
          simp only at hr hw
          cases hy : wrF w.n.sg x r .hole with
          | none => rw [hy] at hw; simp at hw
          | some y =>
            rw [hy] at hw
            simp at hw
            subst hw
            obtain ⟨u, eu, lu, eu2⟩ := obj_field en el hj hx
            obtain ⟨A1, B0, A2, eA, l1, m0, l2⟩ := ml_sides ml eu2
            obtain ⟨v, B1, B2, fv, m1, m2, pp⟩ := takeF m0 hr hy hl
            have hj2 : j < (fs.zip (ws.map (·.2))).length := (List.getElem?_eq_some_iff.mp eu2).1
            refine ⟨v, B1, p :: (A1 ++ B2 ++ A2), ⟨p, C, dx, ws, u, rfl, h1, lu, fv⟩, m1, .obj h1 hc (by rw [List.length_set]; exact en) (by rw [List.length_set]; exact el) ?_, ?_⟩
            · rw [zip_set eu2]
              exact ml_join (y := (y, u)) hj2 l1 m2 l2
            · rw [eA]
              refine (List.Perm.cons p (((pp.append_left A1).append_right A2))).trans ?_
              refine List.Perm.trans ?_ List.perm_middle.symm
              refine List.Perm.cons p ?_
              simp only [List.append_assoc]
              rw [← List.append_assoc, ← List.append_assoc B1 A1]
              exact List.perm_append_comm.append_right _
    | pr h => cases h <;> simp [rdF] at hr
    | lst _ _ => simp [rdF] at hr
    | dk _ _ _ => simp [rdF] at hr
    | dt _ _ _ => simp [rdF] at hr
    | hole => simp [rdF] at hr
    | lkl _ _ => simp [rdF] at hr
    | lkk _ _ _ => simp [rdF] at hr
    | lkt _ _ _ => simp [rdF] at hr
/-- reading along fields -/
theorem readF : ∀ {p : List Nat} {d0 d : D} {v0 : V} {B : List Addr}, Mr w F H d0 v0 B → rdF w.n.sg d0 p = some d → d.lin = true → ∃ v B1, FV w H v0 p v ∧ Mr w F H d v B1 ∧ ∀ b ∈ B1, b ∈ B
  | [], d0, d, v0, B, m, hr, hl => by
    have e1 : d0 = d := by simpa [rdF] using hr
    subst e1
    obtain ⟨a, ea, na⟩ := m.lin_nt hl
    exact ⟨v0, B, ⟨rfl, a, ea, na⟩, m, fun _ h => h⟩
  | f :: r, d0, d, v0, B, m, hr, hl => by
    cases m with
    | @obj p C dx c fs ws A h1 hc en el ml =>
      simp only [rdF] at hr
      cases hj : fieldIx (w.n.sg.flds c) f with
      | none => rw [hj] at hr; simp at hr
      | some j =>
        rw [hj] at hr
        simp only at hr
        cases hx : fs[j]? with
        | none => rw [hx] at hr; simp at hr
        | some x =>
          rw [hx] at hr
          simp only at hr
          obtain ⟨u, eu, lu, eu2⟩ := obj_field en el hj hx
          obtain ⟨A1, B0, A2, eA, l1, m0, l2⟩ := ml_sides ml eu2
          obtain ⟨v, B1, fv, m1, s⟩ := readF m0 hr hl
          refine ⟨v, B1, ⟨p, C, dx, ws, u, rfl, h1, lu, fv⟩, m1, fun b hb => ?_⟩
          rw [eA]
          exact List.mem_cons_of_mem _ (List.mem_append_left _ (List.mem_append_right _ (s b hb)))
    | pr h => cases h <;> simp [rdF] at hr
    | lst _ _ => simp [rdF] at hr
    | dk _ _ _ => simp [rdF] at hr
    | dt _ _ _ => simp [rdF] at hr
    | hole => simp [rdF] at hr
    | lkl _ _ => simp [rdF] at hr
    | lkk _ _ _ => simp [rdF] at hr
    | lkt _ _ _ => simp [rdF] at hr
/-- a value goes to the hole that names it -/
theorem putF' : ∀ {p : List Nat} {d0 d d1 : D} {v0 v : V} {B B1 : List Addr}, Mr w F H d0 v0 B → rdF w.n.sg d0 p = some .hole → wrF w.n.sg d0 p d = some d1 → FV w H v0 p v → Mr w F H d v B1 → ∃ B2, Mr w F H d1 v0 B2 ∧ (B1 ++ B).Perm B2
  | [], d0, d, d1, v0, v, B, B1, m, hr, hw, fv, md => by
    have e1 : d0 = .hole := by simpa [rdF] using hr
    have e2 : d = d1 := by simpa [wrF] using hw
    subst e1; subst e2
    obtain ⟨ev, _⟩ := fv
    subst ev
    cases m with
    | hole => exact ⟨B1, md, by simp⟩
    | pr h => cases h
  | f :: r, d0, d, d1, v0, v, B, B1, m, hr, hw, fv, md => by
    cases m with
    | @obj p C dx c fs ws A h1 hc en el ml =>
      simp only [rdF, wrF] at hr hw
      cases hj : fieldIx (w.n.sg.flds c) f with
      | none => rw [hj] at hr; simp at hr
      | some j =>
        rw [hj] at hr hw
        simp only at hr hw
        cases hx : fs[j]? with
        | none => rw [hx] at hr; simp at hr
        | some x =>
          rw [hx] at hr hw
          simp only at hr hw
          cases hy : wrF w.n.sg x r d with
          | none => rw [hy] at hw; simp at hw
          | some y =>
            rw [hy] at hw
            simp at hw
            subst hw
            obtain ⟨u, eu, lu, eu2⟩ := obj_field en el hj hx
            obtain ⟨a', C', dx', ws', x', e', h1', l', fv'⟩ := fv
            cases e'
            rw [h1] at h1'; cases h1'
            rw [lu] at l'; cases l'
            obtain ⟨A1, B0, A2, eA, l1, m0, l2⟩ := ml_sides ml eu2
            obtain ⟨B2, m2, pp⟩ := putF' m0 hr hy fv' md
            have hj2 : j < (fs.zip (ws.map (·.2))).length := (List.getElem?_eq_some_iff.mp eu2).1
            refine ⟨p :: (A1 ++ B2 ++ A2), .obj h1 hc (by rw [List.length_set]; exact en) (by rw [List.length_set]; exact el) ?_, ?_⟩
            · rw [zip_set eu2]
              exact ml_join (y := (y, u)) hj2 l1 m2 l2
            · rw [eA]
              refine List.perm_middle.trans ?_
              refine List.Perm.cons p ?_
              refine List.Perm.trans ?_ ((pp.append_left A1).append_right A2)
              simp only [List.append_assoc]
              rw [← List.append_assoc, ← List.append_assoc A1 B1]
              exact List.perm_append_comm.append_right _
    | pr h => cases h <;> simp [rdF] at hr
    | lst _ _ => simp [rdF] at hr
    | dk _ _ _ => simp [rdF] at hr
    | dt _ _ _ => simp [rdF] at hr
    | hole => simp [rdF] at hr
    | lkl _ _ => simp [rdF] at hr
    | lkk _ _ _ => simp [rdF] at hr
    | lkt _ _ _ => simp [rdF] at hr
end
section
variable {w : Wd} {F : List Addr} {H : Hp} {S S1 : Sl} {σ : L2.St} {T : List (D × V)} {A : List Addr} {i : Nat} {p : List Nat} {d : D} {v : V}
theorem Rl.readP (r : Rl w F H S σ T A) (e : rdS w.n.sg S i p = some d) (hl : d.lin = true) : ∃ v B, PV w H σ i p v ∧ Mr w F H d v B ∧ ∀ b ∈ B, b ∈ A := by
  unfold rdS at e
  split at e
  · rename_i d0 e0
    obtain ⟨v0, A', ev, r', q⟩ := r.takeSlot e0
    obtain ⟨B, m, s⟩ := r'.top
    obtain ⟨v, B1, fv, m1, s1⟩ := readF m e hl
    exact ⟨v, B1, ⟨v0, ev, fv⟩, m1, fun b hb => q.mem_iff.mpr (s b (s1 b hb))⟩
  · cases e
theorem wrS_get (e : wrS w.n.sg S i p d = some S1) : ∃ d0 d1, S[i]? = some (some d0) ∧ wrF w.n.sg d0 p d = some d1 ∧ S1 = S.set i (some d1) := by
  unfold wrS at e
  split at e
  · rename_i d0 e0
    cases q : wrF w.n.sg d0 p d with
    | none => rw [q] at e; simp at e
    | some d1 => rw [q] at e; simp at e; exact ⟨d0, d1, e0, q, e.symm⟩
  · cases e
theorem lt_of_get {S : Sl} {i : Nat} {x : Option D} (e : S[i]? = some x) : i < S.length := (List.getElem?_eq_some_iff.mp e).1
theorem Rl.takeP (r : Rl w F H S σ T A) (e : rdS w.n.sg S i p = some d) (e1 : wrS w.n.sg S i p .hole = some S1) (hl : d.lin = true) : ∃ v A', PV w H σ i p v ∧ Rl w F H S1 σ ((d, v) :: T) A' ∧ A.Perm A' := by
  obtain ⟨d0, d1, e0, ew, rfl⟩ := wrS_get e1
  have e' : rdF w.n.sg d0 p = some d := by unfold rdS at e; rw [e0] at e; exact e
  obtain ⟨v0, A0, ev, ⟨L, l, o⟩, q⟩ := r.takeSlot e0
  have p0 : (L ++ ((d0, v0) :: T)).Perm ((d0, v0) :: (L ++ T)) := List.perm_middle
  obtain ⟨B, q1, o1⟩ := o.perm p0
  have nd1 := o1.nd
  have fr1 := o1.fr
  cases o1.ml with
  | @cons _ _ _ B0 BR m mr =>
    obtain ⟨v, B1, B2, fv, m1, m2, pp⟩ := takeF m e' ew hl
    -- the slot again, with the hole
    have hlen : i < (S.set i none).length := by rw [List.length_set]; exact lt_of_get e0
    obtain ⟨L2, b2, c2⟩ := l.put (d := d1) (v := v0) (setNone (lt_of_get e0))
    rw [set_set] at b2
    have eσ : σ.set i (some v0) = σ := by
      apply List.ext_getElem?
      intro j
      by_cases hj : i = j
      · subst hj; rw [List.getElem?_set_self (List.getElem?_eq_some_iff.mp ev).1, ev]
      · rw [List.getElem?_set_ne hj]
    rw [eσ] at b2
    have m3 : Ml w F H ((d, v) :: (d1, v0) :: (L ++ T)) (B1 ++ (B2 ++ BR)) := .cons m1 (.cons m2 mr)
    have q2 : (B0 ++ BR).Perm (B1 ++ (B2 ++ BR)) := by rw [← List.append_assoc]; exact pp.append_right BR
    have p4 : ((d, v) :: (d1, v0) :: (L ++ T)).Perm (L2 ++ ((d, v) :: T)) := by
      refine List.Perm.trans ?_ List.perm_middle.symm
      refine List.Perm.cons _ ?_
      rw [← List.cons_append]
      exact c2.symm.append_right T
    obtain ⟨C, q3, m4⟩ := Ml.perm p4 m3
    have qq : A.Perm C := ((q.trans q1).trans q2).trans q3
    exact ⟨v, C, ⟨v0, ev, fv⟩, ⟨L2, b2, m4, (q2.trans q3).nodup_iff.mp nd1, fr1⟩, qq⟩
theorem Rl.putP (r : Rl w F H S σ ((d, v) :: T) A) (e : rdS w.n.sg S i p = some .hole) (e1 : wrS w.n.sg S i p d = some S1) (pv : PV w H σ i p v) : ∃ A', Rl w F H S1 σ T A' ∧ A.Perm A' := by
  obtain ⟨d0, d1, e0, ew, rfl⟩ := wrS_get e1
  have e' : rdF w.n.sg d0 p = some .hole := by unfold rdS at e; rw [e0] at e; exact e
  obtain ⟨v0, A0, ev, ⟨L, l, o⟩, q⟩ := r.takeSlot e0
  obtain ⟨v0', ev', fv⟩ := pv
  rw [ev] at ev'; cases ev'
  have p0 : (L ++ ((d0, v0) :: (d, v) :: T)).Perm ((d, v) :: (d0, v0) :: (L ++ T)) := (List.perm_middle.trans (List.Perm.cons _ List.perm_middle)).trans (.swap _ _ _)
  obtain ⟨B, q1, o1⟩ := o.perm p0
  have nd1 := o1.nd
  have fr1 := o1.fr
  cases o1.ml with
  | @cons _ _ _ B1 B' m1 mm =>
    cases mm with
    | @cons _ _ _ B0 BR m mr =>
      obtain ⟨B2, m2, pp⟩ := putF' m e' ew fv m1
      obtain ⟨L2, b2, c2⟩ := l.put (d := d1) (v := v0) (setNone (lt_of_get e0))
      rw [set_set] at b2
      have eσ : σ.set i (some v0) = σ := by
        apply List.ext_getElem?
        intro j
        by_cases hj : i = j
        · subst hj; rw [List.getElem?_set_self (List.getElem?_eq_some_iff.mp ev).1, ev]
        · rw [List.getElem?_set_ne hj]
      rw [eσ] at b2
      have m3 : Ml w F H ((d1, v0) :: (L ++ T)) (B2 ++ BR) := .cons m2 mr
      have q2 : (B1 ++ (B0 ++ BR)).Perm (B2 ++ BR) := by rw [← List.append_assoc]; exact pp.append_right BR
      have p4 : ((d1, v0) :: (L ++ T)).Perm (L2 ++ T) := by
        rw [← List.cons_append]
        exact c2.symm.append_right T
      obtain ⟨C, q3, m4⟩ := Ml.perm p4 m3
      exact ⟨C, ⟨L2, b2, m4, (q2.trans q3).nodup_iff.mp nd1, fr1⟩, ((q.trans q1).trans q2).trans q3⟩
end
end Q
end
section
set_option Elab.async false
set_option linter.all false
set_option maxRecDepth 100000
namespace Q
open PySem PySem.Spec PyProof.Rows L2
/-! readings of the core's evaluations -/
theorem PE.weak {X : Cx} {e : Expr} {t t' : TE} (h : PE X e t) (k : ∀ σ H Q, t' σ H Q → t σ H Q) : PE X e t' := ⟨fun pins s σ H Q I q => h.run pins s σ H Q I (k σ H Q q)⟩
theorem PE.or {X : Cx} {e : Expr} {t t' : TE} (h : PE X e t) (g : PE X e t') : PE X e (fun σ H Q => t σ H Q ∨ t' σ H Q) := ⟨fun pins s σ H Q I q => q.elim (h.run pins s σ H Q I) (g.run pins s σ H Q I)⟩
theorem PT.weak {X : Cx} {e : Expr} {t t' : TT} (h : PT X e t) (k : ∀ σ H Q, t' σ H Q → t σ H Q) : PT X e t' := ⟨fun pins s σ H Q I q => h.run pins s σ H Q I (k σ H Q q)⟩
theorem PA.weak {X : Cx} {e : List Expr} {t t' : TA} (h : PA X e t) (k : ∀ σ H Q, t' σ H Q → t σ H Q) : PA X e t' := ⟨fun pos pins s σ H Q I q => h.run pos pins s σ H Q I (k σ H Q q)⟩
theorem PS.weak {X : Cx} {e : Stmt} {t t' : TS} (h : PS X e t) (k : ∀ D σ H, t' D σ H → t D σ H) : PS X e t' := ⟨fun pins s σ H D I q => h.run pins s σ H D I (k D σ H q)⟩
theorem PS.or {X : Cx} {e : Stmt} {t t' : TS} (h : PS X e t) (g : PS X e t') : PS X e (fun D σ H => t D σ H ∨ t' D σ H) := ⟨fun pins s σ H D I q => q.elim (h.run pins s σ H D I) (g.run pins s σ H D I)⟩
theorem PSs.weak {X : Cx} {e : List Stmt} {t t' : TS} (h : PSs X e t) (k : ∀ D σ H, t' D σ H → t D σ H) : PSs X e t' := ⟨fun pins s σ H D I q => h.run pins s σ H D I (k D σ H q)⟩
theorem OpR.or {X : Cx} {f : Value → Value → Sem Value} {r r' : R2} (h : OpR X f r) (g : OpR X f r') : OpR X f (fun x y H Q => r x y H Q ∨ r' x y H Q) := fun pins s σ H x y v u Q I rx ry q => q.elim (h pins s σ H x y v u Q I rx ry) (g pins s σ H x y v u Q I rx ry)
theorem CallR.or {X : Cx} {f : Value} {r r' : List V → Hp → VK → Prop} (h : CallR X f r) (g : CallR X f r') : CallR X f (fun x H Q => r x H Q ∨ r' x H Q) := fun pins s σ H x v Q I rx q => q.elim (h pins s σ H x v Q I rx) (g pins s σ H x v Q I rx)

/-- how an argument stands: a value on top, or a place -/
inductive ArV (w : Wd) (H : Hp) (σ : L2.St) : Arg → V → List (D × V) → Prop
  | val {d : D} {v : V} : ArV w H σ (.val d) v [(d, v)]
  | pl {i : Nat} {p : List Nat} {v : V} : PV w H σ i p v → ArV w H σ (.pl i p) v []
theorem ArV.step {w : Wd} {H H' : Hp} {A A' : List Addr} {σ : L2.St} {a : Arg} {v : V} {U : List (D × V)} (s : Step A H A' H') (h : ArV w H σ a v U) : ArV w H' σ a v U := by
  cases h with
  | val => exact .val
  | pl h => exact .pl (h.step s)
inductive AsV (w : Wd) (H : Hp) (σ : L2.St) : List Arg → List V → List (D × V) → Prop
  | nil : AsV w H σ [] [] []
  | cons {a : Arg} {v : V} {U U' : List (D × V)} {as : List Arg} {vs : List V} : ArV w H σ a v U → AsV w H σ as vs U' → AsV w H σ (a :: as) (v :: vs) (U ++ U')
theorem AsV.step {w : Wd} {H H' : Hp} {A A' : List Addr} {σ : L2.St} {a : List Arg} {v : List V} {U : List (D × V)} (s : Step A H A' H') (h : AsV w H σ a v U) : AsV w H' σ a v U := by
  induction h with
  | nil => exact .nil
  | cons h _ ih => exact .cons (h.step s) ih
def DV (_ : Wd) (_ : Hp) (_ : L2.St) (d : D) (v : V) (U : List (D × V)) : Prop := U = [(d, v)]
/-- new values, as they were made -/
def XsV (_ : Wd) (_ : Hp) (_ : L2.St) (ds : List D) (vs : List V) (U : List (D × V)) : Prop := ds.length = vs.length ∧ U = ds.zip vs
/-- something that stands so -/
def Mx (w : Wd) (F : List Addr) (H : Hp) (d : D) (v : V) : Prop := ∃ B, Mr w F H d v B

section
variable (w : Wd) (W : WX)
/-- what is wanted of an answer -/
def EV {α β : Type} (Vr : Wd → Hp → L2.St → α → β → List (D × V) → Prop) (F : List Addr) (σ : L2.St) (T : List (D × V)) (A : List Addr) (H : Hp) (Q : β → Hp → Prop) : R α → Prop
  | .ok a S' => ∀ v U H' A', Vr w H' σ a v U → Rl w F H' S' σ (U ++ T) A' → Step A H A' H' → Q v H'
  | .er c S' => ∀ C H' A', w.ecl c = some C → Rl w F H' S' σ T A' → Step A H A' H' → W C none σ H'
  | .no => False
def tG {α β : Type} (Vr : Wd → Hp → L2.St → α → β → List (D × V) → Prop) (ev : Sl → R α) (σ : L2.St) (H : Hp) (Q : β → Hp → Prop) : Prop :=
  ∃ F S T A, Rl w F H S σ T A ∧ EV w W Vr F σ T A H Q (ev S)
abbrev tE (ev : Sl → R D) : TE := tG w W DV ev
abbrev tAr (ev : Sl → R Arg) : TE := tG w W ArV ev
abbrev tAs (ev : Sl → R (List Arg)) : TA := tG w W AsV ev
abbrev tXs (ev : Sl → R (List D)) : TA := tG w W XsV ev
end
section
variable {w : Wd} {W : WX} {α β γ δ : Type} {Vr : Wd → Hp → L2.St → α → β → List (D × V) → Prop} {Vs : Wd → Hp → L2.St → γ → δ → List (D × V) → Prop} {F : List Addr} {S : Sl} {σ : L2.St} {T : List (D × V)} {A A' : List Addr} {H H' : Hp}
/-- from an evaluation that goes on: the first part -/
theorem EV.first {Q : δ → Hp → Prop} {Q' : β → Hp → Prop} {r : R α} {k : α → Sl → R γ} (h : EV w W Vs F σ T A H Q (r.bind k))
    (g : ∀ a S' v U H' A', r = .ok a S' → Vr w H' σ a v U → Rl w F H' S' σ (U ++ T) A' → Step A H A' H' → EV w W Vs F σ T A H Q (k a S') → Q' v H') : EV w W Vr F σ T A H Q' r := by
  cases r with
  | ok a S' => exact fun v U H' A' hv hr hs => g a S' v U H' A' rfl hv hr hs h
  | er c S' => exact h
  | no => exact h
/-- .. a part behind another: more values on top -/
theorem EV.next {Q : δ → Hp → Prop} {Q' : β → Hp → Prop} {r : R α} {k : α → Sl → R γ} {U0 : List (D × V)} (st : Step A H A' H') (h : EV w W Vs F σ T A H Q (r.bind k))
    (g : ∀ a S' v U H2 A2, r = .ok a S' → Vr w H2 σ a v U → Rl w F H2 S' σ (U ++ (U0 ++ T)) A2 → Step A H A2 H2 → Step A' H' A2 H2 → EV w W Vs F σ T A H Q (k a S') → Q' v H2) : EV w W Vr F σ (U0 ++ T) A' H' Q' r := by
  cases r with
  | ok a S' => exact fun v U H2 A2 hv hr hs => g a S' v U H2 A2 rfl hv hr (st.trans hs) hs h
  | er c S' =>
    intro C H2 A2 hc hr hs
    obtain ⟨B, r2, s2⟩ := hr.tdrop
    exact h C H2 B hc r2 ((st.trans hs).trans s2)
  | no => exact h
theorem EV.mono {Q Q' : β → Hp → Prop} {r : R α} (h : EV w W Vr F σ T A H Q r) (k : ∀ v H', Q v H' → Q' v H') : EV w W Vr F σ T A H Q' r := by
  cases r with
  | ok a S' => exact fun v U H' A' a1 a2 a3 => k v H' (h v U H' A' a1 a2 a3)
  | er c S' => exact h
  | no => exact h
/-- a value that is made on the way (B new) -/
theorem EV.fresh {Q : VK} {d : D} {v : V} {S' : Sl} {U : List (D × V)} {H2 H3 : Hp} {A2 B : List Addr} (h : EV w W DV F σ T A H Q (.ok d S')) (r : Rl w F H2 S' σ (U ++ T) A2) (st : Step A H A2 H2)
    (e : ∀ b o, H2 b = some o → H3 b = some o) (n : ∀ b ∈ B, H2 b = none) (nd : B.Nodup) (m : Mr w F H3 d v B) : Q v H3 := by
  obtain ⟨A3, r3, s3⟩ := r.tdrop
  obtain ⟨A4, r4, s4⟩ := r3.push e n nd m
  exact h v [(d, v)] H3 A4 rfl r4 ((st.trans s3).trans s4)
theorem EV.pr {Q : VK} {d : D} {v : V} {S' : Sl} {U : List (D × V)} {H2 : Hp} {A2 : List Addr} (h : EV w W DV F σ T A H Q (.ok d S')) (r : Rl w F H2 S' σ (U ++ T) A2) (st : Step A H A2 H2) (m : Pr w.K F H2 d v) : Q v H2 :=
  h.fresh r st (fun _ _ q => q) (B := []) (fun _ q => by simp at q) List.nodup_nil (.pr m)
theorem argMx {sg : Sg} (es : sg = w.n.sg) {a : Arg} {v : V} {U U0 : List (D × V)} {d : D} (r : Rl w F H S σ (U0 ++ T) A) (hU : ∀ x ∈ U, x ∈ U0) (h : ArV w H σ a v U) (e : argD sg S a = some d) : Mx w F H d v := by
  subst es
  cases h with
  | val =>
    cases e
    obtain ⟨B, m, _⟩ := r.mem (x := (d, v)) (List.mem_append_left _ (hU _ (by simp)))
    exact ⟨B, m⟩
  | pl pv =>
    simp only [argD] at e
    split at e
    · rename_i d' ed
      split at e
      · rename_i hl
        cases e
        obtain ⟨u, B, pu, m, _⟩ := r.readP ed hl
        rw [pv.inj pu]
        exact ⟨B, m⟩
      · cases e
    · cases e
inductive Ms (w : Wd) (F : List Addr) (H : Hp) : List D → List V → Prop
  | nil : Ms w F H [] []
  | cons {d : D} {v : V} {ds : List D} {vs : List V} : Mx w F H d v → Ms w F H ds vs → Ms w F H (d :: ds) (v :: vs)
theorem argsMs {sg : Sg} (es : sg = w.n.sg) {as : List Arg} {vs : List V} {U U0 : List (D × V)} {ds : List D} (r : Rl w F H S σ (U0 ++ T) A) (hU : ∀ x ∈ U, x ∈ U0) (h : AsV w H σ as vs U) (e : argDs sg S as = some ds) : Ms w F H ds vs := by
  induction h generalizing ds with
  | nil => cases e; exact .nil
  | @cons a v U1 U2 as vs h1 h2 ih =>
    unfold argDs at e
    cases e1 : argD sg S a with
    | none => rw [e1] at e; simp at e
    | some d =>
      cases e2 : argDs sg S as with
      | none => rw [e1, e2] at e; simp at e
      | some ds' =>
        rw [e1, e2] at e
        simp at e
        subst e
        exact .cons (argMx es r (fun x hx => hU x (List.mem_append_left _ hx)) h1 e1) (ih (fun x hx => hU x (List.mem_append_right _ hx)) e2)
/-- a reading rule at values: it makes z -/
def RAt (w : Wd) (r : R2) (d e z : D) : Prop := ∀ (F : List Addr) (H : Hp) (u v : V), Mx w F H d u → Mx w F H e v → ∀ Q : VK,
  (∀ x H' B, (∀ b o, H b = some o → H' b = some o) → (∀ b ∈ B, H b = none) → B.Nodup → Mr w F H' z x B → Q x H') → r u v H Q
/-- two operands -/
theorem two {Q : VK} {r : R2} {sg : Sg} (es : sg = w.n.sg) {eva evb : Sl → R Arg} {f : D → D → Option D} (rl : Rl w F H S σ T A)
    (h : EV w W DV F σ T A H Q ((eva S).bind fun x S1 => (evb S1).bind fun y S2 => match argD sg S2 x, argD sg S2 y with
      | some d, some e => .of S2 (f d e)
      | _, _ => .no))
    (hr : ∀ x S1 y S2 d e z, eva S = .ok x S1 → evb S1 = .ok y S2 → argD sg S2 x = some d → argD sg S2 y = some e → f d e = some z → RAt w r d e z) :
    tOp r (tAr w W eva) (tAr w W evb) σ H Q := by
  refine ⟨F, S, T, A, rl, h.first fun x S1 u U H1 A1 e1 hu r1 s1 h1 => ?_⟩
  refine ⟨F, S1, U ++ T, A1, r1, EV.next s1 h1 fun y S2 v U2 H2 A2 e2 hv r2 s2 s2' h2 => ?_⟩
  cases ed : argD sg S2 x with
  | none => simp only [ed] at h2; exact h2.elim
  | some d =>
    cases ee : argD sg S2 y with
    | none => simp only [ed, ee] at h2; exact h2.elim
    | some e =>
      simp only [ed, ee] at h2
      cases ez : f d e with
      | none => simp only [ez, R.of] at h2; exact h2.elim
      | some z =>
        simp only [ez, R.of] at h2
        have r3 : Rl w F H2 S2 σ ((U2 ++ U) ++ T) A2 := by rw [List.append_assoc]; exact r2
        refine hr x S1 y S2 d e z e1 e2 ed ee ez F H2 u v (argMx es r3 (fun x hx => List.mem_append_right _ hx) (hu.step s2') ed) (argMx es r3 (fun x hx => List.mem_append_left _ hx) hv ee) Q fun z' H3 B a b c m => ?_
        exact EV.fresh h2 r3 s2 a b c m
end
end Q
end
section
set_option Elab.async false
set_option linter.all false
set_option maxRecDepth 100000
namespace Q
open PySem PySem.Spec PyProof.Rows L2
/-! the operations, by their rules -/
theorem lim_le {n : Nat} (h : n ≤ lim) : n ≤ sizeLine := Nat.le_trans h (by decide)
theorem lim_lt {n : Nat} (h : n < lim) : n < sizeLine := Nat.lt_of_lt_of_le h (by decide)
section
variable {w : Wd} {F : List Addr} {H : Hp}
theorem Prs.len {K : PySem.W.Frag} : ∀ {xs : List D} {vs : List V}, Prs K F H xs vs → xs.length = vs.length
  | _, _, .nil => rfl
  | _, _, .cons _ q => by simp [Prs.len q]
theorem Prs.at {K : PySem.W.Frag} : ∀ {xs : List D} {vs : List V} {j : Nat} {x : D}, Prs K F H xs vs → xs[j]? = some x → ∃ v, vs[j]? = some v ∧ Pr K F H x v
  | _, _, 0, _, .cons h _, e => by simp at e; subst e; exact ⟨_, rfl, h⟩
  | _, _, j + 1, _, .cons _ q, e => by
    obtain ⟨v, a, b⟩ := Prs.at (j := j) q (by simpa using e)
    exact ⟨v, by simpa using a, b⟩
  | _, _, _, _, .nil, e => by simp at e
theorem Prs.app {K : PySem.W.Frag} : ∀ {xs ys : List D} {vs us : List V}, Prs K F H xs vs → Prs K F H ys us → Prs K F H (xs ++ ys) (vs ++ us)
  | _, _, _, _, .nil, q => q
  | _, _, _, _, .cons h r, q => .cons h (Prs.app r q)
theorem Prs.take {K : PySem.W.Frag} : ∀ {xs : List D} {vs : List V} (n : Nat), Prs K F H xs vs → Prs K F H (xs.take n) (vs.take n)
  | _, _, 0, _ => .nil
  | _, _, _ + 1, .nil => .nil
  | _, _, n + 1, .cons h q => .cons h (Prs.take n q)
theorem Prs.drop {K : PySem.W.Frag} : ∀ {xs : List D} {vs : List V} (n : Nat), Prs K F H xs vs → Prs K F H (xs.drop n) (vs.drop n)
  | _, _, 0, q => q
  | _, _, _ + 1, .nil => .nil
  | _, _, n + 1, .cons _ q => Prs.drop n q
theorem Prs.set {K : PySem.W.Frag} {d : D} {v : V} (p : Pr K F H d v) : ∀ {xs : List D} {vs : List V} (n : Nat), Prs K F H xs vs → Prs K F H (xs.set n d) (vs.set n v)
  | _, _, _, .nil => .nil
  | _, _, 0, .cons _ q => .cons p q
  | _, _, n + 1, .cons h q => .cons h (Prs.set p n q)
theorem Prs.keepE {K : PySem.W.Frag} {H' : Hp} (e : ∀ b o, H b = some o → H' b = some o) {xs : List D} {vs : List V} (h : Prs K F H xs vs) : Prs K F H' xs vs := Prs.keep (fun b o q _ => e b o q) xs vs h
theorem Pr.keepE {K : PySem.W.Frag} {H' : Hp} (e : ∀ b o, H b = some o → H' b = some o) {x : D} {v : V} (h : Pr K F H x v) : Pr K F H' x v := Pr.keep (fun b o q _ => e b o q) x v h
theorem atZ_at {α : Type} {xs : List α} {i : Int} {v : α} (h : atZ xs i = some v) : atI xs i = some v ∧ ∃ j, xs[j]? = some v ∧ ixN xs.length i = some j := by
  unfold atZ at h
  unfold atI ixN
  by_cases h0 : 0 ≤ i
  · rw [if_pos h0] at h ⊢
    have hl := (List.getElem?_eq_some_iff.mp h).1
    rw [if_pos (by omega)]
    exact ⟨h, _, h, rfl⟩
  · rw [if_neg h0] at h ⊢
    by_cases h1 : 0 ≤ i + xs.length
    · rw [if_pos h1] at h
      rw [if_pos (by omega)]
      exact ⟨h, _, h, rfl⟩
    · rw [if_neg h1] at h; cases h
theorem atI_of {α β : Type} {xs : List α} {ys : List β} {i : Int} {j : Nat} {v : β} (hl : xs.length = ys.length) (h : ixN xs.length i = some j) (e : ys[j]? = some v) : atI ys i = some v := by
  unfold atI
  rw [← hl, h]
  exact e
/-- what stands so, by its kind -/
theorem Mx.int {i : Int} {v : V} (h : Mx w F H (.int i) v) : v = .int i := by obtain ⟨B, h⟩ := h; cases h with | pr h => cases h; rfl
theorem Mx.bl {i : Bool} {v : V} (h : Mx w F H (.bl i) v) : v = .bl i := by obtain ⟨B, h⟩ := h; cases h with | pr h => cases h; rfl
theorem Mx.str {i : Str} {v : V} (h : Mx w F H (.str i) v) : v = .str i := by obtain ⟨B, h⟩ := h; cases h with | pr h => cases h; rfl
theorem Mx.non {v : V} (h : Mx w F H .non v) : v = .non := by obtain ⟨B, h⟩ := h; cases h with | pr h => cases h; rfl
theorem Mx.tup {xs : List D} {v : V} (h : Mx w F H (.tup xs) v) : ∃ p vs, v = .ref p ∧ H p = some (.tup vs) ∧ Prs w.K F H xs vs := by
  obtain ⟨B, h⟩ := h
  cases h with
  | pr h => cases h with | tup a b => exact ⟨_, _, rfl, a, b⟩
theorem Mx.ktup {xs : List D} {v : V} (h : Mx w F H (.ktup xs) v) : ∃ p vs, v = .ref p ∧ KTs w.K p vs ∧ Prs w.K F H xs vs := by
  obtain ⟨B, h⟩ := h
  cases h with
  | pr h => cases h with | ktup a b => exact ⟨_, _, rfl, a, b⟩
theorem Mx.fls {xs : List D} {v : V} (h : Mx w F H (.fls xs) v) : ∃ p vs, v = .ref p ∧ SqL w.K H p vs ∧ Prs w.K F H xs vs := by
  obtain ⟨B, h⟩ := h
  cases h with
  | pr h => cases h with | fls a b => exact ⟨_, _, rfl, sq_lst a, b⟩
theorem Mx.lst {xs : List D} {v : V} (h : Mx w F H (.lst xs) v) : ∃ p vs, v = .ref p ∧ H p = some (.lst vs) ∧ Prs w.K F H xs vs := by
  obtain ⟨B, h⟩ := h
  cases h with
  | pr h => cases h
  | lst a b => exact ⟨_, _, rfl, a, b⟩
theorem Mx.lkl {xs : List D} {v : V} (h : Mx w F H (.lk (.lst xs)) v) : ∃ p vs, v = .ref p ∧ SqL w.K H p vs ∧ Prs w.K F H xs vs := by
  obtain ⟨B, h⟩ := h
  cases h with
  | pr h => cases h
  | lkl a b => exact ⟨_, _, rfl, .inl (.inr ⟨_, a⟩), b⟩
/-- a list or a tuple that is read -/
theorem Mx.items {d : D} {xs : List D} {v : V} (h : Mx w F H d v) (e : d.items = some xs) : ∃ p vs, v = .ref p ∧ (SqL w.K H p vs ∨ SqT w.K H p vs) ∧ Prs w.K F H xs vs := by
  cases d with
  | tup ys => cases e; obtain ⟨p, vs, a, b, c⟩ := h.tup; exact ⟨p, vs, a, .inr (SqT.of b), c⟩
  | ktup ys => cases e; obtain ⟨p, vs, a, b, c⟩ := h.ktup; exact ⟨p, vs, a, .inr (.inr b), c⟩
  | fls ys => cases e; obtain ⟨p, vs, a, b, c⟩ := h.fls; exact ⟨p, vs, a, .inl b, c⟩
  | lst ys => cases e; obtain ⟨p, vs, a, b, c⟩ := h.lst; exact ⟨p, vs, a, .inl (SqL.of b), c⟩
  | lk d' =>
    cases d' with
    | lst ys => cases e; obtain ⟨p, vs, a, b, c⟩ := h.lkl; exact ⟨p, vs, a, .inl b, c⟩
    | _ => simp [D.items] at e
  | _ => simp [D.items] at e
/-- a dict that is read -/
theorem Mx.dk {kvs : List (Ky × D)} {v : V} (h : Mx w F H (.dk kvs) v ∨ Mx w F H (.lk (.dk kvs)) v) : ∃ p ws, v = .ref p ∧ Rd H p (.dK ws) ∧ ws.map (·.1) = kvs.map (·.1) ∧ Prs w.K F H (kvs.map (·.2)) (ws.map (·.2)) := by
  rcases h with ⟨B, h⟩ | ⟨B, h⟩
  · cases h with
    | pr h => cases h
    | dk a b c => exact ⟨_, _, rfl, .inl a, b, c⟩
  · cases h with
    | pr h => cases h
    | lkk a b c => exact ⟨_, _, rfl, .inr ⟨_, a⟩, b, c⟩
theorem Mx.dt' {kvs : List (List Ky × D)} {v : V} (h : Mx w F H (.dt kvs) v ∨ Mx w F H (.lk (.dt kvs)) v) : ∃ p ws, v = .ref p ∧ Rd H p (.dT ws) ∧ ws.map (·.1) = kvs.map (·.1) ∧ Prs w.K F H (kvs.map (·.2)) (ws.map (·.2)) := by
  rcases h with ⟨B, h⟩ | ⟨B, h⟩
  · cases h with
    | pr h => cases h
    | dt a b c => exact ⟨_, _, rfl, .inl a, b, c⟩
  · cases h with
    | pr h => cases h
    | lkt a b c => exact ⟨_, _, rfl, .inr ⟨_, a⟩, b, c⟩
theorem Mx.dt {kvs : List (List Ky × D)} {v : V} (h : Mx w F H (.dt kvs) v) : ∃ p ws, v = .ref p ∧ Rd H p (.dT ws) ∧ ws.map (·.1) = kvs.map (·.1) ∧ Prs w.K F H (kvs.map (·.2)) (ws.map (·.2)) := Mx.dt' (.inl h)
/-- the value at a key -/
theorem kget_val {κ : Type} [DecidableEq κ] {K : PySem.W.Frag} : ∀ {kvs : List (κ × D)} {ws : List (κ × V)} {k : κ}, ws.map (·.1) = kvs.map (·.1) → Prs K F H (kvs.map (·.2)) (ws.map (·.2)) →
    (kget kvs k = none ∧ valV ws k = none) ∨ ∃ d v, kget kvs k = some d ∧ valV ws k = some v ∧ Pr K F H d v
  | [], [], k, _, _ => .inl ⟨rfl, rfl⟩
  | [], _ :: _, _, e, _ => by simp at e
  | _ :: _, [], _, e, _ => by simp at e
  | (a, d) :: kvs, (b, v) :: ws, k, e, q => by
    simp only [List.map_cons, List.cons.injEq] at e
    obtain ⟨e1, e2⟩ := e
    subst e1
    simp only [List.map_cons] at q
    cases q with
    | cons h q =>
      unfold kget valV
      by_cases hk : b = k
      · refine .inr ⟨d, v, by simp [hk], by simp [hk], h⟩
      · have ih := kget_val (k := k) e2 q
        simp only [if_neg hk]
        have e3 : List.find? (fun kv => decide (kv.1 = k)) ((b, v) :: ws) = List.find? (fun kv => decide (kv.1 = k)) ws := by simp [hk]
        rw [e3]
        exact ih
theorem kyOf_v {d : D} {k : Ky} {v : V} (h : Mx w F H d v) (e : kyOf d = some k) : v = kV k := by
  cases d with
  | int i => cases e; exact h.int
  | str s => cases e; exact h.str
  | _ => simp [kyOf] at e
theorem kysOf_v {K : PySem.W.Frag} : ∀ {xs : List D} {ks : List Ky} {vs : List V}, Prs K F H xs vs → kysOf xs = some ks → vs = ks.map kV
  | _, _, _, .nil, e => by cases e; rfl
  | x :: xs, ks, _, .cons h q, e => by
    unfold kysOf at e
    split at e
    · rename_i k ks' e1 e2
      cases e
      rw [kysOf_v q e2]
      cases h with
      | int i => simp [kyOf] at e1; subst e1; rfl
      | str s => simp [kyOf] at e1; subst e1; rfl
      | _ => simp [kyOf] at e1
    · cases e
theorem tkOf_v {d : D} {k : List Ky} {v : V} (h : Mx w F H d v) (e : tkOf d = some k) : ∃ p, v = .ref p ∧ H p = some (.tup (k.map kV)) := by
  cases d with
  | tup xs =>
    obtain ⟨p, vs, a, b, c⟩ := h.tup
    exact ⟨p, a, by rw [b, kysOf_v c e]⟩
  | _ => simp [tkOf] at e
/-- reading a dict -/
theorem dget_v {d k : D} {u v : V} {o : Option D} (hd : Mx w F H d u) (hk : Mx w F H k v) (e : dget d k = some o) : ∃ a r, u = .ref a ∧ DGet H a v r ∧ ((o = none ∧ r = none) ∨ ∃ x y, o = some x ∧ r = some y ∧ Pr w.K F H x y) := by
  have dkc : ∀ kvs, (Mx w F H (.dk kvs) u ∨ Mx w F H (.lk (.dk kvs)) u) → (kyOf k).map (kget kvs) = some o → ∃ a r, u = .ref a ∧ DGet H a v r ∧ ((o = none ∧ r = none) ∨ ∃ x y, o = some x ∧ r = some y ∧ Pr w.K F H x y) := fun kvs hh e => by
    obtain ⟨p, ws, a, b, c, q⟩ := Mx.dk hh
    obtain ⟨ky, ek, eo⟩ := Option.map_eq_some_iff.mp e
    have ev := kyOf_v hk ek
    refine ⟨p, valV ws ky, a, .inl ⟨ws, ky, b, ev, rfl⟩, ?_⟩
    rcases kget_val (k := ky) c q with ⟨q1, q2⟩ | ⟨x, y, q1, q2, q3⟩
    · exact .inl ⟨by rw [← eo, q1], q2⟩
    · exact .inr ⟨x, y, by rw [← eo, q1], q2, q3⟩
  have dtc : ∀ kvs, (Mx w F H (.dt kvs) u ∨ Mx w F H (.lk (.dt kvs)) u) → (tkOf k).map (kget kvs) = some o → ∃ a r, u = .ref a ∧ DGet H a v r ∧ ((o = none ∧ r = none) ∨ ∃ x y, o = some x ∧ r = some y ∧ Pr w.K F H x y) := fun kvs hh e => by
    obtain ⟨p, ws, a, b, c, q⟩ := Mx.dt' hh
    obtain ⟨ky, ek, eo⟩ := Option.map_eq_some_iff.mp e
    obtain ⟨pk, ev, hv⟩ := tkOf_v hk ek
    refine ⟨p, valV ws ky, a, .inr ⟨ws, ky, pk, b, ev, hv, rfl⟩, ?_⟩
    rcases kget_val (k := ky) c q with ⟨q1, q2⟩ | ⟨x, y, q1, q2, q3⟩
    · exact .inl ⟨by rw [← eo, q1], q2⟩
    · exact .inr ⟨x, y, by rw [← eo, q1], q2, q3⟩
  cases d with
  | dk kvs => exact dkc kvs (.inl hd) e
  | dt kvs => exact dtc kvs (.inl hd) e
  | lk d' =>
    cases d' with
    | dk kvs => exact dkc kvs (.inr hd) e
    | dt kvs => exact dtc kvs (.inr hd) e
    | _ => simp [dget] at e
  | _ => simp [dget] at e
end

/-! ### == -/
mutual
theorem dp_of {K : PySem.W.Frag} {F : List Addr} {H : Hp} : ∀ (d : D) (v : V), Pr K F H d v → Dp K H v (toP d)
  | _, _, .non => by rw [toP]; exact .non
  | _, _, .bl b => by rw [toP]; exact .bl b
  | _, _, .int i => by rw [toP]; exact .int i
  | _, _, .str s => by rw [toP]; exact .str s
  | .tup xs, _, .tup h q => by rw [toP]; exact .tup (SqT.of h) (dps_of xs _ q)
  | .ktup xs, _, .ktup h q => by rw [toP]; exact .tup (.inr h) (dps_of xs _ q)
  | .fls xs, _, .fls h q => by rw [toP]; exact .lst (sq_lst h) (dps_of xs _ q)
theorem dps_of {K : PySem.W.Frag} {F : List Addr} {H : Hp} : ∀ (d : List D) (v : List V), Prs K F H d v → DpAll K H v (toPs d)
  | _, _, .nil => by rw [toPs]; exact .nil
  | x :: xs, _, .cons h q => by rw [toPs]; exact .cons (dp_of x _ h) (dps_of xs _ q)
end
theorem Mx.dp {w : Wd} {F : List Addr} {H : Hp} {k : Nat} {d : D} {v : V} (h : Mx w F H d v) (hs : shp k d = true) : Dp w.K H v (toP d) := by
  cases d with
  | lst xs =>
    obtain ⟨p, vs, a, b, c⟩ := h.lst
    subst a
    rw [toP]
    exact .lst (SqL.of b) (dps_of xs _ c)
  | dk _ => simp [shp] at hs
  | dt _ => simp [shp] at hs
  | obj _ _ => simp [shp] at hs
  | hole => simp [shp] at hs
  | lk _ => simp [shp] at hs
  | _ =>
    obtain ⟨B, h⟩ := h
    cases h with
    | pr h => exact dp_of _ _ h
mutual
theorem shp_nodict : ∀ (k : Nat) (d : D), shp k d = true → (toP d).hasDict = false
  | k, .non, _ => by simp [toP, PyData.hasDict]
  | k, .bl b, _ => by simp [toP, PyData.hasDict]
  | k, .int b, _ => by simp [toP, PyData.hasDict]
  | k, .str b, _ => by simp [toP, PyData.hasDict]
  | k, .tup xs, h => by
    simp only [shp, Bool.and_eq_true] at h
    simp only [toP, PyData.hasDict]
    exact shps_nodict _ xs h.2
  | k, .ktup xs, h => by
    simp only [shp, Bool.and_eq_true] at h
    simp only [toP, PyData.hasDict]
    exact shps_nodict _ xs h.2
  | k, .lst xs, h => by
    simp only [shp, Bool.and_eq_true] at h
    simp only [toP, PyData.hasDict]
    exact shps_nodict _ xs h.2
  | k, .fls xs, h => by
    simp only [shp, Bool.and_eq_true] at h
    simp only [toP, PyData.hasDict]
    exact shps_nodict _ xs h.2
  | k, .dk _, h => by simp [shp] at h
  | k, .dt _, h => by simp [shp] at h
  | k, .obj _ _, h => by simp [shp] at h
  | k, .hole, h => by simp [shp] at h
  | k, .lk _, h => by simp [shp] at h
theorem shps_nodict : ∀ (k : Nat) (ds : List D), shps k ds = true → PyData.hasDictAll (toPs ds) = false
  | k, [], _ => by simp [toPs, PyData.hasDictAll]
  | k, d :: ds, h => by
    simp only [shps, Bool.and_eq_true] at h
    simp only [toPs, PyData.hasDictAll, shp_nodict k d h.1, shps_nodict k ds h.2, Bool.or_self]
end
mutual
theorem shp_lay : ∀ (k : Nat) (d : D), shp k d = true → (toP d).canLay0 = true ∧ (toP d).depth ≤ k
  | k, .non, _ => by simp [toP, PyData.canLay0, PyData.depth]
  | k, .bl b, _ => by simp [toP, PyData.canLay0, PyData.depth]
  | k, .int b, _ => by simp [toP, PyData.canLay0, PyData.depth]
  | k, .str x, h => by
    simp only [shp] at h
    simp only [toP, PyData.canLay0, PyData.depth]
    exact ⟨h, Nat.zero_le _⟩
  | k, .tup xs, h => by
    simp only [shp, Bool.and_eq_true, decide_eq_true_eq] at h
    obtain ⟨a, b⟩ := shps_lay (k - 1) xs h.2
    simp only [toP, PyData.canLay0, PyData.depth]
    exact ⟨a, by omega⟩
  | k, .ktup xs, h => by
    simp only [shp, Bool.and_eq_true, decide_eq_true_eq] at h
    obtain ⟨a, b⟩ := shps_lay (k - 1) xs h.2
    simp only [toP, PyData.canLay0, PyData.depth]
    exact ⟨a, by omega⟩
  | k, .lst xs, h => by
    simp only [shp, Bool.and_eq_true, decide_eq_true_eq] at h
    obtain ⟨a, b⟩ := shps_lay (k - 1) xs h.2
    simp only [toP, PyData.canLay0, PyData.depth]
    exact ⟨a, by omega⟩
  | k, .fls xs, h => by
    simp only [shp, Bool.and_eq_true, decide_eq_true_eq] at h
    obtain ⟨a, b⟩ := shps_lay (k - 1) xs h.2
    simp only [toP, PyData.canLay0, PyData.depth]
    exact ⟨a, by omega⟩
  | k, .dk _, h => by simp [shp] at h
  | k, .dt _, h => by simp [shp] at h
  | k, .obj _ _, h => by simp [shp] at h
  | k, .hole, h => by simp [shp] at h
  | k, .lk _, h => by simp [shp] at h
theorem shps_lay : ∀ (k : Nat) (ds : List D), shps k ds = true → PyData.canLayAll0 (toPs ds) = true ∧ PyData.depthAll (toPs ds) ≤ k
  | k, [], _ => by simp [toPs, PyData.canLayAll0, PyData.depthAll]
  | k, x :: xs, h => by
    simp only [shps, Bool.and_eq_true] at h
    obtain ⟨a, b⟩ := shp_lay k x h.1
    obtain ⟨c, d⟩ := shps_lay k xs h.2
    simp only [toPs, PyData.canLayAll0, PyData.depthAll, a, c, Bool.and_self, true_and]
    omega
end
theorem shp_shaped {d : D} (h : shp 60 d = true) : SeqAt.shaped (toP d) = true := by
  obtain ⟨a, b⟩ := shp_lay 60 d h
  unfold SeqAt.shaped
  rw [a, decide_eq_true (by omega)]
  rfl
mutual
theorem deq_eqv : ∀ (x y : D) (k l : Nat), shp k x = true → shp l y = true → deq x y = PyData.eqv (toP x) (toP y)
  | x, y, k, l, hx, hy => by
    cases x <;> cases y <;> first
      | (simp only [shp] at hx; exact absurd hx Bool.false_ne_true)
      | (simp only [shp] at hy; exact absurd hy Bool.false_ne_true)
      | (simp only [shp, Bool.and_eq_true] at hx hy; simp only [deq, toP, PyData.eqv]; exact deqs_eqv _ _ _ _ hx.2 hy.2)
      | (simp only [deq, toP, PyData.eqv, b2])
theorem deqs_eqv : ∀ (xs ys : List D) (k l : Nat), shps k xs = true → shps l ys = true → deqs xs ys = PyData.eqvAll (toPs xs) (toPs ys)
  | [], [], _, _, _, _ => by simp only [deqs, toPs, PyData.eqvAll]
  | [], _ :: _, _, _, _, _ => by simp only [deqs, toPs, PyData.eqvAll]
  | _ :: _, [], _, _, _, _ => by simp only [deqs, toPs, PyData.eqvAll]
  | x :: xs, y :: ys, k, l, hx, hy => by
    simp only [shps, Bool.and_eq_true] at hx hy
    simp only [deqs, toPs, PyData.eqvAll]
    rw [deq_eqv x y k l hx.1 hy.1, deqs_eqv xs ys k l hx.2 hy.2]
end
end Q
end
section
set_option Elab.async false
set_option linter.all false
set_option maxRecDepth 100000
namespace Q
open PySem PySem.Spec PyProof.Rows L2
/-! operators -/
theorem same_ext {H : Hp} {p : Addr} {o : HO} (n : H p = none) : ∀ b u, H b = some u → upd H p o b = some u := fun b u e => by rw [upd_ne (ne_of_none e n)]; exact e
section
variable {w : Wd} {H : Hp} {F : List Addr}
/-- a new list, a new tuple -/
theorem mk_lst {p : Addr} {xs : List D} {vs : List V} (n : H p = none) (q : Prs w.K F H xs vs) : (∀ b o, H b = some o → upd H p (.lst vs) b = some o) ∧ (∀ b ∈ [p], H b = none) ∧ [p].Nodup ∧ Mr w F (upd H p (.lst vs)) (.lst xs) (.ref p) [p] :=
  ⟨same_ext n, fun b hb => by rw [List.mem_singleton.mp hb]; exact n, by simp, .lst upd_same (q.keepE (same_ext n))⟩
theorem mk_tup {p : Addr} {xs : List D} {vs : List V} (n : H p = none) (q : Prs w.K F H xs vs) : (∀ b o, H b = some o → upd H p (.tup vs) b = some o) ∧ (∀ b ∈ ([] : List Addr), H b = none) ∧ ([] : List Addr).Nodup ∧ Mr w F (upd H p (.tup vs)) (.tup xs) (.ref p) [] :=
  ⟨same_ext n, fun b hb => by simp at hb, by simp, .pr (.tup upd_same (q.keepE (same_ext n)))⟩
theorem mk_pr {d : D} {v : V} (m : Pr w.K F H d v) : (∀ b o, H b = some o → H b = some o) ∧ (∀ b ∈ ([] : List Addr), H b = none) ∧ ([] : List Addr).Nodup ∧ Mr w F H d v [] := ⟨fun _ _ h => h, fun b hb => by simp at hb, by simp, .pr m⟩
end
def CK (K : PySem.W.Frag) : R2 := fun x y H Q => rCatA K x y H Q ∨ rCat x y H Q
/-- + of all kinds -/
def rAddA (K : PySem.W.Frag) : R2 := fun x y H Q => (rI0 (fun i j => .int (i + j)) x y H Q ∨ (∃ i k, x = .int i ∧ y = .bl k ∧ Q (.int (i + b2i k)) H)) ∨
  ((∃ i j, x = .str i ∧ y = .str j ∧ i.length + j.length ≤ sizeLine ∧ Q (.str (i ++ j)) H) ∨ CK K x y H Q)
theorem op_addA {X : Cx} : OpR X (binaryOp .Add) (rAddA X.K) := (op_add.or op_add_ib).or (op_add_str.or (op_catA.or op_cat))
theorem b2_i (b : Bool) : b2 b = b2i b := by cases b <;> rfl
theorem mul_c {i j : Int} (h : i.natAbs < 18446744073709551616 ∨ j.natAbs < 18446744073709551616) : CMul i j := by
  unfold CMul
  rcases h with h | h
  · exact .inl ⟨by omega, by omega⟩
  · exact .inr ⟨by omega, by omega⟩
theorem div_c {i j : Int} (h : 0 < j ∧ (j < 1073741824 ∨ j.natAbs.log2 < 9000)) : CDivW i j := by
  refine ⟨h.1, ?_⟩
  rcases h.2 with q | q
  · have h1 : j.natAbs < 1073741824 := by omega
    have h2 : j.natAbs ≠ 0 := by omega
    have := (Nat.log2_lt h2 (k := 30)).mpr (by omega)
    omega
  · exact q
theorem band1 (i : Int) : Builtin.bitAnd i 1 = i % 2 := by
  have h := Bits.bit_at (x := i) 0
  rw [Int.pow_zero, Int.fdiv_one, Int.ediv_one] at h
  exact h
section
variable {w : Wd}
theorem r_int {g : Int → Int → V} {k : Int} {i j : Int} (e : g i j = .int k) : RAt w (rI0 g) (.int i) (.int j) (.int k) := fun F H u v hu hv Q q => by
  refine ⟨i, j, hu.int, hv.int, ?_⟩
  rw [e]
  obtain ⟨a, b, c, m⟩ := mk_pr (w := w) (F := F) (H := H) (.int k)
  exact q _ H [] a b c m
theorem r_intC {C : Int → Int → Prop} {g : Int → Int → V} {k : Int} {i j : Int} (hc : C i j) (e : g i j = .int k) : RAt w (rI C g) (.int i) (.int j) (.int k) := fun F H u v hu hv Q q => by
  refine ⟨i, j, hu.int, hv.int, hc, ?_⟩
  rw [e]
  obtain ⟨a, b, c, m⟩ := mk_pr (w := w) (F := F) (H := H) (.int k)
  exact q _ H [] a b c m
theorem r_add {d e z : D} (h : opB .add d e = some z) : RAt w (rAddA w.K) d e z := by
  cases d <;> cases e <;> simp only [opB, D.items] at h <;> try (cases h; done)
  · cases h
    exact fun F H u v hu hv Q q => .inl (.inr ⟨_, _, hu.int, hv.bl, by
      obtain ⟨a, b, c, m⟩ := mk_pr (w := w) (F := F) (H := H) (.int _)
      rw [← b2_i]
      exact q _ H [] a b c m⟩)
  · cases h
    exact fun F H u v hu hv Q q => .inl (.inl (r_int rfl F H u v hu hv Q q))
  · split at h
    · rename_i hl
      cases h
      exact fun F H u v hu hv Q q => .inr (.inl ⟨_, _, hu.str, hv.str, lim_le hl, by
        obtain ⟨a, b, c, m⟩ := mk_pr (w := w) (F := F) (H := H) (.str _)
        exact q _ H [] a b c m⟩)
    · cases h
  · split at h
    · rename_i xs ys hl
      cases h
      refine fun F H u v hu hv Q q => .inr (.inr (.inl ?_))
      obtain ⟨p, vs, e1, h1, q1⟩ := hu.tup
      obtain ⟨r, us, e2, h2, q2⟩ := hv.tup
      refine ⟨p, r, vs, us, e1, e2, SqT.of h1, SqT.of h2, by rw [← q1.len, ← q2.len]; exact lim_le hl, fun e => ?_, fun n e => ?_, fun _ _ t nt => ?_⟩
      · subst e
        have : xs = [] := by cases q1; rfl
        subst this
        obtain ⟨a, b, c, m⟩ := mk_pr (w := w) (F := F) (H := H) (.tup h2 q2)
        exact q _ H [] a b c m
      · subst e
        have : ys = [] := by cases q2; rfl
        subst this
        rw [List.append_nil] at q
        obtain ⟨a, b, c, m⟩ := mk_pr (w := w) (F := F) (H := H) (.tup h1 q1)
        exact q _ H [] a b c m
      · obtain ⟨a, b, c, m⟩ := mk_tup (w := w) (F := F) nt (q1.app q2)
        exact q _ _ [] a b c m
    · cases h
  · split at h
    · rename_i xs ys hl
      cases h
      refine fun F H u v hu hv Q q => .inr (.inr (.inr ?_))
      obtain ⟨p, vs, e1, h1, q1⟩ := hu.lst
      obtain ⟨r, us, e2, h2, q2⟩ := hv.lst
      refine ⟨p, r, vs, us, e1, e2, h1, h2, by rw [← q1.len, ← q2.len]; exact lim_le hl, fun t nt => ?_⟩
      obtain ⟨a, b, c, m⟩ := mk_lst (w := w) (F := F) nt (q1.app q2)
      exact q _ _ [t] a b c m
    · cases h
theorem rep_prs {F : List Addr} {H : Hp} {xs : List D} {vs : List V} (q : Prs w.K F H xs vs) : ∀ n : Nat, Prs w.K F H (List.replicate n xs).flatten (List.replicate n vs).flatten
  | 0 => .nil
  | n + 1 => by
    rw [List.replicate_succ, List.replicate_succ, List.flatten_cons, List.flatten_cons]
    exact q.app (rep_prs q n)
/-- a text once, or not at all -/
def rStrR : R2 := fun x y H Q => ∃ a k, x = .str a ∧ y = .int k ∧ ((k = 0 ∧ Q (.str Str.empty) H) ∨ (k = 1 ∧ Q (.str a) H))
theorem op_strR {X : Cx} : OpR X (binaryOp .Mult) rStrR := by
  intro pins s σ H x y v u Q I rx ry h
  obtain ⟨a, k, rfl, rfl, h⟩ := h
  obtain ⟨t, rfl⟩ := rx
  obtain ⟨t2, rfl⟩ := ry
  rcases h with ⟨rfl, q⟩ | ⟨rfl, q⟩
  · exact PySem.P.mul_str_none (by decide) (by decide) ⟨.str Str.empty, H, I.tok _, ⟨_, rfl⟩, q⟩
  · exact PySem.P.mul_str (by decide) (fun _ z => by simp at z) (fun _ z => by simp at z) (by simp; exact ⟨.str a, H, I, ⟨t, rfl⟩, q⟩)
/-- the operator of a core's operator, its rule -/
def opOf : BOp → Operator
  | .add => .Add | .sub => .Sub | .mul => .Mult | .fdiv => .FloorDiv | .mod => .Mod | .pow => .Pow | .shl => .LShift | .shr => .RShift | .band => .BitAnd | .bor => .BitOr | .bxor => .BitXor | .ix => .MatMult
def rOf (K : PySem.W.Frag) : BOp → R2
  | .add => rAddA K
  | .sub => rI0 fun i j => .int (i - j)
  | .mul => fun x y H Q => rI CMul (fun i j => .int (i * j)) x y H Q ∨ rRepT K x y H Q ∨ rStrR x y H Q
  | .fdiv => rI CDivW fun i j => .int (i / j)
  | .mod => rI (fun _ j => 0 < j) fun i j => .int (i % j)
  | .pow => rI CPow fun i j => .int (i ^ j.toNat)
  | .shl => rI CPow fun i j => .int (i * 2 ^ j.toNat)
  | .shr => rI (fun _ j => 0 ≤ j) fun i j => .int (i / 2 ^ j.toNat)
  | .band => rI0 fun i j => .int (Builtin.bitAnd i j)
  | .bor => rI0 fun i j => .int (Builtin.bitOr i j)
  | .bxor => rI0 fun i j => .int (Builtin.bitXor i j)
  | .ix => fun _ _ _ _ => False
theorem op_of {X : Cx} : ∀ o : BOp, OpR X (binaryOp (opOf o)) (rOf X.K o)
  | .add => op_addA | .sub => op_sub | .mul => op_mul.or (op_repT.or op_strR) | .fdiv => op_fdivW | .mod => op_mod | .pow => op_pow | .shl => op_shl | .shr => op_shr | .band => op_and | .bor => op_or | .bxor => op_xor
  | .ix => fun _ _ _ _ _ _ _ _ _ _ _ _ h => h.elim
theorem r_of {o : BOp} {d e z : D} (hx : o ≠ .ix) (h : opB o d e = some z) : RAt w (rOf w.K o) d e z := by
  cases o with
  | add => exact r_add h
  | ix => exact absurd rfl hx
  | sub =>
    cases d <;> cases e <;> simp only [opB] at h <;> try (cases h; done)
    cases h; exact r_int rfl
  | mul =>
    cases d <;> cases e <;> simp only [opB] at h <;> try (cases h; done)
    split at h
    · rename_i hc; cases h; exact fun F H u v hu hv Q q => .inl (r_intC (mul_c hc) rfl F H u v hu hv Q q)
    · cases h
    · split at h
      · rename_i x k hk
        cases h
        intro F H u v hu hv Q q
        have e1 := hu.str
        have e2 := hv.int
        subst e1; subst e2
        refine .inr (.inr ⟨x, k, rfl, rfl, .inl ⟨hk, ?_⟩⟩)
        obtain ⟨a, b, c, m⟩ := mk_pr (w := w) (F := F) (H := H) (.str Str.empty)
        exact q _ H [] a b c m
      · split at h
        · rename_i x k hk0 hk
          cases h
          intro F H u v hu hv Q q
          have e1 := hu.str
          have e2 := hv.int
          subst e1; subst e2
          refine .inr (.inr ⟨x, k, rfl, rfl, .inr ⟨hk, ?_⟩⟩)
          obtain ⟨a, b, c, m⟩ := mk_pr (w := w) (F := F) (H := H) (.str x)
          exact q _ H [] a b c m
        · cases h
    · split at h
      · rename_i xs k hc
        cases h
        obtain ⟨c1, c2, c3, c4⟩ := hc
        intro F H u v hu hv Q q
        obtain ⟨p, us, e1, h1, q1⟩ := hu.tup
        refine .inr (.inl ⟨p, k, us, e1, hv.int, SqT.of h1, fun z => ?_, c2, c3, by rw [← q1.len]; exact c4, fun t nt => ?_⟩)
        · have := q1.len
          rw [z] at this
          rw [List.isEmpty_eq_false_iff] at c1
          exact c1 (List.eq_nil_of_length_eq_zero this)
        · obtain ⟨a, b, c, m⟩ := mk_tup (w := w) (F := F) nt (rep_prs q1 k.toNat)
          exact q _ _ [] a b c m
      · cases h
  | fdiv =>
    cases d <;> cases e <;> simp only [opB] at h <;> try (cases h; done)
    split at h
    · rename_i hc; cases h; exact r_intC (div_c hc) rfl
    · cases h
  | mod =>
    cases d <;> cases e <;> simp only [opB] at h <;> try (cases h; done)
    split at h
    · rename_i hc; cases h; exact r_intC hc rfl
    · cases h
  | pow =>
    cases d <;> cases e <;> simp only [opB] at h <;> try (cases h; done)
    split at h
    · rename_i hc; cases h; exact r_intC hc rfl
    · cases h
  | shl =>
    cases d <;> cases e <;> simp only [opB] at h <;> try (cases h; done)
    split at h
    · rename_i hc; cases h; exact r_intC hc rfl
    · cases h
  | shr =>
    cases d <;> cases e <;> simp only [opB] at h <;> try (cases h; done)
    split at h
    · rename_i hc; cases h; exact r_intC hc rfl
    · cases h
  | band =>
    cases d <;> cases e <;> simp only [opB] at h <;> try (cases h; done)
    split at h
    · rename_i hc; cases h; subst hc; exact r_int (by rw [band1])
    · split at h
      · rename_i hc; cases h; exact r_int (by rw [bitAnd_pp hc.1 hc.2])
      · cases h
  | bor =>
    cases d <;> cases e <;> simp only [opB] at h <;> try (cases h; done)
    split at h
    · rename_i hc; cases h; exact r_int (by rw [Bits.bitOr_pp hc.1 hc.2])
    · cases h
  | bxor =>
    cases d <;> cases e <;> simp only [opB] at h <;> try (cases h; done)
    split at h
    · rename_i hc; cases h; exact r_int (by rw [Bits.bitXor_pp hc.1 hc.2])
    · cases h
/-- a subscript: a list, a tuple, a text -/
theorem r_ix {d e z : D} (h : opB .ix d e = some z) (hd : dget d e = none) : RAt w (rIx w.K) d e z := by
  have seq : ∀ i xs, e = .int i → d.items = some xs → atZ xs i = some z → RAt w (rIx w.K) d e z := fun i xs ee hi ha F H u v hu hv Q q => by
    subst ee
    obtain ⟨p, vs, e1, h1, q1⟩ := hu.items hi
    obtain ⟨_, j, e2, e3⟩ := atZ_at ha
    obtain ⟨y, ey, py⟩ := q1.at e2
    have ea := atI_of q1.len e3 ey
    obtain ⟨a, b, c, m⟩ := mk_pr (w := w) (F := F) py
    rcases h1 with h1 | h1
    · exact .inl ⟨p, vs, i, y, e1, hv.int, h1, ea, q _ H [] a b c m⟩
    · exact .inr (.inl ⟨p, vs, i, y, e1, hv.int, h1, ea, q _ H [] a b c m⟩)
  cases d with
  | str x =>
    cases e <;> simp only [opB, D.items] at h <;> try (cases h; done)
    split at h
    · rename_i i hl
      obtain ⟨c, ec, ez⟩ := Option.map_eq_some_iff.mp h
      subst ez
      refine fun F H u v hu hv Q q => .inr (.inr ⟨x, i, c, hu.str, hv.int, lim_le hl, (atZ_at ec).1, ?_⟩)
      obtain ⟨a, b, c', m⟩ := mk_pr (w := w) (F := F) (H := H) (.str _)
      exact q _ H [] a b c' m
    · cases h
  | dk kvs => simp only [opB] at h; cases e <;> simp [dget, kyOf] at hd h
  | dt kvs =>
    simp only [opB] at h
    obtain ⟨k, ek, _⟩ := Option.bind_eq_some_iff.mp h
    simp [dget, ek] at hd
  | lk d' =>
    cases d' with
    | dk kvs => simp only [opB] at h; cases e <;> simp [dget, kyOf] at hd h
    | dt kvs =>
      simp only [opB] at h
      obtain ⟨k, ek, _⟩ := Option.bind_eq_some_iff.mp h
      simp [dget, ek] at hd
    | lst ys =>
      cases e with
      | int i => simp only [opB, D.items] at h; exact seq i ys rfl rfl h
      | _ => simp [opB] at h
    | _ => cases e <;> simp [opB, D.items] at h
  | tup xs =>
    cases e with
    | int i => simp only [opB, D.items] at h; exact seq i xs rfl rfl h
    | _ => simp [opB] at h
  | ktup xs =>
    cases e with
    | int i => simp only [opB, D.items] at h; exact seq i xs rfl rfl h
    | _ => simp [opB] at h
  | lst xs =>
    cases e with
    | int i => simp only [opB, D.items] at h; exact seq i xs rfl rfl h
    | _ => simp [opB] at h
  | fls xs =>
    cases e with
    | int i => simp only [opB, D.items] at h; exact seq i xs rfl rfl h
    | _ => simp [opB] at h
  | _ => cases e <;> simp [opB, D.items] at h
/-- a subscript of a dict, by values -/
def rDGet : R2 := fun x y H Q => ∃ a v, x = .ref a ∧ DGet H a y (some v) ∧ Q v H
theorem r_dget {d e z : D} {o : Option D} (h : opB .ix d e = some z) (hd : dget d e = some o) : RAt w rDGet d e z := fun F H u v hu hv Q q => by
  obtain ⟨a, r, e1, g, hh⟩ := dget_v hu hv hd
  have eo : o = some z := by
    cases d with
    | dk kvs =>
      simp only [opB] at h
      obtain ⟨k, ek, eo⟩ := Option.map_eq_some_iff.mp (show (kyOf e).map (kget kvs) = some o from hd)
      rw [ek] at h
      exact eo.symm.trans h
    | dt kvs =>
      simp only [opB] at h
      obtain ⟨k, ek, eo⟩ := Option.map_eq_some_iff.mp (show (tkOf e).map (kget kvs) = some o from hd)
      rw [ek] at h
      exact eo.symm.trans h
    | lk d' =>
      cases d' with
      | dk kvs =>
        simp only [opB] at h
        obtain ⟨k, ek, eo⟩ := Option.map_eq_some_iff.mp (show (kyOf e).map (kget kvs) = some o from hd)
        rw [ek] at h
        exact eo.symm.trans h
      | dt kvs =>
        simp only [opB] at h
        obtain ⟨k, ek, eo⟩ := Option.map_eq_some_iff.mp (show (tkOf e).map (kget kvs) = some o from hd)
        rw [ek] at h
        exact eo.symm.trans h
      | _ => simp [dget] at hd
    | _ => simp [dget] at hd
  subst eo
  rcases hh with ⟨h1, _⟩ | ⟨x, y, h1, h2, h3⟩
  · cases h1
  · cases h1
    subst h2
    obtain ⟨a1, b, c, m⟩ := mk_pr (w := w) (F := F) h3
    exact ⟨a, y, e1, g, q _ H [] a1 b c m⟩
/-- comparisons -/
def cpOf : COp → CmpOp
  | .eq => .Eq | .ne => .NotEq | .lt => .Lt | .le => .LtE | .gt => .Gt | .ge => .GtE | .is_ => .Is | .isn => .IsNot | .in_ => .In | .nin => .NotIn
def rInTD (K : PySem.W.Frag) (neg : Bool) : R2 := fun x y H Q => ∃ d ds, Dp K H x d ∧ Dp K H y (.tuple ds) ∧ SeqAt.shaped d = true ∧ SeqAt.shaped (.list ds) = true ∧ Q (.bl (if neg then !ds.any fun z => PyData.eqv z d else ds.any fun z => PyData.eqv z d)) H
theorem op_inTD {X : Cx} (hu : X.A.units + 65 < cLine) : OpR X (compareOp .In) (rInTD X.K false) := by
  intro pins s σ H x y v u Q I rx ry h
  obtain ⟨d, ds, hd, he, sd, se, q⟩ := h
  obtain ⟨as, r1⟩ := Dp.reads I d x v hd rx
  obtain ⟨bs, r2⟩ := Dp.reads I (.tuple ds) y u he ry
  exact SeqAt.in_tuple_reads r2 r1 (SeqAt.canLay_of_shaped se) (SeqAt.canLay_of_shaped sd) (room_in_shaped sd hu) ⟨.bl _, H, I, rfl, q⟩
theorem op_ninTD {X : Cx} (hu : X.A.units + 65 < cLine) : OpR X (compareOp .NotIn) (rInTD X.K true) := by
  intro pins s σ H x y v u Q I rx ry h
  obtain ⟨d, ds, hd, he, sd, se, q⟩ := h
  obtain ⟨as, r1⟩ := Dp.reads I d x v hd rx
  obtain ⟨bs, r2⟩ := Dp.reads I (.tuple ds) y u he ry
  exact SeqAt.notIn_tuple_reads r2 r1 (SeqAt.canLay_of_shaped se) (SeqAt.canLay_of_shaped sd) (room_in_shaped sd hu) ⟨.bl _, H, I, rfl, q⟩
def rInDi (neg : Bool) : R2 := fun x y H Q => ∃ a o, y = .ref a ∧ DGet H a x o ∧ Q (.bl (if neg then !o.isSome else o.isSome)) H
theorem op_inDi {X : Cx} (hu : X.A.units + 1 < cLine) : OpR X (compareOp .In) (rInDi false) := by
  intro pins s σ H x y v u Q I rx ry h
  obtain ⟨a, o, rfl, g, q⟩ := h
  obtain rfl : u = Value.ref a := ry
  exact d_in hu I g rx fun s3 I3 => ⟨.bl _, H, I3, rfl, q⟩
theorem op_ninDi {X : Cx} (hu : X.A.units + 1 < cLine) : OpR X (compareOp .NotIn) (rInDi true) := by
  intro pins s σ H x y v u Q I rx ry h
  obtain ⟨a, o, rfl, g, q⟩ := h
  obtain rfl : u = Value.ref a := ry
  exact d_notIn hu I g rx fun s3 I3 => ⟨.bl _, H, I3, rfl, q⟩
def rSign (neg : Bool) : R2 := fun x y H Q => ∃ (c : Nat) (z : Str), x = .str ⟨#[c]⟩ ∧ y = .str z ∧ Q (.bl (if neg then !decide (c ∈ z.cps.toList) else decide (c ∈ z.cps.toList))) H
def rcOf (K : PySem.W.Frag) : COp → R2
  | .eq => rEqD K
  | .ne => rNeD K
  | .lt => rI0 fun i j => .bl (decide (i < j))
  | .le => rI0 fun i j => .bl (decide (i ≤ j))
  | .gt => rI0 fun i j => .bl (decide (j < i))
  | .ge => rI0 fun i j => .bl (decide (j ≤ i))
  | .is_ => fun x y H Q => (y = .non ∧ Q (.bl (decide (x = .non))) H) ∨ ∃ a b, x = .bl a ∧ y = .bl b ∧ Q (.bl (decide (a = b))) H
  | .isn => fun x y H Q => (y = .non ∧ Q (.bl (!decide (x = .non))) H) ∨ ∃ a b, x = .bl a ∧ y = .bl b ∧ Q (.bl (!decide (a = b))) H
  | .in_ => fun x y H Q => (rInDi false x y H Q ∨ rSign false x y H Q) ∨ (rInTD K false x y H Q ∨ rInD K x y H Q)
  | .nin => fun x y H Q => (rInDi true x y H Q ∨ rSign true x y H Q) ∨ (rInTD K true x y H Q ∨ rNotInD K x y H Q)
theorem cp_of {X : Cx} (hu : X.A.units + 65 < cLine) : ∀ o : COp, OpR X (compareOp (cpOf o)) (rcOf X.K o)
  | .eq => op_eqD (by omega) | .ne => op_neD (by omega) | .lt => op_lt | .le => op_le | .gt => op_gt | .ge => op_ge | .is_ => op_isN.or op_is_bl | .isn => op_notN.or op_isnot_bl
  | .in_ => OpR.or (OpR.or (op_inDi (by omega)) op_in_sign) (OpR.or (op_inTD hu) (op_inD hu))
  | .nin => OpR.or (OpR.or (op_ninDi (by omega)) op_notIn_sign) (OpR.or (op_ninTD hu) (op_notInD hu))
theorem any_eqv (x : D) (hx : shp 60 x = true) : ∀ ys : List D, shps 60 ys = true → (ys.any fun z => deq z x) = (toPs ys).any fun z => PyData.eqv z (toP x)
  | [], _ => rfl
  | y :: ys, h => by
    simp only [shps, Bool.and_eq_true] at h
    simp only [toPs, List.any_cons, any_eqv x hx ys h.2, deq_eqv y x 60 60 h.1 hx]
theorem isNon_v {F : List Addr} {H : Hp} {d : D} {b : Bool} {v : V} (h : Mx w F H d v) (e : isNon d = some b) : decide (v = .non) = b := by
  obtain ⟨B, h⟩ := h
  cases h with
  | pr h => cases h <;> simp [isNon] at e <;> subst e <;> simp
  | lst _ _ => simp [isNon] at e; subst e; simp
  | dk _ _ _ => simp [isNon] at e; subst e; simp
  | dt _ _ _ => simp [isNon] at e; subst e; simp
  | obj _ _ _ _ _ => simp [isNon] at e; subst e; simp
  | hole => simp [isNon] at e
  | lkl _ _ => simp [isNon] at e
  | lkk _ _ _ => simp [isNon] at e
  | lkt _ _ _ => simp [isNon] at e
theorem q_bl {F : List Addr} {H : Hp} {Q : VK} {b : Bool} (q : ∀ x H' B, (∀ b o, H b = some o → H' b = some o) → (∀ b ∈ B, H b = none) → B.Nodup → Mr w F H' (.bl b) x B → Q x H') : Q (.bl b) H := by
  obtain ⟨a, b', c, m⟩ := mk_pr (w := w) (F := F) (H := H) (.bl b)
  exact q _ H [] a b' c m
/-- y in x, by its kinds -/
theorem in_cases {x y : D} {b : Bool} (h : opIn x y = some b) {F : List Addr} {H : Hp} {u v : V} (hu : Mx w F H x u) (hv : Mx w F H y v) :
    (∃ a o, v = .ref a ∧ DGet H a u o ∧ b = o.isSome) ∨ (∃ (c : Nat) (z : Str), u = .str ⟨#[c]⟩ ∧ v = .str z ∧ b = decide (c ∈ z.cps.toList)) ∨
    (∃ d ds, Dp w.K H u d ∧ (Dp w.K H v (.tuple ds) ∨ Dp w.K H v (.list ds)) ∧ SeqAt.shaped d = true ∧ SeqAt.shaped (.list ds) = true ∧ b = ds.any fun z => PyData.eqv z d) := by
  unfold opIn at h
  split at h
  · rename_i o ed
    cases h
    obtain ⟨a, r, e1, g, hh⟩ := dget_v hv hu ed
    refine .inl ⟨a, r, e1, g, ?_⟩
    rcases hh with ⟨h1, h2⟩ | ⟨_, _, h1, h2, _⟩
    · rw [h1, h2]
      all_goals rfl
    · rw [h1, h2]
      all_goals rfl
  · have seq : ∀ ys, shp 60 x = true → shps 60 ys = true → (Dp w.K H v (.tuple (toPs ys)) ∨ Dp w.K H v (.list (toPs ys))) → b = (ys.any fun z => deq z x) →
        ∃ d ds, Dp w.K H u d ∧ (Dp w.K H v (.tuple ds) ∨ Dp w.K H v (.list ds)) ∧ SeqAt.shaped d = true ∧ SeqAt.shaped (.list ds) = true ∧ b = ds.any fun z => PyData.eqv z d := fun ys h1 h2 h3 h4 => by
      refine ⟨toP x, toPs ys, hu.dp h1, h3, shp_shaped h1, ?_, by rw [h4, any_eqv x h1 ys h2]⟩
      obtain ⟨p1, p2⟩ := shps_lay 60 ys h2
      unfold SeqAt.shaped
      rw [Bool.and_eq_true]
      exact ⟨by simp only [PyData.canLay0, p1], decide_eq_true (by simp only [PyData.depth]; omega)⟩
    split at h
    · rename_i z _
      split at h
      · rename_i s _
        split at h
        · rename_i hl
          cases h
          refine .inr (.inl ⟨s.cps.getD 0 0, z, ?_, hv.str, rfl⟩)
          rw [hu.str]
          obtain ⟨⟨l⟩⟩ := s
          cases l with
          | nil => simp [Str.length] at hl
          | cons c l =>
            cases l with
            | nil => simp
            | cons _ _ => simp [Str.length] at hl
        · cases h
      · cases h
    · rename_i ys _
      split at h
      · rename_i hs
        rw [Bool.and_eq_true] at hs
        cases h
        obtain ⟨p, vs, e1, h1, q1⟩ := hv.tup
        subst e1
        exact .inr (.inr (seq ys hs.1 hs.2 (.inl (.tup (SqT.of h1) (dps_of _ _ q1))) rfl))
      · cases h
    · rename_i ys _
      split at h
      · rename_i hs
        rw [Bool.and_eq_true] at hs
        cases h
        obtain ⟨p, vs, e1, h1, q1⟩ := hv.ktup
        subst e1
        exact .inr (.inr (seq ys hs.1 hs.2 (.inl (.tup (.inr h1) (dps_of _ _ q1))) rfl))
      · cases h
    · rename_i ys _
      split at h
      · rename_i hs
        rw [Bool.and_eq_true] at hs
        cases h
        obtain ⟨p, vs, e1, h1, q1⟩ := hv.lst
        subst e1
        exact .inr (.inr (seq ys hs.1 hs.2 (.inr (.lst (SqL.of h1) (dps_of _ _ q1))) rfl))
      · cases h
    · rename_i ys _
      split at h
      · rename_i hs
        rw [Bool.and_eq_true] at hs
        cases h
        obtain ⟨p, vs, e1, h1, q1⟩ := hv.fls
        subst e1
        exact .inr (.inr (seq ys hs.1 hs.2 (.inr (.lst h1 (dps_of _ _ q1))) rfl))
      · cases h
    · cases h
theorem rc_of {o : COp} {d e : D} {b : Bool} (h : opC o d e = some b) : RAt w (rcOf w.K o) d e (.bl b) := by
  cases o with
  | eq =>
    simp only [opC] at h
    split at h
    · rename_i hs
      rw [Bool.and_eq_true] at hs
      cases h
      exact fun F H u v hu hv Q q => ⟨toP d, toP e, hu.dp hs.1, hv.dp hs.2, shp_shaped hs.1, shp_shaped hs.2, by rw [← deq_eqv d e 60 60 hs.1 hs.2]; exact q_bl q⟩
    · cases h
  | ne =>
    simp only [opC] at h
    split at h
    · rename_i hs
      rw [Bool.and_eq_true] at hs
      cases h
      exact fun F H u v hu hv Q q => ⟨toP d, toP e, hu.dp hs.1, hv.dp hs.2, shp_shaped hs.1, shp_shaped hs.2, by rw [← deq_eqv d e 60 60 hs.1 hs.2]; exact q_bl q⟩
    · cases h
  | lt =>
    cases d <;> cases e <;> simp only [opC] at h <;> try (cases h; done)
    cases h
    exact fun F H u v hu hv Q q => ⟨_, _, hu.int, hv.int, q_bl q⟩
  | le =>
    cases d <;> cases e <;> simp only [opC] at h <;> try (cases h; done)
    cases h
    exact fun F H u v hu hv Q q => ⟨_, _, hu.int, hv.int, q_bl q⟩
  | gt =>
    cases d <;> cases e <;> simp only [opC] at h <;> try (cases h; done)
    cases h
    exact fun F H u v hu hv Q q => ⟨_, _, hu.int, hv.int, q_bl q⟩
  | ge =>
    cases d <;> cases e <;> simp only [opC] at h <;> try (cases h; done)
    cases h
    exact fun F H u v hu hv Q q => ⟨_, _, hu.int, hv.int, q_bl q⟩
  | is_ =>
    cases e with
    | non =>
      have h' : isNon d = some b := by rw [← h]; cases d <;> rfl
      exact fun F H u v hu hv Q q => .inl ⟨hv.non, by rw [isNon_v hu h']; exact q_bl q⟩
    | bl k =>
      cases d <;> simp only [opC] at h <;> try (cases h; done)
      cases h
      exact fun F H u v hu hv Q q => .inr ⟨_, _, hu.bl, hv.bl, q_bl q⟩
    | _ => cases d <;> simp only [opC] at h <;> cases h
  | isn =>
    cases e with
    | non =>
      have h' : (isNon d).map (!·) = some b := by rw [← h]; cases d <;> rfl
      obtain ⟨c, ec, eb⟩ := Option.map_eq_some_iff.mp h'
      exact fun F H u v hu hv Q q => .inl ⟨hv.non, by rw [isNon_v hu ec, eb]; exact q_bl q⟩
    | bl k =>
      cases d <;> simp only [opC] at h <;> try (cases h; done)
      cases h
      exact fun F H u v hu hv Q q => .inr ⟨_, _, hu.bl, hv.bl, q_bl q⟩
    | _ => cases d <;> simp only [opC] at h <;> cases h
  | in_ =>
    refine fun F H u v hu hv Q q => ?_
    rcases in_cases (show opIn d e = some b from h) hu hv with ⟨a, o, h1, h2, h3⟩ | ⟨c, z, h1, h2, h3⟩ | ⟨d', ds, h1, h2, h3, h4, h5⟩
    · exact .inl (.inl ⟨a, o, h1, h2, by rw [← h3]; exact q_bl q⟩)
    · exact .inl (.inr ⟨c, z, h1, h2, by rw [← h3]; exact q_bl q⟩)
    · rcases h2 with h2 | h2
      · exact .inr (.inl ⟨d', ds, h1, h2, h3, h4, by rw [← h5]; exact q_bl q⟩)
      · exact .inr (.inr ⟨d', ds, h1, h2, h3, h4, by rw [← h5]; exact q_bl q⟩)
  | nin =>
    obtain ⟨c, ec, eb⟩ := Option.map_eq_some_iff.mp (show (opIn d e).map (!·) = some b from h)
    subst eb
    refine fun F H u v hu hv Q q => ?_
    rcases in_cases ec hu hv with ⟨a, o, h1, h2, h3⟩ | ⟨c', z, h1, h2, h3⟩ | ⟨d', ds, h1, h2, h3, h4, h5⟩
    · exact .inl (.inl ⟨a, o, h1, h2, by rw [← h3]; exact q_bl q⟩)
    · exact .inl (.inr ⟨c', z, h1, h2, by rw [← h3]; exact q_bl q⟩)
    · rcases h2 with h2 | h2
      · exact .inr (.inl ⟨d', ds, h1, h2, h3, h4, by rw [← h5]; exact q_bl q⟩)
      · exact .inr (.inr ⟨d', ds, h1, h2, h3, h4, by rw [← h5]; exact q_bl q⟩)
end
end Q
end
section
set_option Elab.async false
set_option linter.all false
set_option maxRecDepth 100000
namespace Q
open PySem PySem.Spec PyProof.Rows L2
/-! a def's promise where nothing is just being shown: no guard of repr stands -/
structure FnG (P : Program) (wo : World) (K : PySem.W.Frag) (mg : Str → Option Value) (base : Heap) (CX : CXT) (k : Nat) (f : Addr) (fd : FuncData) (ps : List Str) (sp : Sp) : Prop where
  len : ∀ vs H Q E, sp vs H Q E → vs.length = ps.length
  run : ∀ (A : Around) (outer : List Env) (s : Shared) (H : Hp) (args : Args) (us : List Value) (vs : List V) (Q : VK) (E : XK), Room k A → A.guards = some [] →
    Env0 P wo K mg base A outer s H → BindsTo s fd args (ps.zip us) → Vals vs us → sp vs H Q E → codeAny (model P wo) A (.call (.ref f) args) (CR CX outer P wo H s Q E) s
section
variable {X : Cx} {CX : CXT} {k : Nat} {f : Addr} {fd : FuncData} {ps : List Str} {sp : Sp} {E : L2.St → XK} {x : Str} {p pos : Pos} {e : Expr} {es : List Expr} {t : TA}
theorem run_fnG {pins : List (Addr × Obj)} {σ : L2.St} {H : Hp} {s : Shared} {Q : VK} {us : List Value} {vs : List V} (F : FnG X.prog X.w X.K X.mg X.base CX k f fd ps sp)
    (gd : X.A.guards = some []) (room : Room k X.A) (bnd : Binds X.K fd ps []) (pass : PassesAt CX X σ (E σ)) (I : Inv X pins σ H s) (r : Vals vs us) (q : sp vs H Q (E σ)) :
    wpAny (model X.prog X.w) X.A (call (.ref f) us) (EP X pins σ Q) X.xe s := by
  have bb := bnd s us I.kIn (by rw [List.append_nil, ← r.length]; exact F.len _ _ _ _ q)
  rw [List.append_nil] at bb
  apply wpAny_call
  refine codeAny_mono (F.run X.A X.stack s H ⟨us, []⟩ us vs Q (E σ) room gd I.env0 bb r q) ?_
  intro res s' out
  match res with
  | .error e => exact pass pins H s e s' I out
  | .ok (.ret u) => exact I.after out
  | .ok .next => exact out.elim
  | .ok .brk => exact out.elim
  | .ok .cont => exact out.elim
/-- from a body -/
theorem fn_okG {P : Program} {wo : World} {K : PySem.W.Frag} {mg : Str → Option Value} {base : Heap} {a : Addr} {name qual : Str} {params : Arguments} {body : List Stmt} {scope : Scope} {dV kV doc pm cdv ct oc : Value} {an od : Option Addr}
    {osl : Array (Option Value)} {N : List Str} (look : K.lookup a = some ⟨oc, od, .func (PySem.W.fnOf name qual params body scope dV kV doc pm an cdv ct), osl⟩) (code : PySem.W.codeIn K cdv qual = true) (sc : FnScope N ps scope)
    (ln : ∀ vs H Q E, sp vs H Q E → vs.length = ps.length)
    (walk : ∀ (A : Around) (outer : List Env) (s : Shared) (H : Hp) (vs : List V) (Q : VK) (E : XK), Room k (A.deeper (envOfC qual scope s.heap.objs.size a cdv)) → A.guards = some [] → sp vs H Q E →
      ∃ t, PSs (cxOf CX P wo K mg base N qual scope a cdv A outer s H E) body t ∧ t { nx := fun _ H' => Q .non H', rt := Q } (start N vs) H) :
    FnG P wo K mg base CX (k + 1) a (PySem.W.fnOf name qual params body scope dV kV doc pm an cdv ct) ps sp := by
  constructor
  · exact ln
  intro A outer s H args us vs Q E room gd ev bnd rv q
  have stands : ∀ {b : Addr} {o : Obj}, base.get? b = some o → s.heap.get? b = some o := fun {b o} h => (ev.bs b o h).1
  have there : K.In s.heap := PySem.W.Frag.In.keeps ev.mod.kin fun b o h => stands h
  have par : ∀ y ∈ ps.zip us, scope.names.lookup y.1 = some .local ∨ (scope.names.lookup y.1 = some .cell ∧ ((cellsFrom (s.heap.objs.size + 1) scope.names []).lookup y.1).isSome = true) := by
    rintro ⟨n, u⟩ hy
    have mem := (List.of_mem_zip hy).1
    cases sc.par n mem with
    | inl z => exact Or.inl z
    | inr z => exact Or.inr ⟨z, PySem.W.cellsFrom_some _ _ _ (Or.inl z)⟩
  apply codeAny_call_function room.depth (there _ _ look) rfl sc.co sc.gen rfl (PySem.W.codeRec_of there code)
  apply bnd
  apply wpAny_newFunctionEnv_cells sc.kind par
  intro env same s1 inside
  subst same
  refine ⟨(ev.mod.nolimit.keeps fun b o h => stands h).keeps inside.toInCall.keep, codeAny_func ?_⟩
  obtain ⟨t, ht, qt⟩ := walk A outer s H vs Q E (room.deeper _) gd q
  have I := inv_start (CX := CX) (E := E) sc room.hd ev (ln _ _ _ _ q) rv inside
  refine wpAny_mono (ht.run [] s1 (start N vs) H _ I qt) ?_ ?_
  · intro fl s' out
    match fl with
    | .ret u =>
      obtain ⟨v, σ', H', J, ru, qv⟩ := out
      exact ⟨v, H', J.os, J.bare, J.base, J.hok, ru, qv⟩
    | .next =>
      obtain ⟨σ', H', J, qv⟩ := out
      exact ⟨V.non, H', J.os, J.bare, J.base, J.hok, rfl, qv⟩
    | .brk =>
      obtain ⟨_, _, _, no⟩ := out
      exact no.elim
    | .cont =>
      obtain ⟨_, _, _, no⟩ := out
      exact no.elim
  · exact fun e s' out => out
end
end Q
end
section
set_option Elab.async false
set_option linter.all false
set_option maxRecDepth 100000
set_option maxHeartbeats 0
namespace Q
open PySem PySem.Spec PyProof.Rows L2
/-! the look whether a text of Python is a text of the core -/
def visB (sc : Scope) (x : Str) : Bool := (match sc.names.lookup x with | some .local => true | some .cell => true | some .free => true | _ => false) && !(x == ("__debug__" : Str)) && !(x == ("__classdict__" : Str))
def glB (sc : Scope) (x : Str) : Bool := decide (sc.names.lookup x = some .globalImplicit) && !(x == ("__debug__" : Str)) && decide (x ≠ "__name__")
def notSl : Expr → Bool
  | .Slice .. => false
  | _ => true
def notSet : Expr → Bool
  | .Set .. => false
  | _ => true
def notStar : Expr → Bool
  | .Starred .. => false
  | _ => true
def biN : Bi → Str
  | .len => "len" | .tuple => "tuple" | .list => "list" | .max => "max" | .min => "min" | .abs => "abs" | .sum => "sum" | .any => "any" | .all => "all" | .int => "int" | .str => "str" | .repr => "repr"
def tyN : Ty → Str
  | .int => "int" | .bool => "bool" | .str => "str" | .tuple => "tuple" | .list => "list"
def muN : Mu → Str
  | .append => "append" | .extend => "extend" | .pop => "pop"
def bmN : Bm → Str
  | .sidx => "index" | .join => "join" | .split => "split"
def isFn : Kd → Bool
  | .fn => true
  | _ => false
def isMe (c : Nat) : Kd → Bool
  | .me d => c == d
  | _ => false
def isMk (c : Nat) : Kd → Bool
  | .mk d => c == d
  | _ => false
def ckTy (sc : Scope) (t : Ty) : Expr → Bool
  | .Name x _ => decide (x = tyN t) && glB sc x
  | _ => false
def ckTys (sc : Scope) : List Ty → Expr → Bool
  | [t], e => ckTy sc t e
  | _, _ => false
def notCall : Expr → Bool
  | .Call .. => false
  | _ => true
def tstX : Ex → Bool
  | .and_ a b => tstX a && tstX b
  | .or_ a b => tstX a && tstX b
  | .not_ a => tstX a
  | .ife _ _ _ => false
  | .frz _ => false
  | _ => true
/-- a target: names of slots -/
def ckTs (N : List Str) : List Nat → List Expr → Bool
  | [], [] => true
  | i :: is, .Name x _ :: es => decide (N[i]? = some x) && ckTs N is es
  | _, _ => false
/-- its names may be stored: at a def's own level; in a block -/
def locB (sc : Scope) (x : Str) : Bool := match sc.names.lookup x with | some .local => true | some .cell => true | _ => false
def locAll (N : List Str) (sc : Scope) : List Nat → Bool
  | [] => true
  | i :: r => (match N[i]? with | some x => locB sc x | none => false) && locAll N sc r
def blkAll (N : List Str) (scope rs : Scope) : List Nat → Bool
  | [] => true
  | i :: r => (match N[i]? with
    | some x => decide (rs.names.lookup x = some .local) || (decide (rs.names.lookup x = some .cell) && decide (scope.names.lookup x = some .cell))
    | none => false) && blkAll N scope rs r
def ckTg (N : List Str) : List Nat → Expr → Bool
  | [i], .Name x _ => decide (N[i]? = some x)
  | is, .Tuple es _ _ => decide (1 < is.length ∧ is.length < 5) && ckTs N is es
  | _, _ => false
def ownL (N : List Str) (own : List Nat) : List (Str × Nat) := own.map fun i => ((N[i]?).getD "", i)
def isRange (sc : Scope) : Expr → Bool
  | .Call (.Name x _) _ [] _ => decide (x = "range") && glB sc x
  | _ => false
def lenX : Exs → Nat
  | .nil => 0
  | .cons _ es => lenX es + 1
def isTupT : Expr → Bool
  | .Tuple .. => true
  | _ => false
def lnOk : IK → Nat → Bool
  | .seq, _ => true
  | .rng, n => decide (0 < n ∧ n < 4)
  | .enum, n => n == 1
  | .zip, n => n == 2
def tgOk : IK → Expr → Bool
  | .seq, _ => true
  | .rng, _ => true
  | _, e => isTupT e
/-- what is walked: its form, the arguments -/
def itOk (sc : Scope) : IK → Expr → Bool
  | .seq, _ => true
  | .rng, .Call (.Name x _) _ [] _ => decide (x = "range") && glB sc x
  | .enum, .Call (.Name x _) _ [] _ => decide (x = "enumerate") && glB sc x
  | .zip, .Call (.Name x _) _ [] _ => decide (x = "zip") && glB sc x
  | _, _ => false
def itArgs : IK → Expr → List Expr
  | .seq, l => [l]
  | .rng, .Call _ ls _ _ => ls
  | .enum, .Call _ ls _ _ => ls
  | .zip, .Call _ ls _ _ => ls
  | _, _ => []
/-- displays of lists of ints -/
def isIs : List Int → List Expr → Bool
  | [], [] => true
  | i :: is, .Constant (.int j) _ _ :: es => decide (i = j) && isIs is es
  | _, _ => false
def isLs : List (List Int) → List Expr → Bool
  | [], [] => true
  | l :: ls, .List es _ :: r => isIs l es && isLs ls r
  | _, _ => false
mutual
def ckE (n : Nm) (N : List Str) : Scope → Ex → Expr → Bool
  | sc, .var i, e => match e with
    | .Name x _ => decide (N[i]? = some x) && visB sc x
    | _ => false
  | _, .cst d, e => match e, d with
    | .Constant (.int i) _ _, .int j => decide (i = j)
    | .Constant (.str s) _ _, .str t => decide (s = t)
    | .Constant (.bool b) _ _, .bl c => b == c
    | .Constant .none _ _, .non => true
    | _, _ => false
  | sc, .glb g, e => match e with
    | .Name x _ => decide (x = n.gn g) && glB sc x
    | _ => false
  | _, .nop, _ => false
  | sc, .bin o a b, e => match e, o with
    | .Subscript l r _, .ix => notSl r && ckE n N sc a l && ckE n N sc b r
    | .BinOp l p r _, o => (match o with | .ix => false | _ => true) && decide (p = opOf o) && ckE n N sc a l && ckE n N sc b r
    | _, _ => false
  | sc, .un .neg a, e => match e with
    | .UnaryOp .USub l _ => ckE n N sc a l
    | _ => false
  | sc, .cmp o a b, e => match e with
    | .Compare l [p] [r] _ => decide (p = cpOf o) && notSet r && ckE n N sc a l && ckE n N sc b r
    | _ => false
  | sc, .chain o o2 a b c, e => match e with
    | .Compare l [p, p2] [r, t] _ => decide (p = cpOf o) && decide (p2 = cpOf o2) && notSet t && ckE n N sc a l && ckE n N sc b r && ckE n N sc c t
    | _ => false
  | sc, .and_ a b, e => match e with
    | .BoolOp .And [l, r] _ => ckE n N sc a l && ckE n N sc b r
    | .BoolOp .And (l :: r :: t :: ts) p => ckE n N sc a l && ckE n N sc b (.BoolOp .And (r :: t :: ts) p)
    | _ => false
  | sc, .or_ a b, e => match e with
    | .BoolOp .Or [l, r] _ => ckE n N sc a l && ckE n N sc b r
    | .BoolOp .Or (l :: r :: t :: ts) p => ckE n N sc a l && ckE n N sc b (.BoolOp .Or (r :: t :: ts) p)
    | _ => false
  | sc, .not_ a, e => match e with
    | .UnaryOp .Not l _ => ckE n N sc a l
    | _ => false
  | sc, .ife c a b, e => match e with
    | .IfExp t l r _ => tstX c && ckE n N sc c t && ckE n N sc a l && ckE n N sc b r
    | _ => false
  | sc, .tup es, e => match e with
    | .Tuple l _ _ => ckX n N sc es l
    | _ => false
  | sc, .lst es, e => match e with
    | .List l _ => ckX n N sc es l
    | _ => false
  | _, .dk0, e => match e with
    | .Dict [] [] _ => true
    | _ => false
  | _, .dt0, e => match e with
    | .Dict [] [] _ => true
    | _ => false
  | sc, .slc a lo hi, e => match e with
    | .Subscript l (.Slice x y none _) _ => ckE n N sc a l && (match x, lo with
        | none, .nop => true
        | some x, lo => ckE n N sc lo x
        | _, _ => false) && (match y, hi with
        | none, .nop => true
        | some y, hi => ckE n N sc hi y
        | _, _ => false)
    | _ => false
  | sc, .att a f, e => match e with
    | .Attribute l g _ => decide (g = n.fld f) && (pathOf a).isSome && ckE n N sc a l
    | _ => false
  | sc, .isi a ts, e => match e with
    | .Call (.Name x _) [l, t] [] _ => decide (x = "isinstance") && glB sc x && notStar l && ckE n N sc a l && ckTys sc ts t
    | _ => false
  | sc, .call f es, e => match e with
    | .Call (.Name x _) l [] _ => decide (x = n.fn f) && isFn (n.kd f) && glB sc x && ckX n N sc es l
    | _ => false
  | sc, .meth c f o es, e => match e with
    | .Call (.Attribute r m ap) l [] cp => decide (m = n.fn f) && isMe c (n.kd f) && (ap.endLine == cp.line) && decide (l.length < 30) && (pathOf o).isSome && ckE n N sc o r && ckX n N sc es l
    | _ => false
  | sc, .new c f es, e => match e with
    | .Call (.Name x _) l [] _ => decide (x = n.cn c) && isMk c (n.kd f) && glB sc x && ckX n N sc es l
    | _ => false
  | sc, .bi b es, e => match e with
    | .Call (.Name x _) (l :: ls) [] _ => decide (x = biN b) && glB sc x && ckX n N sc es (l :: ls)
    | _ => false
  | sc, .bm b o es, e => match e with
    | .Call (.Attribute r m ap) [l1] [] cp => decide (m = bmN b) && (ap.endLine == cp.line) && notCall r && ckE n N sc o r && ckX n N sc es [l1]
    | _ => false
  | sc, .mut b o es, e => match e with
    | .Call (.Attribute r m ap) l [] cp => decide (m = muN b) && (ap.endLine == cp.line) && decide (l.length < 30) && (pathOf o).isSome && ckE n N sc o r && ckX n N sc es l
    | _ => false
  | sc, .comp ts k es own c elt, e => match e with
    | .ListComp l [⟨tg, it, ifs, 0⟩] scope _ => blkC N sc scope (ownL N own) && decide (∀ i ∈ ts, i ∈ own) && blkAll N scope (relS scope sc) ts && ckTg N ts tg && notSet it && lnOk k (lenX es) && tgOk k tg && itOk sc k it && ckX n N sc es (itArgs k it) &&
        (match ifs, c with
          | [], .cst (.bl true) => true
          | [t], c => tstX c && ckE n N (relS scope sc) c t
          | _, _ => false) && ckE n N (relS scope sc) elt l
    | _ => false
  | sc, .inc a ls, e => match e with
    | .Compare l [.In] [.Tuple es _ _] _ => isLs ls es && ckE n N sc a l
    | _ => false
  | sc, .sdf o a b, e => match e with
    | .Call (.Attribute r m ap) [l1, l2] [] cp => decide (m = "setdefault") && (ap.endLine == cp.line) && (pathOf o).isSome && notStar l1 && notStar l2 && ckE n N sc o r && ckE n N sc a l1 && ckE n N sc b l2
    | _ => false
  | sc, .dgt o a b, e => match e with
    | .Call (.Attribute r m ap) [l1, l2] [] cp => decide (m = "get") && (ap.endLine == cp.line) && (pathOf o).isSome && notStar l1 && notStar l2 && ckE n N sc o r && ckE n N sc a l1 && ckE n N sc b l2
    | _ => false
  | sc, .dup o a, e => match e with
    | .Call (.Attribute r m ap) [l1] [] cp => decide (m = "update") && (ap.endLine == cp.line) && (pathOf o).isSome && notStar l1 && ckE n N sc o r && ckE n N sc a l1
    | _ => false
  | sc, .dkd es, e => match e with
    | .Dict ks vs _ => !ks.isEmpty && decide (ks.length ≤ 15) && ckP n N sc es ks vs
    | _ => false
  | sc, .dtd es, e => match e with
    | .Dict ks vs _ => !ks.isEmpty && decide (ks.length ≤ 15) && ckP n N sc es ks vs
    | _ => false
  | sc, .frz a, e => (match e with
    | .ListComp .. => false
    | _ => true) && ckE n N sc a e
  | sc, .lz es, e => match e with
    | .Call (.Name x _) [.Call (.Name y _) [l1, l2] [] _] [] _ => decide (x = "list") && decide (y = "zip") && glB sc x && glB sc y && ckX n N sc es [l1, l2]
    | _ => false
def ckP (n : Nm) (N : List Str) : Scope → Exs → List (Option Expr) → List Expr → Bool
  | _, .nil, [], [] => true
  | sc, .cons e es, some l :: ks, vs => ckE n N sc e l && ckV n N sc es ks vs
  | _, _, _, _ => false
def ckV (n : Nm) (N : List Str) : Scope → Exs → List (Option Expr) → List Expr → Bool
  | sc, .cons e es, ks, r :: vs => ckE n N sc e r && ckP n N sc es ks vs
  | _, _, _, _ => false
def ckX (n : Nm) (N : List Str) : Scope → Exs → List Expr → Bool
  | _, .nil, [] => true
  | sc, .cons e es, l :: ls => notStar l && ckE n N sc e l && ckX n N sc es ls
  | _, _, _ => false
end
set_option maxHeartbeats 0 in
theorem ck_nop {n : Nm} {N : List Str} {sc : Scope} {e : Expr} : ckE n N sc .nop e = false := by unfold ckE; rfl
set_option maxHeartbeats 0 in
theorem ck_nopX {n : Nm} {N : List Str} {sc : Scope} : ckX n N sc .nil [] = true := by unfold ckX; rfl
set_option maxHeartbeats 0 in
theorem ck_nopP {n : Nm} {N : List Str} {sc : Scope} : ckP n N sc .nil [] [] = true := by unfold ckP; rfl
/-- a list comprehension that is stored in a name on its line -/
def lcSw (sc : Scope) (x : Str) (px : Pos) : Expr → Bool
  | .ListComp _ _ s p => (match sc.kind with | .function => true | _ => false) && decide (sc.names.lookup x = some .local) && (px.line == p.line) && !(s.names.any fun (n, k) => n == x && (k == .local || k == .cell)) ||
      !(decide (sc.names.lookup x = some .local) && (px.line == p.line))
  | .SetComp .. => false
  | .DictComp .. => false
  | _ => true
mutual
def ckC (n : Nm) (N : List Str) (sc : Scope) : Cm → Stmt → Bool
  | .set i e, s => match s with
    | .Assign [.Name x px] v _ => decide (N[i]? = some x) && locB sc x && lcSw sc x px v && ckE n N sc e v
    | _ => false
  | .unp is e, s => match s with
    | .Assign [.Tuple l _ _] v _ => decide (1 < is.length ∧ is.length < 5) && ckTs N is l && locAll N sc is && (match v with | .Tuple .. => decide (3 < l.length) | .ListComp .. => false | .Call .. => true | .Name .. => true | .Subscript .. => true | _ => false) && ckE n N sc e v
    | _ => false
  | .par i j a b, s => match s with
    | .Assign [.Tuple [.Name x px, .Name y py] kt pt] (.Tuple [u, v] k2 p2) _ => decide (N[i]? = some x) && decide (N[j]? = some y) && decide (i ≠ j) && decide (sc.names.lookup x = some .local) && decide (sc.names.lookup y = some .local) && (match sc.kind with | .function => true | _ => false) &&
        (px.line == py.line) && !((foldedForSure 8 u && foldedForSure 8 v)) && !((constantsAlone 8 u && constantsAlone 8 v)) && notStar u && notStar v && ckE n N sc a u && ckE n N sc b v
    | _ => false
  | .sts o i e, s => match s with
    | .Assign [.Subscript l r _] v _ => notSl r && (pathOf o).isSome && ckE n N sc o l && ckE n N sc i r && ckE n N sc e v
    | _ => false
  | .stf o f e, s => match s with
    | .Assign [.Attribute l g _] v _ => decide (g = n.fld f) && (pathOf o).isSome && ckE n N sc o l && ckE n N sc e v && (match v with | .ListComp .. => false | _ => true)
    | _ => false
  | .exp e, s => match s with
    | .Expr v _ => (match v with | .Call .. => true | _ => false) && ckE n N sc e v
    | _ => false
  | .ret e, s => match s with
    | .Return (some v) _ => ckE n N sc e v
    | _ => false
  | .retN, s => match s with
    | .Return none _ => true
    | _ => false
  | .pass, s => match s with
    | .Pass _ => true
    | _ => false
  | .brk, s => match s with
    | .Break _ => true
    | _ => false
  | .cnt, s => match s with
    | .Continue _ => true
    | _ => false
  | .ite c a b, s => match s with
    | .If t l r _ => tstX c && ckE n N sc c t && ckCs n N sc a l && ckCs n N sc b r
    | _ => false
  | .for_ ts k es body, s => match s with
    | .For tg it l [] _ => ckTg N ts tg && locAll N sc ts && notSet it && lnOk k (lenX es) && tgOk k tg && itOk sc k it && ckX n N sc es (itArgs k it) && ckCs n N sc body l
    | _ => false
  | .while_ c body, s => match s with
    | .While t l [] _ => tstX c && ckE n N sc c t && ckCs n N sc body l
    | _ => false
  | .rais c, s => match s with
    | .Raise (some (.Call (.Name x _) [.Constant (.str _) _ _] [] _)) none _ => decide (x = n.en c) && glB sc x
    | _ => false
  | .never, _ => true
def ckCs (n : Nm) (N : List Str) (sc : Scope) : Cms → List Stmt → Bool
  | .nil, [] => true
  | .cons c cs, s :: ss => ckC n N sc c s && ckCs n N sc cs ss
  | _, _ => false
end

/-! ### the context -/
structure XC (w : Wd) (X : Cx) (N : List Str) (sc : Scope) (W : WX) (L : Nat) : Prop where
  hN : X.N = N
  nd : N.Nodup
  hsc : X.env.scope = sc
  hK : X.K = w.K
  calm : X.calm = true
  room : Room (L + 1) X.A
  tk : Takes X W
  gd : X.A.guards = some []
/-- how a def ends: the answer, what stands at the parameters -/
def spF (w : Wd) (g : List D → FR) : Sp := fun vs H Q E => ∃ F L A, L.map (·.2) = vs ∧ Ow w F H L A ∧ match g (L.map (·.1)) with
  | .ok d ps => ∀ v H' L' A', Lv ps (vs.map some) L' → Ow w F H' ((d, v) :: L') A' → Step A H A' H' → Q v H'
  | .er c ps => ∀ C H' L' A', w.ecl c = some C → Lv ps (vs.map some) L' → Ow w F H' L' A' → Step A H A' H' → E C none H'
  | .no => False
/-- what the module holds -/
structure EnvOk (w : Wd) (cf : Nat → List D → FR) (L : Nat) (P : Program) (wo : World) (mg : Str → Option Value) (base : Heap) : Prop where
  bi : ∀ x : Str, x ∈ ([("len" : Str), "tuple", "list", "max", "min", "abs", "sum", "any", "all", "int", "str", "isinstance", "bool", "range", "enumerate", "zip", "sorted", "repr", "set", "dict", "reversed"] : List Str) → mg x = none
  glob : ∀ g d, w.n.sg.glob g = some d → ∃ u v, mg (w.n.gn g) = some u ∧ RelV v u ∧ ∀ F H, Pr w.K F H d v
  fn : ∀ f, isFn (w.n.kd f) = true → ∃ a fd ps, mg (w.n.fn f) = some (.ref a) ∧ PySem.W.keepIn w.K (.ref a) = true ∧ Binds w.K fd ps [] ∧ FnG P wo w.K mg base (L2.CX P wo) L a fd ps (spF w (cf f))
  met : ∀ f c C, isMe c (w.n.kd f) = true → w.cl c = some C → ∃ a fd ps, Meth w.K C (w.n.fn f) a ∧ Binds w.K fd ps [] ∧ FnG P wo w.K mg base (L2.CX P wo) L a fd ps (spF w (cf f)) ∧ w.n.fn f ∉ (w.n.sg.flds c).map w.n.fld
  mak : ∀ f c, isMk c (w.n.kd f) = true → ∃ C a fd ps, w.cl c = some C ∧ mg (w.n.cn c) = some (.ref C) ∧ Mk w.K C a ∧ Binds w.K fd ps [] ∧ FnG P wo w.K mg base (L2.CX P wo) L a fd ps (spF w (cf f))
  cls : ∀ c C, w.cl c = some C → Cls w.K C ∧ ∀ f j, fieldIx (w.n.sg.flds c) f = some j → NoAttr w.K C (w.n.fld f)
end Q
end
section
set_option Elab.async false
set_option linter.all false
set_option maxRecDepth 100000
namespace Q
open PySem PySem.Spec PyProof.Rows L2
section
variable {w : Wd} {X : Cx} {N : List Str} {sc : Scope} {W : WX} {L : Nat}
theorem gl_of (h : XC w X N sc W L) {x : Str} (g : glB sc x = true) : Gl X x ∧ (x == ("__debug__" : Str)) = false ∧ x ≠ "__name__" := by
  unfold glB at g
  simp only [Bool.and_eq_true, decide_eq_true_eq, Bool.not_eq_true'] at g
  exact ⟨by show X.env.scope.names.lookup x = _; rw [h.hsc]; exact g.1.1, g.1.2, g.2⟩
theorem vis_of (h : XC w X N sc W L) {x : Str} (g : visB sc x = true) : Vis X.env.scope x ∧ (x == ("__debug__" : Str)) = false ∧ (x == ("__classdict__" : Str)) = false := by
  unfold visB at g
  simp only [Bool.and_eq_true, Bool.not_eq_true'] at g
  refine ⟨?_, g.1.2, g.2⟩
  rw [h.hsc]
  have g1 := g.1.1
  unfold Vis
  split at g1
  · rename_i e; exact .inl e
  · rename_i e; exact .inr (.inl e)
  · rename_i e; exact .inr (.inr e)
  · cases g1
theorem loc_of (h : XC w X N sc W L) {x : Str} (g : locB sc x = true) : Loc X.env.scope x := by
  unfold locB at g
  rw [h.hsc]
  split at g
  · rename_i e; exact .inl e
  · rename_i e; exact .inr e
  · cases g
theorem units_of (h : XC w X N sc W L) : X.A.units + 65 < cLine := by have := h.room.un; omega

/-! ### reading a place -/
def FVr (w : Wd) (H : Hp) : V → List Nat → V → Prop
  | v0, [], v => v = v0
  | v0, f :: r, v => ∃ a C dx ws x, v0 = .ref a ∧ H a = some (.ins C dx ws) ∧ ws.lookup (w.n.fld f) = some x ∧ FVr w H x r v
def PVr (w : Wd) (H : Hp) (σ : L2.St) (i : Nat) (p : List Nat) (v : V) : Prop := ∃ v0, σ[i]? = some (some v0) ∧ FVr w H v0 p v
theorem FVr.fv {w : Wd} {H : Hp} : ∀ {p : List Nat} {v0 v : V}, FVr w H v0 p v → (∃ a, v = .ref a ∧ Nt H a) → FV w H v0 p v
  | [], v0, v, e, n => by cases (show v = v0 from e); exact ⟨rfl, n⟩
  | f :: r, v0, v, ⟨a, C, dx, ws, x, e, h, l, q⟩, n => ⟨a, C, dx, ws, x, e, h, l, q.fv n⟩
theorem FVr.snoc {w : Wd} {H : Hp} {f : Nat} : ∀ {p : List Nat} {v0 v : V} {a C dx : Addr} {ws : List (Str × V)} {x : V}, FVr w H v0 p v → v = .ref a → H a = some (.ins C dx ws) → ws.lookup (w.n.fld f) = some x → FVr w H v0 (p ++ [f]) x
  | [], v0, v, a, C, dx, ws, x, e, e2, h, l => by cases (show v = v0 from e); exact ⟨a, C, dx, ws, x, e2, h, l, rfl⟩
  | g :: r, v0, v, a, C, dx, ws, x, ⟨a', C', dx', ws', x', e', h', l', q⟩, e2, h, l => ⟨a', C', dx', ws', x', e', h', l', q.snoc e2 h l⟩
theorem rdF_snoc {sg : Sg} {f : Nat} : ∀ {p : List Nat} {d0 d : D}, rdF sg d0 (p ++ [f]) = some d → ∃ c fs j, rdF sg d0 p = some (.obj c fs) ∧ fieldIx (sg.flds c) f = some j ∧ fs[j]? = some d
  | [], d0, d, h => by
    cases d0 with
    | obj c fs =>
      simp only [List.nil_append, rdF] at h
      split at h
      · rename_i j ej
        split at h
        · rename_i x ex
          cases h
          exact ⟨c, fs, j, rfl, ej, ex⟩
        · cases h
      · cases h
    | _ => simp [rdF] at h
  | g :: r, d0, d, h => by
    cases d0 with
    | obj c fs =>
      simp only [List.cons_append, rdF] at h
      split at h
      · rename_i j ej
        split at h
        · rename_i x ex
          obtain ⟨c', fs', j', a, b, e⟩ := rdF_snoc h
          refine ⟨c', fs', j', ?_, b, e⟩
          simp only [rdF, ej, ex]
          exact a
        · cases h
      · cases h
    | _ => simp [rdF] at h
theorem rdS_snoc {sg : Sg} {S : Sl} {i f : Nat} {p : List Nat} {d : D} (h : rdS sg S i (p ++ [f]) = some d) : ∃ c fs j, rdS sg S i p = some (.obj c fs) ∧ fieldIx (sg.flds c) f = some j ∧ fs[j]? = some d := by
  unfold rdS at h
  split at h
  · rename_i d0 e0
    obtain ⟨c, fs, j, a, b, e⟩ := rdF_snoc h
    exact ⟨c, fs, j, by simp only [rdS, e0]; exact a, b, e⟩
  · cases h
def tRd (w : Wd) (i : Nat) (p : List Nat) : TE := fun σ H Q => ∃ F S T A d, Rl w F H S σ T A ∧ rdS w.n.sg S i p = some d ∧ ∀ v, PVr w H σ i p v → Mx w F H d v → Q v H
theorem path_pe {cf : Nat → List D → FR} {n : Nm} (hn : n = w.n) (E : EnvOk w cf L X.prog X.w X.mg X.base) (h : XC w X N sc W L) : ∀ (ex : Ex) (e : Expr) (i : Nat) (p : List Nat), ckE n N sc ex e = true → pathOf ex = some (i, p) → PE X e (tRd w i p)
  | .var j, e, i, p, hc, hp => by
    simp only [pathOf, Option.some.injEq, Prod.mk.injEq] at hp
    obtain ⟨rfl, rfl⟩ := hp
    unfold ckE at hc
    split at hc
    · rename_i x pos
      simp only [Bool.and_eq_true, decide_eq_true_eq] at hc
      obtain ⟨a, b, c⟩ := vis_of h hc.2
      refine PE.weak (pe_var (i := j) (x := x) (by rw [h.hN]; exact hc.1) a b c) fun σ H Q q => ?_
      obtain ⟨F, S, T, A, d, r, e1, q⟩ := q
      unfold rdS at e1
      split at e1
      · rename_i d0 e0
        cases e1
        obtain ⟨v, A', ev, r', _⟩ := r.takeSlot e0
        obtain ⟨B, m, _⟩ := r'.top
        exact ⟨v, ev, q v ⟨v, ev, rfl⟩ ⟨B, m⟩⟩
      · cases e1
    · cases hc
  | .att a f, e, i, p, hc, hp => by
    simp only [pathOf] at hp
    obtain ⟨⟨i', p'⟩, hpa, ee⟩ := Option.map_eq_some_iff.mp hp
    simp only [Prod.mk.injEq] at ee
    obtain ⟨rfl, rfl⟩ := ee
    unfold ckE at hc
    split at hc
    · rename_i l g pos
      simp only [Bool.and_eq_true, decide_eq_true_eq] at hc
      obtain ⟨⟨rfl, _⟩, hl⟩ := hc
      have ih := path_pe hn E h a l i' p' hl hpa
      have hb : attributeBase l (n.fld f) X.env (eval l X.env) = eval l X.env := by
        cases a with
        | var k =>
          unfold ckE at hl
          split at hl
          · rfl
          · cases hl
        | att a' f' =>
          unfold ckE at hl
          split at hl
          · rfl
          · cases hl
        | _ => simp [pathOf] at hpa
      refine PE.weak (pe_fld (f := n.fld f) ih hb) fun σ H Q q => ?_
      obtain ⟨F, S, T, A, d, r, e1, q⟩ := q
      obtain ⟨c, fs, j, e2, ej, ed⟩ := rdS_snoc e1
      refine ⟨F, S, T, A, .obj c fs, r, e2, fun v pv m => ?_⟩
      obtain ⟨B, m⟩ := m
      cases m with
      | pr m => cases m
      | @obj pp C dx _ _ ws A2 h1 hcl en el ml =>
        obtain ⟨u, eu, lu, eu2⟩ := obj_field en el ej ed
        obtain ⟨A1, B0, A3, _, _, m0, _⟩ := ml_sides ml eu2
        obtain ⟨k1, k2⟩ := E.cls c C hcl
        obtain ⟨v0, ev0, fv⟩ := pv
        rw [h.hK, hn]
        exact ⟨pp, C, dx, ws, u, rfl, h1, k1, k2 f j ej, lu, q u ⟨v0, ev0, fv.snoc rfl h1 lu⟩ ⟨B0, m0⟩⟩
    · cases hc
  | .cst _, _, _, _, _, hp => by simp [pathOf] at hp
  | .glb _, _, _, _, _, hp => by simp [pathOf] at hp
  | .nop, _, _, _, _, hp => by simp [pathOf] at hp
  | .bin _ _ _, _, _, _, _, hp => by simp [pathOf] at hp
  | .un _ _, _, _, _, _, hp => by simp [pathOf] at hp
  | .cmp _ _ _, _, _, _, _, hp => by simp [pathOf] at hp
  | .chain _ _ _ _ _, _, _, _, _, hp => by simp [pathOf] at hp
  | .and_ _ _, _, _, _, _, hp => by simp [pathOf] at hp
  | .or_ _ _, _, _, _, _, hp => by simp [pathOf] at hp
  | .not_ _, _, _, _, _, hp => by simp [pathOf] at hp
  | .ife _ _ _, _, _, _, _, hp => by simp [pathOf] at hp
  | .tup _, _, _, _, _, hp => by simp [pathOf] at hp
  | .lst _, _, _, _, _, hp => by simp [pathOf] at hp
  | .dk0, _, _, _, _, hp => by simp [pathOf] at hp
  | .dt0, _, _, _, _, hp => by simp [pathOf] at hp
  | .slc _ _ _, _, _, _, _, hp => by simp [pathOf] at hp
  | .isi _ _, _, _, _, _, hp => by simp [pathOf] at hp
  | .call _ _, _, _, _, _, hp => by simp [pathOf] at hp
  | .meth _ _ _ _, _, _, _, _, hp => by simp [pathOf] at hp
  | .new _ _ _, _, _, _, _, hp => by simp [pathOf] at hp
  | .bi _ _, _, _, _, _, hp => by simp [pathOf] at hp
  | .bm _ _ _, _, _, _, _, hp => by simp [pathOf] at hp
  | .mut _ _ _, _, _, _, _, hp => by simp [pathOf] at hp
  | .comp _ _ _ _ _ _, _, _, _, _, hp => by simp [pathOf] at hp
/-- an argument: a value, or a place -/
theorem sa_of {cf : Nat → List D → FR} {n : Nm} (hn : n = w.n) (E : EnvOk w cf L X.prog X.w X.mg X.base) (h : XC w X N sc W L) {ex : Ex} {e : Expr} (hc : ckE n N sc ex e = true) (he : PE X e (tE w W (evE w.n.sg cf ex))) :
    PE X e (tAr w W fun S => argOf w.n.sg S ex (evE w.n.sg cf ex S)) := by
  have plain : ∀ σ H Q, (∃ F S T A, Rl w F H S σ T A ∧ placeOf w.n.sg S ex = none ∧ EV w W ArV F σ T A H Q (argOf w.n.sg S ex (evE w.n.sg cf ex S))) → tE w W (evE w.n.sg cf ex) σ H Q := fun σ H Q ⟨F, S, T, A, r, hp, q⟩ => by
    refine ⟨F, S, T, A, r, ?_⟩
    simp only [argOf, hp] at q
    refine q.first fun d S' v U H' A' e1 hv r1 s1 q1 => ?_
    have hU : U = [(d, v)] := hv
    subst hU
    exact q1 v _ H' A' .val r1 s1
  cases hp : pathOf ex with
  | none => exact PE.weak he fun σ H Q ⟨F, S, T, A, r, q⟩ => plain σ H Q ⟨F, S, T, A, r, by unfold placeOf; rw [hp], q⟩
  | some ip =>
    obtain ⟨i, p⟩ := ip
    refine PE.weak (PE.or he (path_pe hn E h ex e i p hc hp)) fun σ H Q ⟨F, S, T, A, r, q⟩ => ?_
    cases hpl : placeOf w.n.sg S ex with
    | none => exact .inl (plain σ H Q ⟨F, S, T, A, r, hpl, q⟩)
    | some a =>
      refine .inr ?_
      simp only [argOf, hpl] at q
      unfold placeOf at hpl
      rw [hp] at hpl
      simp only at hpl
      split at hpl
      · rename_i d ed
        split at hpl
        · rename_i hl
          cases hpl
          refine ⟨F, S, T, A, d, r, ed, fun v pv m => ?_⟩
          obtain ⟨B, m⟩ := m
          obtain ⟨v0, e0, fv⟩ := pv
          exact q v [] H A (.pl ⟨v0, e0, fv.fv (m.lin_nt hl)⟩) r .refl
        · cases hpl
      · cases hpl
end
end Q
end
section
set_option Elab.async false
set_option linter.all false
set_option maxRecDepth 100000
namespace Q
open PySem PySem.Spec PyProof.Rows L2
def BV (_ : Wd) (_ : Hp) (_ : L2.St) (d : Bool) (v : Bool) (U : List (D × V)) : Prop := v = d ∧ U = []
def asT (r : R D) : R Bool := r.bind fun d S => match d with
  | .bl b => .ok b S
  | _ => .no
abbrev tT (w : Wd) (W : WX) (ev : Sl → R D) : TT := tG w W BV fun S => asT (ev S)
theorem zip_all {w : Wd} {F : List Addr} {H : Hp} : ∀ {ds : List D} {vs : List V} {A : List Addr}, ds.length = vs.length → Ml w F H (ds.zip vs) A → allPure ds = true → Prs w.K F H ds vs
  | [], [], _, _, _, _ => .nil
  | [], _ :: _, _, h, _, _ => by simp at h
  | _ :: _, [], _, h, _, _ => by simp at h
  | d :: ds, v :: vs, _, h, m, p => by
    simp only [allPure, Bool.and_eq_true] at p
    cases m with
    | cons m1 m2 => exact .cons (m1.ofPure p.1).1 (zip_all (by simpa using h) m2 p.2)
section
variable {w : Wd} {F : List Addr} {S : Sl} {σ : L2.St} {T U : List (D × V)} {A : List Addr} {H : Hp}
theorem Rl.tops (r : Rl w F H S σ (U ++ T) A) : ∃ B, Ml w F H U B := by
  obtain ⟨L, l, o⟩ := r
  obtain ⟨A1, R1, e, m1, m2⟩ := o.ml.split
  obtain ⟨A2, R2, e2, m3, m4⟩ := m2.split
  exact ⟨A2, m3⟩
end
section
variable {w : Wd} {X : Cx} {N : List Str} {sc : Scope} {W : WX} {L : Nat} {cf : Nat → List D → FR} {n : Nm}
/-- a name -/
theorem s_var (h : XC w X N sc W L) {i : Nat} {e : Expr} (hc : ckE n N sc (.var i) e = true) : PE X e (tE w W (evE w.n.sg cf (.var i))) := by
  unfold ckE at hc
  split at hc
  · rename_i x pos
    simp only [Bool.and_eq_true, decide_eq_true_eq] at hc
    obtain ⟨a, b, c⟩ := vis_of h hc.2
    refine PE.weak (pe_var (i := i) (x := x) (by rw [h.hN]; exact hc.1) a b c) fun σ H Q q => ?_
    obtain ⟨F, S, T, A, r, q⟩ := q
    simp only [evE] at q
    split at q
    · rename_i d e0
      obtain ⟨v, A', ev, r', pp⟩ := r.takeSlot e0
      refine ⟨v, ev, ?_⟩
      split at q
      · rename_i hp
        obtain ⟨B, m, _⟩ := r'.top
        obtain ⟨A2, r2, s2⟩ := r.pushP (m.ofPure hp).1
        exact q v _ H A2 rfl r2 s2
      · split at q
        · exact q v _ H A' rfl r' (step_perm pp)
        · exact q.elim
    · exact q.elim
  · cases hc
theorem s_cst {d : D} {e : Expr} (hc : ckE n N sc (.cst d) e = true) : PE X e (tE w W (evE w.n.sg cf (.cst d))) := by
  have fin : ∀ v, (∀ F H, Pr w.K F H d v) → PE X e (tC v) → PE X e (tE w W (evE w.n.sg cf (.cst d))) := fun v p hp => PE.weak hp fun σ H Q ⟨F, S, T, A, r, q⟩ => by
    obtain ⟨A2, r2, s2⟩ := r.pushP (p F H)
    exact q v _ H A2 rfl r2 s2
  unfold ckE at hc
  split at hc
  · rename_i i _ _ j
    obtain rfl : i = j := by simpa using hc
    exact fin _ (fun F H => .int i) pe_int
  · rename_i i _ _ j
    obtain rfl : i = j := by simpa using hc
    exact fin _ (fun F H => .str i) pe_str
  · rename_i i _ _ j
    obtain rfl : i = j := by simpa using hc
    exact fin _ (fun F H => .bl i) pe_bl
  · exact fin _ (fun F H => .non) pe_non
  · cases hc
theorem s_glb (hn : n = w.n) (E : EnvOk w cf L X.prog X.w X.mg X.base) (h : XC w X N sc W L) {g : Nat} {e : Expr} (hc : ckE n N sc (.glb g) e = true) : PE X e (tE w W (evE w.n.sg cf (.glb g))) := by
  unfold ckE at hc
  split at hc
  · rename_i x pos
    simp only [Bool.and_eq_true, decide_eq_true_eq] at hc
    obtain ⟨rfl, hg⟩ := hc
    obtain ⟨a, b, c⟩ := gl_of h hg
    cases eg : w.n.sg.glob g with
    | none =>
      refine ⟨fun pins s σ H Q I q => ?_⟩
      obtain ⟨F, S, T, A, r, q⟩ := q
      simp only [evE, eg, R.of] at q
      exact q.elim
    | some d =>
      obtain ⟨u, v, hm, rv, p⟩ := E.glob g d eg
      refine PE.weak (pe_glob a (by rw [hn]; exact hm) rv b) fun σ H Q ⟨F, S, T, A, r, q⟩ => ?_
      simp only [evE, eg, R.of] at q
      obtain ⟨A2, r2, s2⟩ := r.pushP (p F H)
      exact q v _ H A2 rfl r2 s2
  · cases hc
theorem plainIx {b : Expr} (h : notSl b = true) : PlainIx b := by
  intro o i
  cases b <;> first | rfl | simp [notSl] at h
theorem s_bin (hn : n = w.n) (h : XC w X N sc W L) {o : BOp} {a b : Ex} {e : Expr} (hc : ckE n N sc (.bin o a b) e = true)
    (ha : ∀ l, ckE n N sc a l = true → PE X l (tAr w W fun S => argOf w.n.sg S a (evE w.n.sg cf a S))) (hb : ∀ l, ckE n N sc b l = true → PE X l (tAr w W fun S => argOf w.n.sg S b (evE w.n.sg cf b S))) :
    PE X e (tE w W (evE w.n.sg cf (.bin o a b))) := by
  unfold ckE at hc
  split at hc
  · rename_i l r pos
    simp only [Bool.and_eq_true] at hc
    have pl := plainIx hc.1.1
    refine PE.weak (PE.or (pe_ix ix_seq (ha l hc.1.2) (hb r hc.2) pl) (pe_dget (by have := units_of h; omega) (ha l hc.1.2) (hb r hc.2) pl)) fun σ H Q ⟨F, S, T, A, rl, q⟩ => ?_
    simp only [evE] at q
    -- a dict, or not
    by_cases hd : ∃ x S1 y S2 d e o, argOf w.n.sg S a (evE w.n.sg cf a S) = .ok x S1 ∧ argOf w.n.sg S1 b (evE w.n.sg cf b S1) = .ok y S2 ∧ argD w.n.sg S2 x = some d ∧ argD w.n.sg S2 y = some e ∧ dget d e = some o
    · obtain ⟨x, S1, y, S2, d, e, oo, e1, e2, e3, e4, e5⟩ := hd
      refine .inr (two (r := rDGet) rfl rl q fun x' S1' y' S2' d' e' z g1 g2 g3 g4 g5 => ?_)
      rw [e1] at g1; cases g1
      rw [e2] at g2; cases g2
      rw [e3] at g3; cases g3
      rw [e4] at g4; cases g4
      exact r_dget g5 e5
    · refine .inl ?_
      rw [h.hK]
      refine two rfl rl q fun x S1 y S2 d e z g1 g2 g3 g4 g5 => r_ix g5 ?_
      cases q5 : dget d e with
      | none => rfl
      | some oo => exact absurd ⟨x, S1, y, S2, d, e, oo, g1, g2, g3, g4, q5⟩ hd
  · rename_i l p r pos
    simp only [Bool.and_eq_true, decide_eq_true_eq] at hc
    obtain ⟨⟨⟨hx, rfl⟩, h1⟩, h2⟩ := hc
    have ho : o ≠ .ix := by intro z; subst z; simp at hx
    refine PE.weak (pe_op (op_of o) (ha l h1) (hb r h2)) fun σ H Q ⟨F, S, T, A, rl, q⟩ => ?_
    simp only [evE] at q
    rw [h.hK]
    exact two rfl rl q fun x S1 y S2 d e z _ _ _ _ g5 => r_of ho g5
  · cases hc
theorem s_un {o : UOp} {a : Ex} {e : Expr} (hc : ckE n N sc (.un o a) e = true) (ha : ∀ l, ckE n N sc a l = true → PE X l (tE w W (evE w.n.sg cf a))) : PE X e (tE w W (evE w.n.sg cf (.un o a))) := by
  cases o
  unfold ckE at hc
  split at hc
  · rename_i l pos
    refine PE.weak (pe_un un_neg (ha l hc)) fun σ H Q ⟨F, S, T, A, rl, q⟩ => ?_
    simp only [evE] at q
    refine ⟨F, S, T, A, rl, q.first fun d S1 v U H1 A1 e1 hv r1 s1 q1 => ?_⟩
    have hU : U = [(d, v)] := hv
    subst hU
    cases ez : opU .neg d with
    | none => simp only [ez, R.of] at q1; exact q1.elim
    | some z =>
      simp only [ez, R.of] at q1
      obtain ⟨B, m, _⟩ := Rl.top r1
      cases d <;> simp only [opU] at ez <;> try (cases ez; done)
      cases ez
      exact ⟨_, Mx.int ⟨B, m⟩, q1.pr (U := [(_, v)]) r1 s1 (.int _)⟩
  · cases hc
theorem notMark {b : Expr} (h : notSet b = true) (op : CmpOp) : behindInMarks op b = false := by
  cases b <;> first | rfl | simp [notSet] at h
theorem cmp_two (h : XC w X N sc W L) {o : COp} {a b : Ex} {σ : L2.St} {H : Hp} {Q : VK} (q : tE w W (evE w.n.sg cf (.cmp o a b)) σ H Q) :
    tOp (rcOf w.K o) (tAr w W fun S => argOf w.n.sg S a (evE w.n.sg cf a S)) (tAr w W fun S => argOf w.n.sg S b (evE w.n.sg cf b S)) σ H Q := by
  obtain ⟨F, S, T, A, rl, q⟩ := q
  simp only [evE] at q
  refine two (f := fun d e => (opC o d e).map .bl) rfl rl q fun x S1 y S2 d e z _ _ _ _ g5 => ?_
  obtain ⟨b, eb, ez⟩ := Option.map_eq_some_iff.mp g5
  subst ez
  exact rc_of eb
theorem s_cmp (hn : n = w.n) (h : XC w X N sc W L) {o : COp} {a b : Ex} {e : Expr} (hc : ckE n N sc (.cmp o a b) e = true)
    (ha : ∀ l, ckE n N sc a l = true → PE X l (tAr w W fun S => argOf w.n.sg S a (evE w.n.sg cf a S))) (hb : ∀ l, ckE n N sc b l = true → PE X l (tAr w W fun S => argOf w.n.sg S b (evE w.n.sg cf b S))) :
    PE X e (tE w W (evE w.n.sg cf (.cmp o a b))) ∧ PT X e (tT w W (evE w.n.sg cf (.cmp o a b))) := by
  unfold ckE at hc
  split at hc
  · rename_i l p r pos
    simp only [Bool.and_eq_true, decide_eq_true_eq] at hc
    obtain ⟨⟨⟨rfl, hs⟩, h1⟩, h2⟩ := hc
    refine ⟨PE.weak (pe_cmpR (cp_of (units_of h) o) (ha l h1) (hb r h2) (notMark hs _)) fun σ H Q q => ?_, PT.weak (pt_cmpR (cp_of (units_of h) o) (ha l h1) (hb r h2) (notMark hs _)) fun σ H Q q => ?_⟩
    · rw [h.hK]; exact cmp_two h q
    · rw [h.hK]
      refine cmp_two h ?_
      obtain ⟨F, S, T, A, rl, q⟩ := q
      refine ⟨F, S, T, A, rl, EV.first (k := fun d S => match d with | .bl b => R.ok b S | _ => .no) (show EV w W BV F σ T A H Q ((evE w.n.sg cf (.cmp o a b) S).bind _) from q) fun d S1 v U H1 A1 e1 hv r1 s1 q1 => ?_⟩
      have hU : U = [(d, v)] := hv
      subst hU
      cases d <;> (try simp only at q1) <;> try exact q1.elim
      rename_i b
      obtain ⟨B, m, _⟩ := Rl.top r1
      obtain ⟨A2, r2, s2⟩ := r1.tdrop1
      exact ⟨b, Mx.bl ⟨B, m⟩, q1 b [] H1 A2 ⟨rfl, rfl⟩ r2 (s1.trans s2)⟩
  · cases hc
/-- an expression whose value is a truth, as a test -/
theorem t_val {ev : Sl → R D} {e : Expr} (he : PE X e (tE w W ev)) (hp : ∀ whole, isTrue e X.env whole = (do let v ← whole; standAt e.pos; holding [v] (truthy v))) : PT X e (tT w W ev) := by
  refine PT.weak (pt_val he hp) fun σ H Q ⟨F, S, T, A, rl, q⟩ => ?_
  refine ⟨F, S, T, A, rl, EV.first (k := fun d S => match d with | .bl b => R.ok b S | _ => .no) (show EV w W BV F σ T A H Q ((ev S).bind _) from q) fun d S1 v U H1 A1 e1 hv r1 s1 q1 => ?_⟩
  have hU : U = [(d, v)] := hv
  subst hU
  cases d <;> (try simp only at q1) <;> try exact q1.elim
  rename_i b
  obtain ⟨B, m, _⟩ := Rl.top r1
  obtain ⟨A2, r2, s2⟩ := r1.tdrop1
  exact ⟨b, Mx.bl ⟨B, m⟩, q1 b [] H1 A2 ⟨rfl, rfl⟩ r2 (s1.trans s2)⟩
theorem chain_t {o o2 : COp} {a b c : Ex} {σ : L2.St} {H : Hp} {Q : VK} (q : tE w W (evE w.n.sg cf (.chain o o2 a b c)) σ H Q) :
    tChain (rcOf w.K o) (rcOf w.K o2) (tE w W (evE w.n.sg cf a)) (tE w W (evE w.n.sg cf b)) (tE w W (evE w.n.sg cf c)) σ H Q := by
  obtain ⟨F, S, T, A, rl, q⟩ := q
  simp only [evE] at q
  refine ⟨F, S, T, A, rl, q.first fun x S1 u U H1 A1 e1 hu r1 s1 q1 => ?_⟩
  refine ⟨F, S1, U ++ T, A1, r1, EV.next s1 q1 fun y S2 v U2 H2 A2 e2 hv r2 s2 s2' q2 => ?_⟩
  have hU : U = [(x, u)] := hu
  have hU2 : U2 = [(y, v)] := hv
  subst hU; subst hU2
  cases hp : (x.pure && y.pure) with
  | false => simp only [hp] at q2; exact q2.elim
  | true =>
    cases ho : opC o x y with
    | none => simp only [hp, ho] at q2; exact q2.elim
    | some k =>
      rw [Bool.and_eq_true] at hp
      obtain ⟨Bx, mx, _⟩ := r2.mem (x := (x, u)) (by simp)
      obtain ⟨By, my, _⟩ := r2.mem (x := (y, v)) (by simp)
      refine rc_of ho F H2 u v ⟨Bx, mx⟩ ⟨By, my⟩ _ fun z H3 B e3 n3 nd3 m3 => ⟨k, Mx.bl ⟨B, m3⟩, ?_⟩
      obtain ⟨A3, r3, s3⟩ := r2.push e3 n3 nd3 m3
      cases k with
      | false =>
        simp only [hp.1, hp.2, ho, Bool.and_self] at q2
        rw [if_neg (by simp)]
        exact q2.pr (U := [(.bl false, z), (y, v), (x, u)]) r3 (s2.trans s3) (.bl false)
      | true =>
        simp only [hp.1, hp.2, ho, Bool.and_self] at q2
        rw [if_pos rfl]
        refine ⟨F, S2, [(.bl true, z), (y, v), (x, u)] ++ T, A3, r3, EV.next (s2.trans s3) q2 fun t S4 v4 U4 H4 A4 e4 hv4 r4 s4 s4' q4 => ?_⟩
        have hU4 : U4 = [(t, v4)] := hv4
        subst hU4
        split at q4
        · rename_i hpt
          cases ho2 : opC o2 y t with
          | none => simp only [ho2, R.of, Option.map] at q4; exact q4.elim
          | some k2 =>
            simp only [ho2, R.of, Option.map] at q4
            obtain ⟨By4, my4, _⟩ := r4.mem (x := (y, v)) (by simp)
            obtain ⟨Bt4, mt4, _⟩ := r4.mem (x := (t, v4)) (by simp)
            refine rc_of ho2 F H4 v v4 ⟨By4, my4⟩ ⟨Bt4, mt4⟩ _ fun z5 H5 B5 e5 n5 nd5 m5 => ?_
            exact EV.fresh (U := [(t, v4), (.bl true, z), (y, v), (x, u)]) q4 r4 s4 e5 n5 nd5 m5
        · exact q4.elim
theorem s_chain (h : XC w X N sc W L) {o o2 : COp} {a b c : Ex} {e : Expr} (hc : ckE n N sc (.chain o o2 a b c) e = true) (ha : ∀ l, ckE n N sc a l = true → PE X l (tE w W (evE w.n.sg cf a)))
    (hb : ∀ l, ckE n N sc b l = true → PE X l (tE w W (evE w.n.sg cf b))) (hcc : ∀ l, ckE n N sc c l = true → PE X l (tE w W (evE w.n.sg cf c))) :
    PE X e (tE w W (evE w.n.sg cf (.chain o o2 a b c))) ∧ PT X e (tT w W (evE w.n.sg cf (.chain o o2 a b c))) := by
  unfold ckE at hc
  split at hc
  · rename_i l p p2 r t pos
    simp only [Bool.and_eq_true, decide_eq_true_eq] at hc
    obtain ⟨⟨⟨⟨⟨rfl, rfl⟩, hs⟩, h1⟩, h2⟩, h3⟩ := hc
    have hm : lastMarks [cpOf o, cpOf o2] [r, t] = false := notMark hs _
    refine ⟨PE.weak (pe_chain (cp_of (units_of h) o) (cp_of (units_of h) o2) (ha l h1) (hb r h2) (hcc t h3) hm) fun σ H Q q => ?_, PT.weak (pt_chain (cp_of (units_of h) o) (cp_of (units_of h) o2) (ha l h1) (hb r h2) (hcc t h3) hm) fun σ H Q q => ?_⟩
    · rw [h.hK]; exact chain_t q
    · rw [h.hK]
      refine chain_t ?_
      obtain ⟨F, S, T, A, rl, q⟩ := q
      refine ⟨F, S, T, A, rl, EV.first (k := fun d S => match d with | .bl b => R.ok b S | _ => .no) (show EV w W BV F σ T A H Q ((evE w.n.sg cf (.chain o o2 a b c) S).bind _) from q) fun d S1 v U H1 A1 e1 hv r1 s1 q1 => ?_⟩
      have hU : U = [(d, v)] := hv
      subst hU
      cases d <;> (try simp only at q1) <;> try exact q1.elim
      rename_i b
      obtain ⟨B, m, _⟩ := Rl.top r1
      obtain ⟨A2, r2, s2⟩ := r1.tdrop1
      exact ⟨b, Mx.bl ⟨B, m⟩, q1 b [] H1 A2 ⟨rfl, rfl⟩ r2 (s1.trans s2)⟩
  · cases hc
/-- and, or, not as values -/
theorem and_v {eva evb : Sl → R D} {a b : Expr} {rest : List Expr} {pos : Pos} (ha : PE X a (tE w W eva)) (hb : PE X (.BoolOp .And (b :: rest) pos) (tE w W evb)) :
    PE X (.BoolOp .And (a :: b :: rest) pos) (tE w W fun S => (eva S).bind fun d S1 => match d with
      | .bl true => evb S1
      | .bl false => .ok (.bl false) S1
      | _ => .no) := PE.weak (pe_and ha hb) fun σ H Q ⟨F, S, T, A, rl, q⟩ => by
  refine ⟨F, S, T, A, rl, q.first fun d S1 v U H1 A1 e1 hv r1 s1 q1 => ?_⟩
  have hU : U = [(d, v)] := hv
  subst hU
  obtain ⟨B, m, _⟩ := Rl.top r1
  obtain ⟨A2, r2, s2⟩ := r1.tdrop1
  cases d <;> (try simp only at q1) <;> try exact q1.elim
  rename_i b
  refine ⟨b, Mx.bl ⟨B, m⟩, ?_⟩
  cases b with
  | false =>
    rw [if_neg (by simp)]
    exact q1.pr (U := []) r2 (s1.trans s2) (.bl false)
  | true =>
    rw [if_pos rfl]
    refine ⟨F, S1, T, A2, r2, ?_⟩
    cases eb : evb S1 with
    | ok d S' => simp only [eb] at q1; exact fun v U H' A' a1 a2 a3 => q1 v U H' A' a1 a2 ((s1.trans s2).trans a3)
    | er c S' => simp only [eb] at q1; exact fun C H' A' a1 a2 a3 => q1 C H' A' a1 a2 ((s1.trans s2).trans a3)
    | no => simp only [eb] at q1; exact q1
theorem or_v {eva evb : Sl → R D} {a b : Expr} {rest : List Expr} {pos : Pos} (ha : PE X a (tE w W eva)) (hb : PE X (.BoolOp .Or (b :: rest) pos) (tE w W evb)) :
    PE X (.BoolOp .Or (a :: b :: rest) pos) (tE w W fun S => (eva S).bind fun d S1 => match d with
      | .bl true => .ok (.bl true) S1
      | .bl false => evb S1
      | _ => .no) := PE.weak (pe_or ha hb) fun σ H Q ⟨F, S, T, A, rl, q⟩ => by
  refine ⟨F, S, T, A, rl, q.first fun d S1 v U H1 A1 e1 hv r1 s1 q1 => ?_⟩
  have hU : U = [(d, v)] := hv
  subst hU
  obtain ⟨B, m, _⟩ := Rl.top r1
  obtain ⟨A2, r2, s2⟩ := r1.tdrop1
  cases d <;> (try simp only at q1) <;> try exact q1.elim
  rename_i b
  refine ⟨b, Mx.bl ⟨B, m⟩, ?_⟩
  cases b with
  | true =>
    rw [if_pos rfl]
    exact q1.pr (U := []) r2 (s1.trans s2) (.bl true)
  | false =>
    rw [if_neg (by simp)]
    refine ⟨F, S1, T, A2, r2, ?_⟩
    cases eb : evb S1 with
    | ok d S' => simp only [eb] at q1; exact fun v U H' A' a1 a2 a3 => q1 v U H' A' a1 a2 ((s1.trans s2).trans a3)
    | er c S' => simp only [eb] at q1; exact fun C H' A' a1 a2 a3 => q1 C H' A' a1 a2 ((s1.trans s2).trans a3)
    | no => simp only [eb] at q1; exact q1
theorem not_v {eva : Sl → R D} {a : Expr} {pos : Pos} (ha : PE X a (tE w W eva)) :
    PE X (.UnaryOp .Not a pos) (tE w W fun S => (eva S).bind fun d S1 => match d with
      | .bl b => .ok (.bl (!b)) S1
      | _ => .no) := PE.weak (pe_not ha) fun σ H Q ⟨F, S, T, A, rl, q⟩ => by
  refine ⟨F, S, T, A, rl, q.first fun d S1 v U H1 A1 e1 hv r1 s1 q1 => ?_⟩
  have hU : U = [(d, v)] := hv
  subst hU
  obtain ⟨B, m, _⟩ := Rl.top r1
  obtain ⟨A2, r2, s2⟩ := r1.tdrop1
  cases d <;> (try simp only at q1) <;> try exact q1.elim
  rename_i b
  exact ⟨b, Mx.bl ⟨B, m⟩, q1.pr (U := []) r2 (s1.trans s2) (.bl (!b))⟩
/-- a part of an answer, later -/
theorem EV.late {α β : Type} {Vr : Wd → Hp → L2.St → α → β → List (D × V) → Prop} {F : List Addr} {σ : L2.St} {T : List (D × V)} {A A' : List Addr} {H H' : Hp} {Q : β → Hp → Prop} {r : R α} (s : Step A H A' H') (q : EV w W Vr F σ T A H Q r) : EV w W Vr F σ T A' H' Q r := by
  cases r with
  | ok d S' => exact fun v U H' A' a1 a2 a3 => q v U H' A' a1 a2 (s.trans a3)
  | er c S' => exact fun C H' A' a1 a2 a3 => q C H' A' a1 a2 (s.trans a3)
  | no => exact q
/-- and, or, not as tests -/
theorem and_t {eva evb : Sl → R D} {a b : Expr} {rest : List Expr} {pos : Pos} (ha : PT X a (tT w W eva)) (hb : PT X (.BoolOp .And (b :: rest) pos) (tT w W evb)) :
    PT X (.BoolOp .And (a :: b :: rest) pos) (tT w W fun S => (eva S).bind fun d S1 => match d with
      | .bl true => evb S1
      | .bl false => .ok (.bl false) S1
      | _ => .no) := PT.weak (PW.pt (pw_and ha ⟨fun wh pins s σ H Q I q => hb.run pins s σ H Q I q⟩)) fun σ H Q ⟨F, S, T, A, rl, q⟩ => by
  refine ⟨F, S, T, A, rl, ?_⟩
  cases e : eva S with
  | no => simp only [e, asT, R.bind] at q; exact q.elim
  | er c S' => simp only [e, asT, R.bind] at q ⊢; exact q
  | ok d S1 =>
    cases d <;> (try simp only [e, asT, R.bind] at q) <;> try exact q.elim
    rename_i b
    simp only [e, asT, R.bind]
    intro v U H1 A1 hv r1 s1
    obtain ⟨rfl, rfl⟩ := hv
    cases v with
    | false => rw [if_neg (by simp)]; exact q false [] H1 A1 ⟨rfl, rfl⟩ r1 s1
    | true => rw [if_pos rfl]; exact ⟨F, S1, T, A1, r1, EV.late s1 q⟩
theorem or_t {eva evb : Sl → R D} {a b : Expr} {rest : List Expr} {pos : Pos} (ha : PT X a (tT w W eva)) (hb : PT X (.BoolOp .Or (b :: rest) pos) (tT w W evb)) :
    PT X (.BoolOp .Or (a :: b :: rest) pos) (tT w W fun S => (eva S).bind fun d S1 => match d with
      | .bl true => .ok (.bl true) S1
      | .bl false => evb S1
      | _ => .no) := PT.weak (PW.pt (pw_or ha ⟨fun wh pins s σ H Q I q => hb.run pins s σ H Q I q⟩)) fun σ H Q ⟨F, S, T, A, rl, q⟩ => by
  refine ⟨F, S, T, A, rl, ?_⟩
  cases e : eva S with
  | no => simp only [e, asT, R.bind] at q; exact q.elim
  | er c S' => simp only [e, asT, R.bind] at q ⊢; exact q
  | ok d S1 =>
    cases d <;> (try simp only [e, asT, R.bind] at q) <;> try exact q.elim
    rename_i b
    simp only [e, asT, R.bind]
    intro v U H1 A1 hv r1 s1
    obtain ⟨rfl, rfl⟩ := hv
    cases v with
    | true => rw [if_pos rfl]; exact q true [] H1 A1 ⟨rfl, rfl⟩ r1 s1
    | false => rw [if_neg (by simp)]; exact ⟨F, S1, T, A1, r1, EV.late s1 q⟩
theorem not_t {eva : Sl → R D} {a : Expr} {pos : Pos} (ha : PT X a (tT w W eva)) :
    PT X (.UnaryOp .Not a pos) (tT w W fun S => (eva S).bind fun d S1 => match d with
      | .bl b => .ok (.bl (!b)) S1
      | _ => .no) := PT.weak (pt_not ha) fun σ H Q ⟨F, S, T, A, rl, q⟩ => by
  refine ⟨F, S, T, A, rl, ?_⟩
  cases e : eva S with
  | no => simp only [e, asT, R.bind] at q; exact q.elim
  | er c S' => simp only [e, asT, R.bind] at q ⊢; exact q
  | ok d S1 =>
    cases d <;> (try simp only [e, asT, R.bind] at q) <;> try exact q.elim
    rename_i b
    simp only [e, asT, R.bind]
    intro v U H1 A1 hv r1 s1
    obtain ⟨rfl, rfl⟩ := hv
    exact q (!v) [] H1 A1 ⟨rfl, rfl⟩ r1 s1
/-- a if c else b -/
theorem ife_v {evc eva evb : Sl → R D} {c a b : Expr} {pos : Pos} (hc : PT X c (tT w W evc)) (ha : PE X a (tE w W eva)) (hb : PE X b (tE w W evb)) :
    PE X (.IfExp c a b pos) (tE w W fun S => (evc S).bind fun d S1 => match d with
      | .bl true => eva S1
      | .bl false => evb S1
      | _ => .no) := PE.weak (pe_ifExp hc ha hb) fun σ H Q ⟨F, S, T, A, rl, q⟩ => by
  refine ⟨F, S, T, A, rl, ?_⟩
  cases e : evc S with
  | no => simp only [e, asT, R.bind] at q; exact q.elim
  | er c S' => simp only [e, asT, R.bind] at q ⊢; exact q
  | ok d S1 =>
    cases d <;> (try simp only [e, asT, R.bind] at q) <;> try exact q.elim
    rename_i b
    simp only [e, asT, R.bind]
    intro v U H1 A1 hv r1 s1
    obtain ⟨rfl, rfl⟩ := hv
    cases v with
    | true => rw [if_pos rfl]; exact ⟨F, S1, T, A1, r1, EV.late s1 q⟩
    | false => rw [if_neg (by simp)]; exact ⟨F, S1, T, A1, r1, EV.late s1 q⟩
/-- displays -/
theorem s_tup {evs : Sl → R (List D)} {l : List Expr} {k : Nat} {pos : Pos} (hl : PA X l (tXs w W evs)) :
    PE X (.Tuple l k pos) (tE w W fun S => (evs S).bind fun ds S1 => if allPure ds && decide (ds.length ≤ lim) then .ok (.tup ds) S1 else .no) := PE.weak (pe_tup hl) fun σ H Q ⟨F, S, T, A, rl, q⟩ => by
  refine ⟨F, S, T, A, rl, q.first fun ds S1 vs U H1 A1 e1 hv r1 s1 q1 => ?_⟩
  obtain ⟨hle, rfl⟩ := hv
  split at q1
  · rename_i hp
    simp only [Bool.and_eq_true, decide_eq_true_eq] at hp
    obtain ⟨B, m⟩ := r1.tops
    have pr := zip_all hle m hp.1
    refine ⟨by rw [← hle]; exact lim_le hp.2, fun p np => ?_⟩
    obtain ⟨a, b, c, m2⟩ := mk_tup (w := w) (F := F) np pr
    exact q1.fresh r1 s1 a b c m2
  · exact q1.elim
theorem s_lst {evs : Sl → R (List D)} {l : List Expr} {pos : Pos} (hl : PA X l (tXs w W evs)) :
    PE X (.List l pos) (tE w W fun S => (evs S).bind fun ds S1 => if allPure ds && decide (ds.length ≤ lim) then .ok (.lst ds) S1 else .no) := PE.weak (pe_lst hl) fun σ H Q ⟨F, S, T, A, rl, q⟩ => by
  refine ⟨F, S, T, A, rl, q.first fun ds S1 vs U H1 A1 e1 hv r1 s1 q1 => ?_⟩
  obtain ⟨hle, rfl⟩ := hv
  split at q1
  · rename_i hp
    simp only [Bool.and_eq_true, decide_eq_true_eq] at hp
    obtain ⟨B, m⟩ := r1.tops
    have pr := zip_all hle m hp.1
    refine ⟨by rw [← hle]; exact lim_le hp.2, fun p np => ?_⟩
    obtain ⟨a, b, c, m2⟩ := mk_lst (w := w) (F := F) np pr
    exact q1.fresh r1 s1 a b c m2
  · exact q1.elim
theorem s_dk0 {pos : Pos} : PE X (.Dict [] [] pos) (tE w W fun S => .ok (.dk []) S) := PE.weak pe_dnewK fun σ H Q ⟨F, S, T, A, rl, q⟩ p np =>
  q.fresh (U := []) rl .refl (same_ext np) (B := [p]) (fun b hb => by rw [List.mem_singleton.mp hb]; exact np) (by simp) (.dk upd_same rfl .nil)
theorem s_dt0 {pos : Pos} : PE X (.Dict [] [] pos) (tE w W fun S => .ok (.dt []) S) := PE.weak pe_dnewT fun σ H Q ⟨F, S, T, A, rl, q⟩ p np =>
  q.fresh (U := []) rl .refl (same_ext np) (B := [p]) (fun b hb => by rw [List.mem_singleton.mp hb]; exact np) (by simp) (.dt upd_same rfl .nil)
theorem s_att (hn : n = w.n) (E : EnvOk w cf L X.prog X.w X.mg X.base) (h : XC w X N sc W L) {a : Ex} {f : Nat} {e : Expr} (hc : ckE n N sc (.att a f) e = true) : PE X e (tE w W (evE w.n.sg cf (.att a f))) := by
  cases hp : pathOf (.att a f) with
  | none =>
    refine ⟨fun pins s σ H Q I q => ?_⟩
    obtain ⟨F, S, T, A, r, q⟩ := q
    simp only [evE, hp] at q
    exact q.elim
  | some ip =>
    obtain ⟨i, p⟩ := ip
    refine PE.weak (path_pe hn E h _ e i p hc hp) fun σ H Q ⟨F, S, T, A, r, q⟩ => ?_
    simp only [evE, hp] at q
    split at q
    · rename_i d ed
      split at q
      · rename_i hpu
        refine ⟨F, S, T, A, d, r, ed, fun v _ m => ?_⟩
        obtain ⟨B, m⟩ := m
        exact q.pr (U := []) r .refl (m.ofPure hpu).1
      · exact q.elim
    · exact q.elim
end
end Q
end
section
set_option Elab.async false
set_option linter.all false
set_option maxRecDepth 100000
namespace Q
open PySem PySem.Spec PyProof.Rows L2
/-! calls -/
theorem star_cons {e : Expr} {es : List Expr} {env : Env} (h : notStar e = true) : starEach (e :: es) env = (false, eval e env) :: starEach es env := by
  cases e <;> first | rfl | simp [notStar] at h
def allNS : List Expr → Bool
  | [] => true
  | e :: es => notStar e && allNS es
theorem star_none {env : Env} {pos : Pos} : ∀ {es : List Expr}, allNS es = true → (backTo pos (starEach es env)).any (·.1) = false
  | [], _ => rfl
  | e :: es, h => by
    simp only [allNS, Bool.and_eq_true] at h
    rw [star_cons h.1]
    have ih := star_none (env := env) (pos := pos) h.2
    show ((false || (backTo pos (starEach es env)).any (·.1))) = false
    rw [ih]
    rfl
theorem star_all {env : Env} {pos : Pos} : ∀ {es : List Expr}, allNS es = true → (backTo pos (starEach es env)).all (fun x => !x.1) = true
  | [], _ => rfl
  | e :: es, h => by
    simp only [allNS, Bool.and_eq_true] at h
    rw [star_cons h.1]
    have ih := star_all (env := env) (pos := pos) h.2
    show ((!false && (backTo pos (starEach es env)).all (fun x => !x.1))) = true
    rw [ih]
    rfl
theorem meth_eval {o : Expr} {name : Str} {apos pos : Pos} {args : List Expr} {env : Env} (hb : attributeBase o name env (eval o env) = eval o env) (ns : allNS args = true) (hl : args.length < 30) (hline : (apos.endLine == pos.line) = true) :
    ∃ pl : Sem Bool, eval (.Call (.Attribute o name apos) args [] pos) env = (do let ov ← eval o env; standAt apos.atName; let (g, fs) ← holding [ov] (getMethod ov name pl); callWith pos g fs (backTo pos (starEach args env)) (backToKw pos (keywordEach [] env))) := by
  refine ⟨(do return (← importBound o env).getD true), ?_⟩
  have e1 : eval (.Call (.Attribute o name apos) args [] pos) env = (attributeBase o name env (eval o env) >>= fun ov => standAt apos.atName >>= fun _ => methodCall o name apos pos env ov (args.length + 0) (backTo pos (starEach args env)) (backToKw pos (keywordEach [] env))) := rfl
  have hf : methodCallForm (args.length + 0) (backTo pos (starEach args env)) (backToKw pos (keywordEach [] env)) = true := by
    unfold methodCallForm
    rw [star_all ns]
    have : (decide (args.length + 0 + (if (backToKw pos (keywordEach [] env)).isEmpty then 0 else 1) < 30)) = true := decide_eq_true hl
    rw [this]
    rfl
  have e2 : ∀ ov, methodCall o name apos pos env ov (args.length + 0) (backTo pos (starEach args env)) (backToKw pos (keywordEach [] env)) =
      (holding [ov] (getMethod ov name (do return (← importBound o env).getD true)) >>= fun q => callWith pos q.1 q.2 (backTo pos (starEach args env)) (backToKw pos (keywordEach [] env))) := by
    intro ov
    unfold methodCall
    rw [hf]
    have e3 : methodCallPos true o env apos pos = pure pos := by
      unfold methodCallPos
      rw [if_pos (by rw [hline]; rfl)]
    rw [e3]
    rfl
  rw [e1, hb]
  simp only [e2]
section
variable {X : Cx} {CX : CXT} {k : Nat} {f C : Addr} {fd : FuncData} {ps : List Str} {sp : Sp} {E : L2.St → XK} {x m : Str} {p pos apos : Pos} {e o : Expr} {es : List Expr} {ta : TE} {t : TA}
def tMethS (C : Addr) (m : Str) (sp : Sp) (E : L2.St → XK) (ta : TE) (t : TA) : TE := fun σ H Q => ta σ H fun x H1 => ∃ a dx fs, x = .ref a ∧ H1 a = some (.ins C dx fs) ∧ fs.lookup m = none ∧ t σ H1 fun vs H2 => sp (x :: vs) H2 Q (E σ)
theorem pe_methS {pl : Sem Bool} (he : PE X o ta) (c : Cls X.K C) (hm : Meth X.K C m f) (F : FnG X.prog X.w X.K X.mg X.base CX k f fd ps sp) (gd : X.A.guards = some [])
    (hr : Room k X.A) (hb : Binds X.K fd ps []) (hx : ∀ σ, PassesAt CX X σ (E σ)) (ha : PA X (e :: es) t) (ns : allNS (e :: es) = true)
    (ht : eval (.Call (.Attribute o m apos) (e :: es) [] pos) X.env = (do let ov ← eval o X.env; standAt apos.atName; let (g, fs) ← holding [ov] (getMethod ov m pl); callWith pos g fs (backTo pos (starEach (e :: es) X.env)) (backToKw pos (keywordEach [] X.env)))) :
    PE X (.Call (.Attribute o m apos) (e :: es) [] pos) (tMethS C m sp E ta t) := by
  have ns' := ns
  simp only [allNS, Bool.and_eq_true] at ns'
  constructor
  intro pins s σ H Q I h
  refine PySem.W.methodCall_KW (pl := pl) ?_ (he := ht)
  apply thn (he.run pins s σ H _ I h)
  rintro u s1 ⟨x, H1, I1, rx, a, dx, fs, rfl, ea, l, q⟩
  obtain rfl : u = Value.ref a := rx
  apply getmeth_ok I1 ea c hm l
  refine PySem.W.callWith_K (first := [.ref a]) (h₀ := X.base) I.ok.mod.kin hm.kp ?_ (star_cons ns'.1) (star_none ns'.2)
  apply thn (ha.run pos pins s1 σ H1 _ I1 q)
  rintro us s2 ⟨vs, H2, I2, r, q2⟩
  exact ⟨I2.kIn, run_fnG (us := .ref a :: us) (vs := .ref a :: vs) F gd hr hb (hx σ) I2 (.cons rfl r) q2⟩
theorem pe_meth0S {pl : Sem Bool} (he : PE X o ta) (c : Cls X.K C) (hm : Meth X.K C m f) (F : FnG X.prog X.w X.K X.mg X.base CX k f fd ps sp) (gd : X.A.guards = some [])
    (hr : Room k X.A) (hb : Binds X.K fd ps []) (hx : ∀ σ, PassesAt CX X σ (E σ))
    (ht : eval (.Call (.Attribute o m apos) [] [] pos) X.env = (do let ov ← eval o X.env; standAt apos.atName; let (g, fs) ← holding [ov] (getMethod ov m pl); callWith pos g fs (backTo pos (starEach [] X.env)) (backToKw pos (keywordEach [] X.env)))) :
    PE X (.Call (.Attribute o m apos) [] [] pos) (tMethS C m sp E ta tNil) := by
  constructor
  intro pins s σ H Q I h
  refine PySem.W.methodCall_KW (pl := pl) ?_ (he := ht)
  apply thn (he.run pins s σ H _ I h)
  rintro u s1 ⟨x, H1, I1, rx, a, dx, fs, rfl, ea, l, q⟩
  obtain rfl : u = Value.ref a := rx
  apply getmeth_ok I1 ea c hm l
  exact PySem.W.callWith_K0 (first := [.ref a]) I1.kIn hm.kp (run_fnG (us := [.ref a]) (vs := [.ref a]) F gd hr hb (hx σ) I1 (.cons rfl .nil) q)
theorem gd_make {A : Around} (gd : A.guards = some []) (C : Addr) (us : List Value) : (A.under (.builtin "type.__call__" ⟨.ref C :: us, []⟩)).guards = some [] := by
  show pushGuards (Code.guards (.builtin "type.__call__" ⟨.ref C :: us, []⟩)) A.guards = some []
  rw [gd]
  rfl
/-- a new instance, then __init__ -/
def tMakeS (C : Addr) (sp : Sp) (E : L2.St → XK) (t : TA) : TE := fun σ H Q => t σ H fun vs H1 => ∀ x dx, H1 x = none → H1 dx = none → dx ≠ x →
  sp (.ref x :: vs) (upd (upd H1 dx (.own x)) x (.ins C dx [])) (fun v H2 => v = .non ∧ Q (.ref x) H2) (E σ)
theorem run_makeS {pins : List (Addr × Obj)} {σ : L2.St} {H : Hp} {s : Shared} {Q : VK} {us : List Value} {vs : List V} (M : Mk X.K C f) (F : FnG X.prog X.w X.K X.mg X.base CX k f fd ps sp) (gd : X.A.guards = some [])
    (hr : Room (k + 1) X.A) (hb : Binds X.K fd ps []) (hx : ∀ σ, PassesAt CX X σ (E σ)) (I : Inv X pins σ H s) (r : Vals vs us)
    (h : ∀ x dx, H x = none → H dx = none → dx ≠ x → sp (.ref x :: vs) (upd (upd H dx (.own x)) x (.ins C dx [])) (fun v H2 => v = .non ∧ Q (.ref x) H2) (E σ)) :
    wpAny (model X.prog X.w) X.A (call (.ref C) us) (EP X pins σ Q) X.xe s := by
  have n0 : H s.heap.objs.size = none := I.hok.fresh (Nat.le_refl _)
  have n1 : H (s.heap.objs.size + 1) = none := I.hok.fresh (Nat.le_succ _)
  have hq := h _ _ n1 n0 (Nat.ne_of_lt (Nat.lt_succ_self _))
  have J := Inv.made (C := C) I
  have rr : Vals (V.ref (s.heap.objs.size + 1) :: vs) (Value.ref (s.heap.objs.size + 1) :: us) := .cons rfl r
  have hl : (Value.ref (s.heap.objs.size + 1) :: us).length = ps.length := rr.length.symm.trans (F.len _ _ _ _ hq)
  have bb := hb _ (Value.ref (s.heap.objs.size + 1) :: us) J.kIn (by rw [List.append_nil]; exact hl)
  rw [List.append_nil] at bb
  apply wpAny_call
  apply make_map (f := f) I.kIn M.makes M.init (beq_iff_eq.mp M.fn)
  refine codeAny_mono (F.run _ X.stack _ _ ⟨_, []⟩ _ _ _ (E σ) (hr.make C us []) (gd_make gd C us) (J.env0.make C us []) bb rr hq) ?_
  intro res s' hres
  match res with
  | .error e => exact hx σ pins _ _ e s' J hres
  | .ok (.ret u) =>
    obtain ⟨v, H', J3, rv, ev, q3⟩ := J.after hres
    subst ev
    exact ⟨rv, .ref _, H', J3, rfl, q3⟩
  | .ok .next => exact hres.elim
  | .ok .brk => exact hres.elim
  | .ok .cont => exact hres.elim
theorem pe_makeS (M : Mk X.K C f) (F : FnG X.prog X.w X.K X.mg X.base CX k f fd ps sp) (gd : X.A.guards = some []) (hr : Room (k + 1) X.A) (hg : Gl X x) (hm : X.mg x = some (.ref C)) (hb : Binds X.K fd ps [])
    (hx : ∀ σ, PassesAt CX X σ (E σ)) (ha : PA X (e :: es) t) (ns : allNS (e :: es) = true) (hdb : (x == ("__debug__" : Str)) = false) : PE X (.Call (.Name x p) (e :: es) [] pos) (tMakeS C sp E t) := by
  have ns' := ns
  simp only [allNS, Bool.and_eq_true] at ns'
  constructor
  intro pins s σ H Q I h
  apply wpAny_Call_Name_kw
  apply ld_glob I hg hm (hd := hdb)
  refine PySem.W.callWith_K (h₀ := X.base) I.ok.mod.kin M.kp ?_ (star_cons ns'.1) (star_none ns'.2)
  apply thn (ha.run pos pins s σ H _ I h)
  rintro us s1 ⟨vs, H1, I1, r, q⟩
  exact ⟨I1.kIn, run_makeS M F gd hr hb hx I1 r q⟩
theorem pe_make0S (M : Mk X.K C f) (F : FnG X.prog X.w X.K X.mg X.base CX k f fd ps sp) (gd : X.A.guards = some []) (hr : Room (k + 1) X.A) (hg : Gl X x) (hm : X.mg x = some (.ref C)) (hb : Binds X.K fd ps [])
    (hx : ∀ σ, PassesAt CX X σ (E σ)) (hdb : (x == ("__debug__" : Str)) = false) : PE X (.Call (.Name x p) [] [] pos) (tMakeS C sp E tNil) := by
  constructor
  intro pins s σ H Q I h
  apply wpAny_Call_Name_kw
  apply ld_glob I hg hm (hd := hdb)
  exact PySem.W.callWith_K0 I.kIn M.kp (run_makeS (us := []) M F gd hr hb hx I .nil h)
theorem pe_callG (F : FnG X.prog X.w X.K X.mg X.base CX k f fd ps sp) (gd : X.A.guards = some []) (hr : Room k X.A) (hg : Gl X x) (hm : X.mg x = some (.ref f)) (hk : PySem.W.keepIn X.K (.ref f) = true) (hb : Binds X.K fd ps [])
    (hx : ∀ σ, PassesAt CX X σ (E σ)) (ha : PA X (e :: es) t) (ns : allNS (e :: es) = true) (hdb : (x == ("__debug__" : Str)) = false) : PE X (.Call (.Name x p) (e :: es) [] pos) (tCallS sp E t) := by
  have ns' := ns
  simp only [allNS, Bool.and_eq_true] at ns'
  constructor
  intro pins s σ H Q I h
  apply wpAny_Call_Name_kw
  apply ld_glob I hg hm (hd := hdb)
  refine PySem.W.callWith_K (h₀ := X.base) I.ok.mod.kin hk ?_ (star_cons ns'.1) (star_none ns'.2)
  apply thn (ha.run pos pins s σ H _ I h)
  rintro us s1 ⟨vs, H1, I1, r, q⟩
  exact ⟨I1.kIn, run_fnG F gd hr hb (hx σ) I1 r q⟩
theorem pe_call0S (F : FnG X.prog X.w X.K X.mg X.base CX k f fd ps sp) (gd : X.A.guards = some []) (hr : Room k X.A) (hg : Gl X x) (hm : X.mg x = some (.ref f)) (hk : PySem.W.keepIn X.K (.ref f) = true) (hb : Binds X.K fd ps [])
    (hx : ∀ σ, PassesAt CX X σ (E σ)) (hdb : (x == ("__debug__" : Str)) = false) : PE X (.Call (.Name x p) [] [] pos) (tCallS sp E tNil) := by
  constructor
  intro pins s σ H Q I h
  apply wpAny_Call_Name_kw
  apply ld_glob I hg hm (hd := hdb)
  exact PySem.W.callWith_K0 I.kIn hk (run_fnG (us := []) F gd hr hb (hx σ) I .nil h)
end
section
variable {w : Wd} {F : List Addr} {S : Sl} {σ : L2.St} {T U : List (D × V)} {A : List Addr} {H : Hp}
/-- the values on top alone, and what comes of them -/
theorem Rl.frame2F (r : Rl w F H S σ (U ++ T) A) : ∃ B, Ow w F H U B ∧ ∀ F' H' U' B', (∀ b ob u, H b = some (.frz ob u) → b ∉ F → b ∉ F') → Ow w F' H' U' B' → Step B H B' H' → ∃ A', Rl w F' H' S σ (U' ++ T) A' ∧ Step A H A' H' := by
  have r0 := r
  obtain ⟨L, l, o⟩ := r
  have p : (L ++ (U ++ T)).Perm (U ++ (L ++ T)) := by
    rw [← List.append_assoc, ← List.append_assoc]
    exact List.perm_append_comm.append_right T
  obtain ⟨B, q, o'⟩ := o.perm p
  obtain ⟨B1, B2, e, o1, o2⟩ := o'.right
  subst e
  refine ⟨B1, o1, fun F' H' U' B' g oU s => ?_⟩
  obtain ⟨oo, ss⟩ := Ow.frameF g o'.nd o2.ml (fun b hb => Ml.held _ _ o1.ml b hb) oU s
  have p2 : (U' ++ (L ++ T)).Perm (L ++ (U' ++ T)) := by
    rw [← List.append_assoc, ← List.append_assoc]
    exact List.perm_append_comm.append_right T
  obtain ⟨C, q2, o3⟩ := oo.perm p2
  exact ⟨C, ⟨L, l, o3⟩, (step_perm q).trans (ss.trans (step_perm q2))⟩
theorem Rl.frame2 (r : Rl w F H S σ (U ++ T) A) : ∃ B, Ow w F H U B ∧ ∀ H' U' B', Ow w F H' U' B' → Step B H B' H' → ∃ A', Rl w F H' S σ (U' ++ T) A' ∧ Step A H A' H' :=
  let ⟨B, o, k⟩ := r.frame2F
  ⟨B, o, fun H' U' B' oU s => k F H' U' B' (fun _ _ _ _ n => n) oU s⟩
theorem takes_ok {sg : Sg} (es : sg = w.n.sg) : ∀ {as : List Arg} {vs : List V} {U T : List (D × V)} {S S1 : Sl} {ds : List D} {A : List Addr}, Rl w F H S σ (U ++ T) A → AsV w H σ as vs U → takes sg as S = some (ds, S1) →
    ∃ A', Rl w F H S1 σ (ds.zip vs ++ T) A' ∧ A.Perm A' ∧ ds.length = vs.length
  | [], vs, U, T, S, S1, ds, A, r, h, e => by
    cases h
    simp only [takes, Option.some.injEq, Prod.mk.injEq] at e
    obtain ⟨rfl, rfl⟩ := e
    exact ⟨A, r, .refl _, rfl⟩
  | .val d :: as, vs, U, T, S, S1, ds, A, r, h, e => by
    cases h with
    | @cons _ v U1 U2 _ vs h1 h2 =>
      cases h1
      simp only [takes] at e
      split at e
      · rename_i ds' S' e'
        cases e
        have p : (([(d, v)] ++ U2) ++ T).Perm (U2 ++ ((d, v) :: T)) := by
          simp only [List.cons_append, List.nil_append]
          exact List.perm_middle.symm
        obtain ⟨A1, q1, r1⟩ := r.tperm p
        obtain ⟨A2, r2, q2, el⟩ := takes_ok es r1 h2 e'
        have p2 : (ds'.zip vs ++ ((d, v) :: T)).Perm (((d, v) :: ds'.zip vs) ++ T) := List.perm_middle
        obtain ⟨A3, q3, r3⟩ := r2.tperm p2
        exact ⟨A3, r3, (q1.trans q2).trans q3, by simp [el]⟩
      · cases e
  | .pl i p :: as, vs, U, T, S, S1, ds, A, r, h, e => by
    cases h with
    | @cons _ v U1 U2 _ vs h1 h2 =>
      cases h1 with
      | pl pv =>
        simp only [takes] at e
        split at e
        · rename_i d S0 e1 e2
          split at e
          · rename_i hl
            split at e
            · rename_i ds' S' e'
              cases e
              subst es
              obtain ⟨u, A1, pu, r1, q1⟩ := r.takeP e1 e2 hl
              have ev := pv.inj pu
              subst ev
              have pp : ((d, v) :: (([] ++ U2) ++ T)).Perm (U2 ++ ((d, v) :: T)) := by
                simp only [List.nil_append]
                exact List.perm_middle.symm
              obtain ⟨A1', q1', r1'⟩ := r1.tperm pp
              obtain ⟨A2, r2, q2, el⟩ := takes_ok rfl r1' h2 e'
              have p2 : (ds'.zip vs ++ ((d, v) :: T)).Perm (((d, v) :: ds'.zip vs) ++ T) := List.perm_middle
              obtain ⟨A3, q3, r3⟩ := r2.tperm p2
              exact ⟨A3, r3, ((q1.trans q1').trans q2).trans q3, by simp [el]⟩
            · cases e
          · cases e
        · cases e
theorem puts_ok {sg : Sg} (es : sg = w.n.sg) : ∀ {as : List Arg} {vs : List V} {U L' T : List (D × V)} {S S2 ps : Sl} {A : List Addr}, Rl w F H S σ (L' ++ T) A → AsV w H σ as vs U → Lv ps (vs.map some) L' → puts sg as ps S = some S2 →
    ∃ A', Rl w F H S2 σ T A' ∧ Step A H A' H
  | [], vs, U, L', T, S, S2, ps, A, r, h, l, e => by
    cases h
    cases l
    simp only [puts, Option.some.injEq] at e
    subst e
    exact ⟨A, r, .refl⟩
  | .val d :: as, vs, U, L', T, S, S2, ps, A, r, h, l, e => by
    cases h with
    | @cons _ v U1 U2 _ vs h1 h2 =>
      cases h1
      simp only [List.map_cons] at l
      cases l with
      | no l =>
        simp only [puts] at e
        exact puts_ok es r h2 l e
      | so l =>
        simp only [puts] at e
        obtain ⟨A1, r1, s1⟩ := r.tdrop1
        obtain ⟨A2, r2, s2⟩ := puts_ok es r1 h2 l e
        exact ⟨A2, r2, s1.trans s2⟩
  | .pl i p :: as, vs, U, L', T, S, S2, ps, A, r, h, l, e => by
    cases h with
    | @cons _ v U1 U2 _ vs h1 h2 =>
      cases h1 with
      | pl pv =>
        simp only [List.map_cons] at l
        cases l with
        | no l =>
          cases p with
          | nil =>
            simp only [puts] at e
            have hi : i < S.length := by
              obtain ⟨v0, ev, _⟩ := pv
              rw [r.len]
              exact (List.getElem?_eq_some_iff.mp ev).1
            obtain ⟨A1, r1, s1⟩ := r.forget hi
            obtain ⟨A2, r2, s2⟩ := puts_ok es r1 h2 l e
            exact ⟨A2, r2, s1.trans s2⟩
          | cons _ _ => simp [puts] at e
        | @so ps' _ L'' d _ l =>
          have e0 : ∃ S1, rdS sg S i p = some .hole ∧ wrS sg S i p d = some S1 ∧ puts sg as ps' S1 = some S2 := by
            simp only [puts] at e
            split at e
            · rename_i S1 a b
              exact ⟨S1, a, b, e⟩
            · cases e
          obtain ⟨S1, a, b, e⟩ := e0
          subst es
          obtain ⟨A1, r1, q1⟩ := r.putP a b pv
          obtain ⟨A2, r2, s2⟩ := puts_ok rfl r1 h2 l e
          exact ⟨A2, r2, (step_perm q1).trans s2⟩
end
section
variable {w : Wd} {X : Cx} {N : List Str} {sc : Scope} {W : WX} {L : Nat} {cf : Nat → List D → FR} {n : Nm} {F : List Addr} {S : Sl} {σ : L2.St} {T U : List (D × V)} {A A1 : List Addr} {H H1 : Hp}
/-- a call of one's own def: from the arguments on -/
theorem callU_ok {f : Nat} {as : List Arg} {vs : List V} {S1 : Sl} {Q : VK} (q : EV w W DV F σ T A H Q (callU w.n.sg cf f as S1)) (r : Rl w F H1 S1 σ (U ++ T) A1) (s : Step A H A1 H1) (h : AsV w H1 σ as vs U) : spF w (cf f) vs H1 Q (WE W σ) := by
  unfold callU at q
  split at q
  · rename_i ds S2 et
    obtain ⟨A2, r2, q2, el⟩ := takes_ok rfl r h et
    obtain ⟨B, oB, k⟩ := r2.frame2
    have em : (ds.zip vs).map (·.2) = vs := List.map_snd_zip (by omega)
    have em1 : (ds.zip vs).map (·.1) = ds := List.map_fst_zip (by omega)
    refine ⟨F, ds.zip vs, B, em, oB, ?_⟩
    rw [em1]
    split
    · rename_i d ps ec
      simp only [ec] at q
      intro v H' L' A' lv ow st
      obtain ⟨A3, r3, s3⟩ := k H' _ A' ow st
      split at q
      · rename_i S3 ep
        have p3 : (((d, v) :: L') ++ T).Perm (L' ++ ((d, v) :: T)) := List.perm_middle.symm
        obtain ⟨A3', q3', r3'⟩ := r3.tperm p3
        obtain ⟨A4, r4, s4⟩ := puts_ok rfl r3' (h.step ((step_perm q2).trans s3)) lv ep
        exact q v _ H' A4 rfl r4 (((s.trans (step_perm q2)).trans s3).trans ((step_perm q3').trans s4))
      · exact q.elim
    · rename_i c ps ec
      simp only [ec] at q
      intro C H' L' A' hC lv ow st
      obtain ⟨A3, r3, s3⟩ := k H' _ A' ow st
      split at q
      · rename_i S3 ep
        obtain ⟨A4, r4, s4⟩ := puts_ok rfl r3 (h.step ((step_perm q2).trans s3)) lv ep
        exact q C H' A4 hC r4 (((s.trans (step_perm q2)).trans s3).trans s4)
      · exact q.elim
    · rename_i ec
      simp only [ec] at q
      exact q
  · exact q.elim
theorem nsX : ∀ {es : Exs} {l : List Expr}, ckX n N sc es l = true → allNS l = true
  | .nil, [], _ => rfl
  | .cons e es, l :: ls, h => by
    unfold ckX at h
    simp only [Bool.and_eq_true] at h
    simp only [allNS, h.1.1, nsX h.2, Bool.and_self]
  | .nil, _ :: _, h => by simp [ckX] at h
  | .cons _ _, [], h => by simp [ckX] at h
theorem s_call (hn : n = w.n) (E : EnvOk w cf L X.prog X.w X.mg X.base) (h : XC w X N sc W L) {f : Nat} {es : Exs} {e : Expr} (hc : ckE n N sc (.call f es) e = true) (ha : ∀ l, ckX n N sc es l = true → PA X l (tAs w W (evA w.n.sg cf es))) :
    PE X e (tE w W (evE w.n.sg cf (.call f es))) := by
  unfold ckE at hc
  split at hc
  · rename_i x p l pos
    simp only [Bool.and_eq_true, decide_eq_true_eq] at hc
    obtain ⟨⟨⟨rfl, hk⟩, hg⟩, hl⟩ := hc
    obtain ⟨g1, g2, g3⟩ := gl_of h hg
    subst hn
    obtain ⟨a, fd, ps, m1, m2, m3, m4⟩ := E.fn f hk
    have hns := nsX hl
    have hp := ha l hl
    have m4' : FnG X.prog X.w X.K X.mg X.base (L2.CX X.prog X.w) L a fd ps (spF w (cf f)) := by rw [h.hK]; exact m4
    cases l with
    | nil =>
      refine PE.weak (pe_call0S (E := WE W) m4' h.gd (h.room.mono (Nat.le_succ _)) g1 m1 (by rw [h.hK]; exact m2) (by rw [h.hK]; exact m3) (fun σ => passAt h.tk σ) g2) fun σ H Q ⟨F, S, T, A, r, q⟩ => ?_
      cases es with
      | nil =>
        simp only [evE, evA, R.bind] at q
        exact callU_ok (U := []) q r .refl .nil
      | cons _ _ => simp [ckX] at hl
    | cons l0 ls =>
      have hns' := hns
      simp only [allNS, Bool.and_eq_true] at hns'
      refine PE.weak (pe_callG (E := WE W) m4' h.gd (h.room.mono (Nat.le_succ _)) g1 m1 (by rw [h.hK]; exact m2) (by rw [h.hK]; exact m3) (fun σ => passAt h.tk σ) hp hns g2) fun σ H Q ⟨F, S, T, A, r, q⟩ => ?_
      simp only [evE] at q
      exact ⟨F, S, T, A, r, q.first fun as S1 vs U H1 A1 e1 hv r1 s1 q1 => callU_ok q1 r1 s1 hv⟩
  · cases hc
theorem path_base {o : Ex} {r0 : Expr} {m : Str} (hp : (pathOf o).isSome = true) (hr0 : ckE n N sc o r0 = true) : attributeBase r0 m X.env (eval r0 X.env) = eval r0 X.env := by
  cases o with
  | var k =>
    unfold ckE at hr0
    split at hr0
    · rfl
    · cases hr0
  | att a' f' =>
    unfold ckE at hr0
    split at hr0
    · rfl
    · cases hr0
  | _ => simp [pathOf] at hp
theorem lookup_none {ws : List (Str × V)} {m : Str} (h : m ∉ ws.map (·.1)) : ws.lookup m = none := by
  induction ws with
  | nil => rfl
  | cons a r ih =>
    simp only [List.map_cons, List.mem_cons, not_or] at h
    rw [List.lookup_cons, beq_eq_false_iff_ne.mpr h.1]
    exact ih h.2
theorem s_meth (hn : n = w.n) (E : EnvOk w cf L X.prog X.w X.mg X.base) (h : XC w X N sc W L) {c f : Nat} {o : Ex} {es : Exs} {e : Expr} (hc : ckE n N sc (.meth c f o es) e = true)
    (ho : ∀ l, ckE n N sc o l = true → PE X l (tAr w W fun S => argOf w.n.sg S o (evE w.n.sg cf o S))) (ha : ∀ l, ckX n N sc es l = true → PA X l (tAs w W (evA w.n.sg cf es))) :
    PE X e (tE w W (evE w.n.sg cf (.meth c f o es))) := by
  unfold ckE at hc
  split at hc
  · rename_i r0 m ap l pos
    simp only [Bool.and_eq_true, decide_eq_true_eq] at hc
    obtain ⟨⟨⟨⟨⟨⟨rfl, hk⟩, hline⟩, hlen⟩, hpath⟩, hr0⟩, hl⟩ := hc
    subst hn
    have hbase : attributeBase r0 (w.n.fn f) X.env (eval r0 X.env) = eval r0 X.env := path_base hpath hr0
    have hpl := meth_eval (pos := pos) hbase (nsX hl) hlen hline
    cases hC : w.cl c with
    | none =>
      -- no such class: the receiver is none
      refine ⟨fun pins s σ H Q I q => ?_⟩
      have hF : tAr w W (fun S => argOf w.n.sg S o (evE w.n.sg cf o S)) σ H (fun _ _ => False) := by
        obtain ⟨F, S, T, A, r, q⟩ := q
        simp only [evE] at q
        refine ⟨F, S, T, A, r, q.first fun x S1 v U H1 A1 e1 hv r1 s1 q1 => ?_⟩
        split at q1
        · rename_i c' fs ed
          split at q1
          · rename_i ec
            subst ec
            obtain ⟨B, m⟩ := argMx rfl r1 (fun _ h => h) hv ed
            cases m with
            | pr m => cases m
            | obj _ hcl _ _ _ => rw [hC] at hcl; cases hcl
          · exact q1.elim
        · exact q1.elim
      have z := (ho r0 hr0).run pins s σ H _ I hF
      obtain ⟨pl, hb⟩ := hpl
      rw [hb]
      exact wpAny_bind (thn z fun v s1 ⟨_, _, _, _, hF⟩ => hF.elim)
    | some C =>
      obtain ⟨a, fd, ps, m1, m2, m3, m4⟩ := E.met f c C hk hC
      obtain ⟨k1, k2⟩ := E.cls c C hC
      have hns := nsX hl
      have hp := ha l hl
      have hm3 : FnG X.prog X.w X.K X.mg X.base (L2.CX X.prog X.w) L a fd ps (spF w (cf f)) := by rw [h.hK]; exact m3
      have hm2 : Binds X.K fd ps [] := by rw [h.hK]; exact m2
      have hm1 : Meth X.K C (w.n.fn f) a := by rw [h.hK]; exact m1
      have hk1 : Cls X.K C := by rw [h.hK]; exact k1
      -- the receiver, as it stands
      have recv : ∀ {F : List Addr} {S1 : Sl} {σ : L2.St} {T U : List (D × V)} {A1 : List Addr} {H1 : Hp} {x : Arg} {v : V} {fs : List D}, Rl w F H1 S1 σ (U ++ T) A1 → ArV w H1 σ x v U → argD w.n.sg S1 x = some (.obj c fs) → ∃ a dx ws, v = .ref a ∧ H1 a = some (.ins C dx ws) ∧ ws.lookup (w.n.fn f) = none := fun r1 hv ed => by
        obtain ⟨B, m⟩ := argMx rfl r1 (fun _ h => h) hv ed
        cases m with
        | pr m => cases m
        | @obj pp C' dx _ fs ws A2 h1 hcl en el ml =>
          rw [hC] at hcl; cases hcl
          refine ⟨pp, dx, ws, rfl, h1, lookup_none fun z => m4 ?_⟩
          rw [en] at z
          obtain ⟨y, hy, ey⟩ := List.mem_map.mp z
          exact List.mem_map.mpr ⟨y, List.mem_of_mem_take hy, ey⟩
      obtain ⟨pl, hpl⟩ := hpl
      cases l with
      | nil =>
        cases es with
        | nil =>
          refine PE.weak (pe_meth0S (E := WE W) (ho r0 hr0) hk1 hm1 hm3 h.gd (h.room.mono (Nat.le_succ _)) hm2 (fun σ => passAt h.tk σ) hpl) fun σ H Q ⟨F, S, T, A, r, q⟩ => ?_
          simp only [evE] at q
          refine ⟨F, S, T, A, r, q.first fun x S1 v U H1 A1 e1 hv r1 s1 q1 => ?_⟩
          split at q1
          · rename_i c' fs ed
            split at q1
            · rename_i ec
              subst ec
              obtain ⟨a', dx, ws, ev, hi, hlk⟩ := recv r1 hv ed
              simp only [evA, R.bind] at q1
              refine ⟨a', dx, ws, ev, hi, hlk, callU_ok (U := U ++ []) q1 (by rw [List.append_nil]; exact r1) s1 (.cons hv .nil)⟩
            · exact q1.elim
          · exact q1.elim
        | cons _ _ => simp [ckX] at hl
      | cons l0 ls =>
        refine PE.weak (pe_methS (E := WE W) (ho r0 hr0) hk1 hm1 hm3 h.gd (h.room.mono (Nat.le_succ _)) hm2 (fun σ => passAt h.tk σ) hp hns hpl) fun σ H Q ⟨F, S, T, A, r, q⟩ => ?_
        simp only [evE] at q
        refine ⟨F, S, T, A, r, q.first fun x S1 v U H1 A1 e1 hv r1 s1 q1 => ?_⟩
        split at q1
        · rename_i c' fs ed
          split at q1
          · rename_i ec
            subst ec
            obtain ⟨a', dx, ws, ev, hi, hlk⟩ := recv r1 hv ed
            refine ⟨a', dx, ws, ev, hi, hlk, F, S1, U ++ T, A1, r1, EV.next s1 q1 fun as S2 vs U2 H2 A2 e2 hv2 r2 s2 s2' q2 => ?_⟩
            have pp : (U2 ++ (U ++ T)).Perm ((U ++ U2) ++ T) := by
              rw [← List.append_assoc]
              exact List.perm_append_comm.append_right T
            obtain ⟨A3, q3, r3⟩ := r2.tperm pp
            exact callU_ok q2 r3 (s2.trans (step_perm q3)) (.cons (hv.step s2') hv2)
          · exact q1.elim
        · exact q1.elim
  · cases hc
end
end Q
end
section
set_option Elab.async false
set_option linter.all false
set_option maxRecDepth 100000
namespace Q
open PySem PySem.Spec PyProof.Rows L2
/-! repr of plain data, where nothing is just being shown -/
def rRepr (K : PySem.W.Frag) : List V → Hp → VK → Prop := fun xs H Q => ∃ (v : V) (d : PyData), xs = [v] ∧ Dp K H v d ∧ d.showable = true ∧ d.hasDict = false ∧ d.depth ≤ 60 ∧ d.shown.length ≤ sizeLine ∧ Q (.str d.shown) H
theorem cr_repr {X : Cx} (gd : X.A.guards = some []) (hu : X.A.units + 65 < cLine) : CallR X (.builtin "repr") (rRepr X.K) := by
  intro pins s σ H xs us Q I r h
  obtain ⟨v, d, rfl, hd, hs, hnd, hdep, hz, q⟩ := h
  cases r with
  | cons ru rn =>
    cases rn
    rename_i u
    obtain ⟨as, rd⟩ := Dp.reads I d v u hd ru
    have big : ∀ {a : Addr}, Reads s.heap (.ref a) d as → wpAny (model X.prog X.w) X.A (call (.builtin "repr") [.ref a]) (EP X pins σ Q) X.xe s := fun {a} rd =>
      repr_of_reads' rd hs (PyData.noDict_hsm hnd) gd (by omega) (fun _ _ e => e) (fun h' u tk keep => ⟨.str d.shown, H, I.kept keep, ⟨_, rfl⟩, q⟩) hz
    cases d with
    | none =>
      cases hd
      obtain rfl : u = Value.none := ru
      exact PySem.P.repr_of_none ⟨.str "None", H, I.tok _, ⟨_, rfl⟩, q⟩
    | bool b =>
      cases hd
      obtain rfl : u = Value.bool b := ru
      exact PySem.P.repr_of_bool ⟨.str (if b then "True" else "False"), H, I.tok _, ⟨_, rfl⟩, q⟩
    | int i =>
      cases hd
      obtain ⟨t, rfl⟩ := ru
      exact PySem.P.repr_of_int (of_decide_eq_true hs) ⟨.str (toString i), H, I.tok _, ⟨_, rfl⟩, q⟩
    | str x =>
      cases hd
      obtain ⟨t, rfl⟩ := ru
      exact PySem.P.repr_of_str ⟨.str (reprText x), H, I.tok _, ⟨_, rfl⟩, q⟩ hz
    | list ds =>
      cases hd
      obtain rfl : u = Value.ref _ := ru
      exact big rd
    | tuple ds =>
      cases hd
      obtain rfl : u = Value.ref _ := ru
      exact big rd
    | dict kvs => simp [PyData.hasDict] at hnd
end Q
end
section
set_option Elab.async false
set_option linter.all false
set_option maxRecDepth 100000
namespace Q
open PySem PySem.Spec PyProof.Rows L2
open AutoSeq1 (wpAny_loadPart')
/-! tuple(d) -/
section
variable {prog : Program} {w : World} {A : Around} {E : Value → Shared → Prop} {s : Shared} {T : String} {r d : Addr} {n : Nat} {P : Nat → Value → Prop} {OK : Heap → Prop}
theorem src_collect {R : List Value → Shared → Prop} (src : PySem.W.KdlSrc prog w T r d n P OK) (calm : A.handled = none) (ok : OK s.heap) (small : n ≤ sizeLine)
    (h : ∀ (h' : Heap) (tk : Nat) (vs : List Value), (∀ b o, s.heap.get? b = some o → h'.get? b = some o) → vs.length = n → (∀ j v, vs[j]? = some v → P j v) → R vs { s with heap := h', toks := tk }) :
    wpAny (model prog w) A (collect (.ref r)) R E s := by
  obtain ⟨lr, ld⟩ := src.there _ ok
  obtain ⟨h1, eh1⟩ : ∃ h1 : Heap, h1 = s.heap.push { cls := .type "list", data := .seq ([] : List Value).toArray } := ⟨_, rfl⟩
  have newAt : h1.get? s.heap.objs.size = some { cls := .type "list", data := .seq #[] } := by rw [eh1]; exact Heap.get?_push_size _ rfl
  have stays : ∀ b o, s.heap.get? b = some o → h1.get? b = some o := fun b o e => by rw [eh1]; exact Heap.get?_push_of_some _ e
  have ok1 : OK h1 := src.keep _ _ ok fun b _ o e => stays b o e
  have fill := PySem.W.kdl_extend (A := A) (s := { s with heap := h1 }) (R := fun q s' => ∃ (h' : Heap) (tk : Nat) (its : Array Value) (c : Nat), q = .ok (.ret (.ref s.heap.objs.size)) ∧ s' = { s with heap := h', toks := tk } ∧ (∀ b o, s.heap.get? b = some o → h'.get? b = some o) ∧
      h'.get? s.heap.objs.size = some { cls := .type "list", dict := none, data := .seq its c, slots := #[] } ∧ ItemsOf P its n) src calm ok1 s.heap.objs.size (Nat.ne_of_gt lr) (Nat.ne_of_gt ld) (.ref s.heap.objs.size) 0 newAt
    (fun h' tk its c kept at_ is => ⟨h', tk, its, c, rfl, rfl, fun b o e => kept b o (Nat.ne_of_lt (Heap.lt_size e)) (stays b o e), at_, is⟩) small
  have last : ∀ (h' : Heap) (tk : Nat) (its : Array Value) (c : Nat), (∀ b o, s.heap.get? b = some o → h'.get? b = some o) → h'.get? s.heap.objs.size = some { cls := .type "list", dict := none, data := .seq its c, slots := #[] } → ItemsOf P its n →
      R its.toList { s with heap := h', toks := tk } := fun h' tk its c kept at_ is =>
    h h' tk its.toList kept (by rw [Array.length_toList]; exact is.1) fun j v e => is.2 j v (by rw [← Array.getElem?_toList]; exact e)
  unfold collect
  apply wpAny_bind
  apply wpAny_runValue
  apply codeAny_builtin PySem.F.entry_proto_collect
  rw [Around.under_plainId PySem.F.plain_proto_collect _]
  show wpAny _ A.in1 (newList [] >>= fun x => again (.builtin "list.__iadd__" ⟨[x, .ref r], []⟩)) _ _ _
  refine wpAny_bind (wpAny_newObj_type ?_)
  apply wpAny_pure
  refine ⟨plainId_quiet PySem.F.plain_list_iadd _, ?_⟩
  apply codeAny_builtin PySem.F.entry_list_iadd
  rw [Around.under_plainId PySem.F.plain_list_iadd _]
  rw [← eh1]
  refine wpAny_mono fill ?_ ?_
  · intro fin s' x
    match fin with
    | .done f =>
      obtain ⟨h', tk, its, c, e, rfl, kept, at_, is⟩ := x
      cases e
      show wpAny _ A (load _ >>= _) _ _ _
      exact wpAny_bind (wpAny_load at_ (wpAny_pure (last h' tk its c kept at_ is)))
    | .again c1 =>
      refine ⟨x.1, codeAny_mono x.2 ?_⟩
      rintro q s2 ⟨h', tk, its, c, rfl, rfl, kept, at_, is⟩
      show wpAny _ A (load _ >>= _) _ _ _
      exact wpAny_bind (wpAny_load at_ (wpAny_pure (last h' tk its c kept at_ is)))
  · rintro e s' ⟨_, _, _, _, no, _⟩
    cases no
theorem tuple_src {Q : Value → Shared → Prop} (src : PySem.W.KdlSrc prog w T r d n P OK) (calm : A.handled = none) (ok : OK s.heap) (small : n ≤ sizeLine)
    (h : ∀ (h' : Heap) (tk : Nat) (vs : List Value), (∀ b o, s.heap.get? b = some o → h'.get? b = some o) → vs.length = n → (∀ j v, vs[j]? = some v → P j v) → Q (.ref h'.objs.size) { s with heap := h'.push { cls := .type "tuple", data := .seq vs.toArray }, toks := tk }) :
    wpAny (model prog w) A (call (.type "tuple") [.ref r]) Q E s := by
  have mk : codeAny (model prog w) A.in1 (.call (.builtin "tuple.__new__") ⟨[.type "tuple", .ref r], []⟩) (wants (fun obj s1 => s1.TypeIs obj "tuple" ∧ Q obj s1) E) s := by
    apply codeAny_of_tree
    show wpAny _ _ (do checkBuiltinCall "tuple.__new__" ⟨[.type "tuple", .ref r], []⟩; again (.builtin "tuple.__new__" ⟨[.type "tuple", .ref r], []⟩)) _ _ _
    apply wpAny_bind
    apply wpAny_of_eq (PySem.F.newCall_tuple_1 _)
    apply wpAny_pure
    refine ⟨plainId_quiet PySem.F.plain_tuple_new _, ?_⟩
    apply codeAny_builtin PySem.F.entry_tuple_new
    rw [Around.under_plainId PySem.F.plain_tuple_new _]
    have hsub := sub_tuple_self
    have hinit := init_tuple_lookup
    have hmh := madeHere_tuple
    have ty := src.type s ok
    wp_walk using wpAny_typeOf ty
    simp only [src.notTuple, Bool.false_eq_true, if_false]
    refine wpAny_bind (src_collect (A := A.in1.in1) src (show A.in1.in1.handled = none from calm) ok small ?_)
    intro h' tk vs kept len is
    have sz : vs.toArray.size ≤ sizeLine := by rw [List.size_toArray, len]; exact small
    show wpAny _ _ (Builtin.Tuple.tupleExact vs.toArray >>= fun x => ret x) _ _ _
    unfold Builtin.Tuple.tupleExact
    refine wpAny_bind (wpAny_newObj_type ?_ (by show vs.toArray.size ≤ sizeLine; exact sz))
    exact wpAny_pure ⟨⟨_, Heap.get?_push_size _ rfl, rfl⟩, h h' tk vs kept len is⟩
  refine callType_codes (Q₁ := fun obj s1 => s1.TypeIs obj "tuple" ∧ Q obj s1) PySem.F.called_tuple (PySem.F.typeCall_tuple_1 _) PySem.F.entry_object_init mk ?_
  rintro obj s1 ⟨ty, q⟩
  exact ⟨ty, PySem.F.args_object_init_2 obj _, object_init_meets PySem.F.called_tuple.init.lookup PySem.F.called_tuple.made (by decide) prog w A.in1 _ s1 ⟨ty, rfl, q⟩⟩
end
section
variable {X : Cx}
/-- the keys as they stand -/
theorem keys_at {ks : List (List Key × Addr × Value)} {prog : Program} {w : World} {es : Array DictEntry} (he : es.toList = ks.map (entryOfKey (tupleKind (mixKind prog w)))) {vs : List Value} (hl : vs.length = es.size)
    (hv : ∀ (j : Nat) (v : Value), vs[j]? = some v → ∃ en : DictEntry, es[j]? = some en ∧ v = en.key) : vs = (ks.map fun x => x.2.1).map Value.ref := by
  have size : es.size = ks.length := size_of_entries he
  apply List.ext_getElem?
  intro j
  rw [List.getElem?_map, List.getElem?_map]
  cases hj : vs[j]? with
  | none =>
    have := List.getElem?_eq_none_iff.mp hj
    rw [List.getElem?_eq_none (by omega)]
    rfl
  | some v =>
    obtain ⟨en, hen, rfl⟩ := hv j v hj
    have at_ := entry_at he j
    rw [hen] at at_
    cases hb : ks[j]? with
    | none => rw [hb] at at_; cases at_
    | some b =>
      rw [hb] at at_
      obtain rfl : en = entryOfKey (tupleKind (mixKind prog w)) b := Option.some.inj at_
      rfl
def rTupDt : List V → Hp → VK → Prop := fun xs H Q => ∃ d kvs, xs = [V.ref d] ∧ Rd H d (.dT kvs) ∧ ∀ p bs, H p = none → IsKeys H kvs bs → Q (.ref p) (upd H p (.tup (bs.map V.ref)))
theorem cr_tuple_dT (calm : X.calm = true) : CallR X (.type "tuple") rTupDt := by
  intro pins s σ H xs us Q I r h
  obtain ⟨d, kvs, rfl, hd, q⟩ := h
  obtain ⟨u, rfl, rx⟩ := r.one
  cases rx
  obtain ⟨_, hs, ks, pr, o, es, ep, ho, hx, hdt, he, _⟩ := (show ObjOk X.prog X.w H s.heap d (.dT kvs) from hd.ok I.hok)
  have small : kvs.length ≤ sizeLine := (show ObjOk X.prog X.w H s.heap d (.dT kvs) from hd.ok I.hok).1
  have size : es.size = ks.length := size_of_entries he
  have many : kvs.length = ks.length := Paired.length pr
  refine tuple_src (kdl_raw hs hx hdt) (I.ok.hd calm) ho (by omega) fun h' tk vs kept len is => ?_
  have ev := keys_at he len is
  have I1 : Inv X pins σ H { s with heap := h', toks := tk } := I.kept kept
  have rel : Vals ((ks.map fun x => x.2.1).map V.ref) vs := by rw [ev]; exact vals_refs _
  have short : ((ks.map fun x => x.2.1).map V.ref).length ≤ sizeLine := by rw [List.length_map, List.length_map]; omega
  have I2 : Inv X pins σ (upd H h'.objs.size (.tup ((ks.map fun x => x.2.1).map V.ref))) { s with heap := h'.push { cls := .type "tuple", data := .seq vs.toArray }, toks := tk } :=
    I1.laid (t' := tk) (fun b o e => Heap.get?_push_of_some _ e) (Nat.le_refl _) (show ObjOk X.prog X.w _ _ _ (.tup _) from ⟨short, vs, rel, IsTup.new _ _⟩)
  exact ⟨.ref h'.objs.size, _, I2, rfl, q _ _ (I1.hok.fresh (Nat.le_refl _)) (isKeys_of pr)⟩
end
end Q
end
section
set_option Elab.async false
set_option linter.all false
set_option maxRecDepth 100000
namespace Q
open PySem PySem.Spec PyProof.Rows L2
/-! sum of a tuple of ints -/
section
variable {prog : Program} {w : World} {A : Around} {E : Value → Shared → Prop} {s : Shared} {l : Addr} {its : List Value} {ns : List Int} {Q : Value → Shared → Prop}
theorem sum_tup_raw (hh : A.handled = none) (hl : s.heap.IsTuple l its.toArray) (hi : IntsAre its ns)
    (h : ∀ h' tk t', (∀ b o, s.heap.get? b = some o → h'.get? b = some o) → Q (.int ns.sum t') { s with heap := h', toks := tk }) : wpAny (model prog w) A (call (.builtin "sum") [.ref l]) Q E s := by
  obtain ⟨xs, e⟩ := hi.allInts.items
  have hn : numsOf (intItems xs).toList = ns := by rw [← e]; exact hi.numsOf
  rw [nums_intItems] at hn
  rw [e] at hl
  have hlt : l < s.heap.objs.size := by obtain ⟨_, e, _⟩ := hl; exact Heap.lt_size e
  refine call_sum_walkG (wpAny_pyIter_tuple hl ?_)
  refine ⟨_, [s.heap.objs.size, l], [s.heap.objs.size], _, _, _, numAt xs, rfl, Walks.tuple (A := A.in1) hh _ l (Nat.ne_of_lt hlt) (intItems xs), ?_, ?_, (fun _ _ => intItems_at), fun h' tk t' hk => ?_⟩
  · exact ⟨⟨_, Heap.get?_push_size _ rfl, rfl, rfl⟩, hl.push _⟩
  · intro b hb
    show b < (s.heap.push _).objs.size
    rw [Heap.size_push]
    rcases List.mem_cons.mp hb with rfl | hb
    · exact Nat.lt_succ_self _
    · rcases List.mem_cons.mp hb with rfl | hb
      · exact Nat.lt_succ_of_lt hlt
      · cases hb
  · have := h h' tk t' (fun b o e => by
      refine hk b o (fun hm => ?_) (Heap.get?_push_of_some _ e)
      rcases List.mem_cons.mp hm with e1 | hm
      · exact absurd (e1 ▸ Heap.lt_size e) (Nat.lt_irrefl _)
      · cases hm)
    rw [← hn] at this
    have e2 : preSum (numAt xs) (intItems xs).size = (xs.toList.map Prod.fst).sum := by
      rw [show (intItems xs).size = xs.size by simp [intItems], preSum_eq, List.take_of_length_le (by simp)]
    rw [e2]
    exact this
end
section
variable {X : Cx}
def rSumT (K : PySem.W.Frag) : List V → Hp → VK → Prop := fun vs H Q => ∃ (a : Addr) (ns : List Int), vs = [V.ref a] ∧ SqT K H a (ns.map V.int) ∧ Q (.int ns.sum) H
theorem cr_sumT (hc : X.calm = true) : CallR X (.builtin "sum") (rSumT X.K) := by
  intro pins s σ H vs us Q I r h
  obtain ⟨a, ns, rfl, hs, q⟩ := h
  obtain ⟨its, rv, hl, _⟩ := I.tuple hs
  rw [Vals.ref1 r]
  exact sum_tup_raw (I.ok.hd hc) hl rv.ints fun h' tk t' hk => ⟨.int _, H, I.kept hk, ⟨_, rfl⟩, q⟩
end
end Q
end
section
set_option Elab.async false
set_option linter.all false
set_option maxRecDepth 100000
namespace Q
open PySem PySem.Spec PyProof.Rows L2
/-! max, min of a tuple of ints -/
section
variable {prog : Program} {w : World} {A : Around} {E : Value → Shared → Prop} {s : Shared} {l : Addr}
theorem iter_intTup {xs : Array (Int × Tok)} {Q : Value → Shared → Prop} (hl : s.heap.IsTuple l (intItems xs))
    (h : ∀ s₂ : Shared, s₂ = { s with heap := s.heap.push { cls := .type "tuple_iterator", data := .fields #[.ref l, .int 0 0] } } →
      (s₂.heap.IsTupleIter s.heap.objs.size l 0 ∧ s₂.heap.IsTuple l (intItems xs)) → (∀ b ∈ [s.heap.objs.size, l], b < s₂.heap.objs.size) → l ≠ s.heap.objs.size → Q (.ref s.heap.objs.size) s₂) :
    wpAny (model prog w) A (pyIter (.ref l)) Q E s := by
  have hlt : l < s.heap.objs.size := by obtain ⟨_, e, _⟩ := hl; exact Heap.lt_size e
  refine wpAny_pyIter_tuple hl (h _ rfl ⟨⟨_, Heap.get?_push_size _ rfl, rfl, rfl⟩, hl.push _⟩ (fun b hb => ?_) (Nat.ne_of_lt hlt))
  show b < (s.heap.push _).objs.size
  rw [Heap.size_push]
  rcases List.mem_cons.mp hb with rfl | hb
  · exact Nat.lt_succ_self _
  · rcases List.mem_cons.mp hb with rfl | hb
    · exact Nat.lt_succ_of_lt hlt
    · cases hb
theorem old_keptT {h' : Heap} (hk : ∀ b o, b ∉ [s.heap.objs.size] → (s.heap.push { cls := .type "tuple_iterator", data := .fields #[.ref l, .int 0 0] }).get? b = some o → h'.get? b = some o) :
    ∀ b o, s.heap.get? b = some o → h'.get? b = some o := fun b o e => by
  refine hk b o (fun hm => ?_) (Heap.get?_push_of_some _ e)
  rcases List.mem_cons.mp hm with e1 | hm
  · exact absurd (e1 ▸ Heap.lt_size e) (Nat.lt_irrefl _)
  · cases hm
variable {its : List Value} {ns : List Int} {Q : Value → Shared → Prop}
theorem max_tup_raw (hh : A.handled = none) (hl : s.heap.IsTuple l its.toArray) (hi : IntsAre its ns) (hne : 0 < ns.length)
    (h : ∀ h' tk M t', (∀ b o, s.heap.get? b = some o → h'.get? b = some o) → M ∈ ns → (∀ a, a ∈ ns → a ≤ M) → Q (.int M t') { s with heap := h', toks := tk }) : wpAny (model prog w) A (call (.builtin "max") [.ref l]) Q E s := by
  obtain ⟨xs, e⟩ := hi.allInts.items
  have hn : numsOf (intItems xs).toList = ns := by rw [← e]; exact hi.numsOf
  rw [nums_intItems] at hn
  subst hn
  rw [e] at hl
  have hsz : 0 < xs.size := by simpa using hne
  refine call_max_walk (iter_intTup hl fun s₂ e st hfp hlI => ?_)
  subst e
  refine ⟨_, _, _, _, _, _, _, rfl, Walks.tuple (A := A.in1) hh _ l hlI (intItems xs), st, hfp, by simpa [intItems] using hsz, CmpOf.ints_gt (numAt xs) (fun _ _ => intItems_at), fun v h' tk hP hk => ?_⟩
  have hv : (intItems xs)[argBest (fun i j => decide (numAt xs i > numAt xs j)) (xs.size - 1)]? = some v := by simpa [intItems] using hP
  obtain ⟨t, rfl⟩ := intItems_at hv
  obtain ⟨h1, h2⟩ := argBest_gt (numAt xs) (xs.size - 1)
  refine h h' tk _ t (old_keptT hk) ?_ fun a ha => ?_
  · rw [numAt_eq]; exact PySem.getD_mem (by rw [List.length_map, Array.length_toList]; omega)
  · obtain ⟨j, hj, rfl⟩ := mem_getD ha
    rw [List.length_map, Array.length_toList] at hj
    rw [← numAt_eq]; exact h2 j (by omega)
theorem min_tup_raw (hh : A.handled = none) (hl : s.heap.IsTuple l its.toArray) (hi : IntsAre its ns) (hne : 0 < ns.length)
    (h : ∀ h' tk M t', (∀ b o, s.heap.get? b = some o → h'.get? b = some o) → M ∈ ns → (∀ a, a ∈ ns → M ≤ a) → Q (.int M t') { s with heap := h', toks := tk }) : wpAny (model prog w) A (call (.builtin "min") [.ref l]) Q E s := by
  obtain ⟨xs, e⟩ := hi.allInts.items
  have hn : numsOf (intItems xs).toList = ns := by rw [← e]; exact hi.numsOf
  rw [nums_intItems] at hn
  subst hn
  rw [e] at hl
  have hsz : 0 < xs.size := by simpa using hne
  refine call_min_walk (iter_intTup hl fun s₂ e st hfp hlI => ?_)
  subst e
  refine ⟨_, _, _, _, _, _, _, rfl, Walks.tuple (A := A.in1) hh _ l hlI (intItems xs), st, hfp, by simpa [intItems] using hsz, CmpOf.ints_lt (numAt xs) (fun _ _ => intItems_at), fun v h' tk hP hk => ?_⟩
  have hv : (intItems xs)[argBest (fun i j => decide (numAt xs i < numAt xs j)) (xs.size - 1)]? = some v := by simpa [intItems] using hP
  obtain ⟨t, rfl⟩ := intItems_at hv
  obtain ⟨h1, h2⟩ := argBest_lt (numAt xs) (xs.size - 1)
  refine h h' tk _ t (old_keptT hk) ?_ fun a ha => ?_
  · rw [numAt_eq]; exact PySem.getD_mem (by rw [List.length_map, Array.length_toList]; omega)
  · obtain ⟨j, hj, rfl⟩ := mem_getD ha
    rw [List.length_map, Array.length_toList] at hj
    rw [← numAt_eq]; exact h2 j (by omega)
end
section
variable {X : Cx}
def rMaxT (K : PySem.W.Frag) : List V → Hp → VK → Prop := fun vs H Q => ∃ (a : Addr) (ns : List Int), vs = [V.ref a] ∧ SqT K H a (ns.map V.int) ∧ 0 < ns.length ∧ ∀ m, m ∈ ns → (∀ y, y ∈ ns → y ≤ m) → Q (.int m) H
def rMinT (K : PySem.W.Frag) : List V → Hp → VK → Prop := fun vs H Q => ∃ (a : Addr) (ns : List Int), vs = [V.ref a] ∧ SqT K H a (ns.map V.int) ∧ 0 < ns.length ∧ ∀ m, m ∈ ns → (∀ y, y ∈ ns → m ≤ y) → Q (.int m) H
theorem cr_maxT (hc : X.calm = true) : CallR X (.builtin "max") (rMaxT X.K) := by
  intro pins s σ H vs us Q I r h
  obtain ⟨a, ns, rfl, hs, hne, q⟩ := h
  obtain ⟨its, rv, hl, _⟩ := I.tuple hs
  rw [Vals.ref1 r]
  exact max_tup_raw (I.ok.hd hc) hl rv.ints hne fun h' tk m t' hk h1 h2 => ⟨.int _, H, I.kept hk, ⟨_, rfl⟩, q m h1 h2⟩
theorem cr_minT (hc : X.calm = true) : CallR X (.builtin "min") (rMinT X.K) := by
  intro pins s σ H vs us Q I r h
  obtain ⟨a, ns, rfl, hs, hne, q⟩ := h
  obtain ⟨its, rv, hl, _⟩ := I.tuple hs
  rw [Vals.ref1 r]
  exact min_tup_raw (I.ok.hd hc) hl rv.ints hne fun h' tk m t' hk h1 h2 => ⟨.int _, H, I.kept hk, ⟨_, rfl⟩, q m h1 h2⟩
end
end Q
end
section
set_option Elab.async false
set_option linter.all false
set_option maxRecDepth 100000
namespace Q
open PySem PySem.Spec PyProof.Rows L2
/-! lists of arguments, built-ins, slices, methods that change, new objects -/
section
variable {w : Wd} {X : Cx} {W : WX}
theorem a_nil {cf : Nat → List D → FR} : PA X [] (tAs w W (evA w.n.sg cf .nil)) := PA.weak pa_nil fun σ H Q ⟨F, S, T, A, r, q⟩ => by
  simp only [evA] at q
  exact q [] [] H A .nil r .refl
theorem a_cons {cf : Nat → List D → FR} {e : Ex} {es : Exs} {l : Expr} {ls : List Expr} (ns : notStar l = true) (h1 : PE X l (tAr w W fun S => argOf w.n.sg S e (evE w.n.sg cf e S))) (h2 : PA X ls (tAs w W (evA w.n.sg cf es))) :
    PA X (l :: ls) (tAs w W (evA w.n.sg cf (.cons e es))) := PA.weak (pa_cons h1 h2 (star_cons ns)) fun σ H Q ⟨F, S, T, A, r, q⟩ => by
  simp only [evA] at q
  refine ⟨F, S, T, A, r, q.first fun a S1 v U H1 A1 e1 hv r1 s1 q1 => ?_⟩
  refine ⟨F, S1, U ++ T, A1, r1, EV.next s1 q1 fun as S2 vs U2 H2 A2 e2 hv2 r2 s2 s2' q2 => ?_⟩
  have pp : (U2 ++ (U ++ T)).Perm ((U ++ U2) ++ T) := by
    rw [← List.append_assoc]
    exact List.perm_append_comm.append_right T
  obtain ⟨A3, q3, r3⟩ := r2.tperm pp
  exact q2 (v :: vs) (U ++ U2) H2 A3 (.cons (hv.step s2') hv2) r3 (s2.trans (step_perm q3))
theorem x_nil {cf : Nat → List D → FR} : PA X [] (tXs w W (evX w.n.sg cf .nil)) := PA.weak pa_nil fun σ H Q ⟨F, S, T, A, r, q⟩ => by
  simp only [evX] at q
  exact q [] [] H A ⟨rfl, rfl⟩ r .refl
theorem x_cons {cf : Nat → List D → FR} {e : Ex} {es : Exs} {l : Expr} {ls : List Expr} (ns : notStar l = true) (h1 : PE X l (tE w W (evE w.n.sg cf e))) (h2 : PA X ls (tXs w W (evX w.n.sg cf es))) :
    PA X (l :: ls) (tXs w W (evX w.n.sg cf (.cons e es))) := PA.weak (pa_cons h1 h2 (star_cons ns)) fun σ H Q ⟨F, S, T, A, r, q⟩ => by
  simp only [evX] at q
  refine ⟨F, S, T, A, r, q.first fun d S1 v U H1 A1 e1 hv r1 s1 q1 => ?_⟩
  have hU : U = [(d, v)] := hv
  subst hU
  refine ⟨F, S1, [(d, v)] ++ T, A1, r1, EV.next s1 q1 fun ds S2 vs U2 H2 A2 e2 hv2 r2 s2 s2' q2 => ?_⟩
  obtain ⟨hl, rfl⟩ := hv2
  have pp : (ds.zip vs ++ ([(d, v)] ++ T)).Perm (((d, v) :: ds.zip vs) ++ T) := List.perm_middle
  obtain ⟨A3, q3, r3⟩ := r2.tperm pp
  exact q2 (v :: vs) _ H2 A3 ⟨by simp [hl], by simp⟩ r3 (s2.trans (step_perm q3))
end
/-- a call rule at values -/
def CAt (w : Wd) (r : List V → Hp → VK → Prop) (ds : List D) (z : D) : Prop := ∀ (F : List Addr) (H : Hp) (vs : List V), Ms w F H ds vs → ∀ Q : VK,
  (∀ x H' B, (∀ b o, H b = some o → H' b = some o) → (∀ b ∈ B, H b = none) → B.Nodup → Mr w F H' z x B → Q x H') → r vs H Q
section
variable {w : Wd} {F : List Addr} {H : Hp}
theorem Ms.one {d : D} {vs : List V} (h : Ms w F H [d] vs) : ∃ v, vs = [v] ∧ Mx w F H d v := by cases h with | cons h t => cases t; exact ⟨_, rfl, h⟩
theorem Ms.two {d e : D} {vs : List V} (h : Ms w F H [d, e] vs) : ∃ v u, vs = [v, u] ∧ Mx w F H d v ∧ Mx w F H e u := by
  cases h with
  | cons h t =>
    obtain ⟨u, rfl, q⟩ := t.one
    exact ⟨_, _, rfl, h, q⟩
theorem Mx.litems {d : D} {xs : List D} {v : V} (h : Mx w F H d v) (e : d.litems = some xs) : ∃ p vs, v = .ref p ∧ SqL w.K H p vs ∧ Prs w.K F H xs vs := by
  cases d with
  | fls ys => cases e; obtain ⟨p, vs, a, b, c⟩ := h.fls; exact ⟨p, vs, a, b, c⟩
  | lst ys => cases e; obtain ⟨p, vs, a, b, c⟩ := h.lst; exact ⟨p, vs, a, SqL.of b, c⟩
  | lk d' =>
    cases d' with
    | lst ys => cases e; obtain ⟨p, vs, a, b, c⟩ := h.lkl; exact ⟨p, vs, a, b, c⟩
    | _ => simp [D.litems] at e
  | _ => simp [D.litems] at e
theorem ints_v {K : PySem.W.Frag} : ∀ {xs : List D} {ns : List Int} {vs : List V}, Prs K F H xs vs → intsOf xs = some ns → vs = ns.map V.int
  | _, _, _, .nil, e => by cases e; rfl
  | x :: xs, ns, _, .cons h q, e => by
    cases h <;> simp only [intsOf] at e <;> try (cases e; done)
    obtain ⟨ns', e1, e2⟩ := Option.map_eq_some_iff.mp e
    subst e2
    rw [ints_v q e1]
    rfl
theorem bools_v {K : PySem.W.Frag} : ∀ {xs : List D} {ns : List Bool} {vs : List V}, Prs K F H xs vs → boolsOf xs = some ns → vs = ns.map V.bl
  | _, _, _, .nil, e => by cases e; rfl
  | x :: xs, ns, _, .cons h q, e => by
    cases h <;> simp only [boolsOf] at e <;> try (cases e; done)
    obtain ⟨ns', e1, e2⟩ := Option.map_eq_some_iff.mp e
    subst e2
    rw [bools_v q e1]
    rfl
end
theorem maxL_ge : ∀ (l : List Int) (i : Int), i ≤ maxL i l ∧ (∀ y ∈ l, y ≤ maxL i l) ∧ (maxL i l = i ∨ maxL i l ∈ l)
  | [], i => ⟨Int.le_refl _, fun _ h => by simp at h, .inl rfl⟩
  | j :: r, i => by
    obtain ⟨a, b, c⟩ := maxL_ge r (max i j)
    unfold maxL
    refine ⟨by omega, fun y hy => ?_, ?_⟩
    · rcases List.mem_cons.mp hy with e | hy
      · subst e; omega
      · exact b y hy
    · rcases c with c | c
      · rw [c]
        by_cases h : i ≤ j
        · right; rw [show max i j = j by omega]; simp
        · left; omega
      · right; exact List.mem_cons_of_mem _ c
theorem minL_le : ∀ (l : List Int) (i : Int), minL i l ≤ i ∧ (∀ y ∈ l, minL i l ≤ y) ∧ (minL i l = i ∨ minL i l ∈ l)
  | [], i => ⟨Int.le_refl _, fun _ h => by simp at h, .inl rfl⟩
  | j :: r, i => by
    obtain ⟨a, b, c⟩ := minL_le r (min i j)
    unfold minL
    refine ⟨by omega, fun y hy => ?_, ?_⟩
    · rcases List.mem_cons.mp hy with e | hy
      · subst e; omega
      · exact b y hy
    · rcases c with c | c
      · rw [c]
        by_cases h : i ≤ j
        · left; omega
        · right; rw [show min i j = j by omega]; simp
      · right; exact List.mem_cons_of_mem _ c
def rOr (r r' : List V → Hp → VK → Prop) : List V → Hp → VK → Prop := fun x H Q => r x H Q ∨ r' x H Q
def rLenSq (K : PySem.W.Frag) : List V → Hp → VK → Prop := fun xs H Q => ∃ p ys, xs = [.ref p] ∧ (SqL K H p ys ∨ SqT K H p ys) ∧ Q (.int ys.length) H
def rLenSt : List V → Hp → VK → Prop := fun xs H Q => ∃ z, xs = [.str z] ∧ z.length ≤ sizeLine ∧ Q (.int z.length) H
def rLenDk : List V → Hp → VK → Prop := fun xs H Q => ∃ a kvs, xs = [V.ref a] ∧ H a = some (.dK kvs) ∧ Q (.int kvs.length) H
def rTupOf (K : PySem.W.Frag) : List V → Hp → VK → Prop := fun xs H Q => ∃ p ys, xs = [.ref p] ∧ ((SqL K H p ys ∧ ∀ l, H l = none → Q (.ref l) (upd H l (.tup ys))) ∨ (SqT K H p ys ∧ Q (.ref p) H))
def rLstOf (K : PySem.W.Frag) : List V → Hp → VK → Prop := fun xs H Q => ∃ p ys, xs = [.ref p] ∧ (SqL K H p ys ∨ SqT K H p ys) ∧ ∀ l, H l = none → Q (.ref l) (upd H l (.lst ys))
def rLstDt : List V → Hp → VK → Prop := fun xs H Q => ∃ d kvs, xs = [V.ref d] ∧ Rd H d (.dT kvs) ∧ ∀ p bs, H p = none → IsKeys H kvs bs → Q (.ref p) (upd H p (.lst (bs.map V.ref)))
def rMx2 : List V → Hp → VK → Prop := fun xs H Q => ∃ i j, xs = [.int i, .int j] ∧ Q (.int (if j > i then j else i)) H
def rMn2 : List V → Hp → VK → Prop := fun xs H Q => ∃ i j, xs = [.int i, .int j] ∧ Q (.int (if j < i then j else i)) H
def rAbs1 : List V → Hp → VK → Prop := fun xs H Q => ∃ i, xs = [.int i] ∧ Q (.int (if i < 0 then -i else i)) H
def rInt1 : List V → Hp → VK → Prop := fun xs H Q => (∃ i, xs = [.int i] ∧ Q (.int i) H) ∨ ∃ k, xs = [.bl k] ∧ Q (.int (if k then 1 else 0)) H
def rIntS : List V → Hp → VK → Prop := fun xs H Q => ∃ a n, xs = [.str a] ∧ PySem.intText? a = some n ∧ a.length ≤ 640 ∧ Q (.int n) H
def rStr1 : List V → Hp → VK → Prop := fun xs H Q => ∃ i, xs = [.int i] ∧ i.natAbs.log2 < 1920 ∧ Q (.str (PyData.int i).shown) H
theorem cr_str {X : Cx} : CallR X (.type "str") rStr1 := by
  intro pins s σ H xs us Q I r h
  obtain ⟨i, rfl, hz, q⟩ := h
  cases r with
  | cons ru rn =>
    cases rn
    obtain ⟨t, rfl⟩ := ru
    exact PySem.P.str_of_int hz ⟨.str (toString i), H, I.tok _, ⟨_, rfl⟩, q⟩
def rBi (K : PySem.W.Frag) : Bi → List V → Hp → VK → Prop
  | .len => rOr (rOr (rLenSq K) rLenSt) (rOr rLenDk rLenT)
  | .tuple => rOr (rTupOf K) rTupDt
  | .list => rOr (rLstOf K) (rOr rListD rLstDt)
  | .max => rOr rMx2 (rOr (rMax K) (rMaxT K))
  | .min => rOr rMn2 (rOr (rMin K) (rMinT K))
  | .abs => rAbs1
  | .sum => rOr (rSum K) (rSumT K)
  | .any => rAny K
  | .all => rAll K
  | .int => rOr rInt1 rIntS
  | .str => rStr1
  | .repr => rRepr K
theorem bi_pe {X : Cx} (hc : X.calm = true) (gd : X.A.guards = some []) (hu : X.A.units + 65 < cLine) {t : TA} {p pos : Pos} {l : Expr} {ls : List Expr} (ha : PA X (l :: ls) t) (ns : allNS (l :: ls) = true) : ∀ (b : Bi), Gl X (biN b) → X.mg (biN b) = none → PE X (.Call (.Name (biN b) p) (l :: ls) [] pos) (tCB (rBi X.K b) t) := by
  have ns' := ns
  simp only [allNS, Bool.and_eq_true] at ns'
  have s1 := star_cons (es := ls) (env := X.env) ns'.1
  have s2 := star_none (env := X.env) (pos := pos) ns'.2
  intro b hg hm
  cases b with
  | len => exact pe_callB (CallR.or (CallR.or call_len_seq call_len_str) (CallR.or call_lenD call_len_dT)) hg hm (by decide +kernel) ha (by decide) (by decide) s1 s2
  | tuple => exact pe_callTy (CallR.or call_tuple_of (cr_tuple_dT hc)) hg hm (by decide +kernel) ha (by decide) (by decide) s1 s2
  | list => exact pe_callTy (CallR.or call_list_of (CallR.or (call_list_dK hc) (call_list_dT hc))) hg hm (by decide +kernel) ha (by decide) (by decide) s1 s2
  | max => exact pe_callB (CallR.or (call_max2 hc) (CallR.or (cr_max hc) (cr_maxT hc))) hg hm (by decide +kernel) ha (by decide) (by decide) s1 s2
  | min => exact pe_callB (CallR.or (call_min2 hc) (CallR.or (cr_min hc) (cr_minT hc))) hg hm (by decide +kernel) ha (by decide) (by decide) s1 s2
  | abs => exact pe_callB call_abs hg hm (by decide +kernel) ha (by decide) (by decide) s1 s2
  | sum => exact pe_callB (CallR.or (cr_sum hc) (cr_sumT hc)) hg hm (by decide +kernel) ha (by decide) (by decide) s1 s2
  | any => exact pe_callB (cr_any hc) hg hm (by decide +kernel) ha (by decide) (by decide) s1 s2
  | all => exact pe_callB (cr_all hc) hg hm (by decide +kernel) ha (by decide) (by decide) s1 s2
  | int => exact pe_callTy (CallR.or call_int1 call_int_str) hg hm (by decide +kernel) ha (by decide) (by decide) s1 s2
  | str => exact pe_callTy cr_str hg hm (by decide +kernel) ha (by decide) (by decide) s1 s2
  | repr => exact pe_callB (cr_repr gd hu) hg hm (by decide +kernel) ha (by decide) (by decide) s1 s2
section
variable {w : Wd}
theorem ky_prs {K : PySem.W.Frag} {H : Hp} : ∀ k : List Ky, Prs K F H (k.map kyD) (k.map kV)
  | [] => .nil
  | .inl i :: r => .cons (.int i) (ky_prs r)
  | .inr s :: r => .cons (.str s) (ky_prs r)
theorem keys_prs {K : PySem.W.Frag} {H : Hp} : ∀ {kvs : List (List Key × V)} {bs : List Addr} {l : List (List Ky × D)}, IsKeys H kvs bs → kvs.map (·.1) = l.map (·.1) → Prs K F H (l.map fun kv => .tup (kv.1.map kyD)) (bs.map V.ref)
  | _, _, [], .nil, _ => .nil
  | _, _, kv :: l, .cons h t, e => by
    simp only [List.map_cons, List.cons.injEq] at e
    simp only [List.map_cons]
    refine .cons (.tup (by rw [h, e.1]) (ky_prs _)) (keys_prs t e.2)
  | _, _, _ :: _, .nil, e => by simp at e
  | _, _, [], .cons _ _, e => by simp at e
theorem keysK_prs {K : PySem.W.Frag} {H : Hp} : ∀ {kvs : List (Key × V)} {l : List (Ky × D)}, kvs.map (·.1) = l.map (·.1) → Prs K F H (l.map fun kv => kyD kv.1) (kvs.map fun kv => kV kv.1)
  | [], [], _ => .nil
  | (k, _) :: kvs, (k', _) :: l, e => by
    simp only [List.map_cons, List.cons.injEq] at e
    simp only [List.map_cons]
    rw [← e.1]
    cases k with
    | inl i => exact .cons (.int i) (keysK_prs e.2)
    | inr s => exact .cons (.str s) (keysK_prs e.2)
  | [], _ :: _, e => by simp at e
  | _ :: _, [], e => by simp at e
theorem q_pr {F : List Addr} {H : Hp} {Q : VK} {d : D} {v : V} (m : Pr w.K F H d v) (q : ∀ x H' B, (∀ b o, H b = some o → H' b = some o) → (∀ b ∈ B, H b = none) → B.Nodup → Mr w F H' d x B → Q x H') : Q v H := by
  obtain ⟨a, b, c, m⟩ := mk_pr (w := w) (F := F) m
  exact q v H [] a b c m
theorem bi_at {b : Bi} {ds : List D} {z : D} (h : opBi b ds = some z) : CAt w (rBi w.K b) ds z := by
  unfold opBi at h
  split at h
  · -- len of a text
    split at h
    · rename_i x hl
      cases h
      intro F H vs hv Q q
      obtain ⟨v, rfl, m⟩ := hv.one
      exact .inl (.inr ⟨x, by rw [m.str], lim_le hl, q_pr (.int _) q⟩)
    · cases h
  · cases h
    intro F H vs hv Q q
    obtain ⟨v, rfl, m⟩ := hv.one
    obtain ⟨B, m⟩ := m
    cases m with
    | pr m => cases m
    | dk a e c =>
      refine .inr (.inl ⟨_, _, rfl, a, ?_⟩)
      have el := congrArg List.length e
      simp only [List.length_map] at el
      rw [el]
      exact q_pr (.int _) q
  · cases h
    intro F H vs hv Q q
    obtain ⟨v, rfl, m⟩ := hv.one
    obtain ⟨B, m⟩ := m
    cases m with
    | pr m => cases m
    | dt a e c =>
      refine .inr (.inr ⟨_, _, rfl, a, ?_⟩)
      have el := congrArg List.length e
      simp only [List.length_map] at el
      rw [el]
      exact q_pr (.int _) q
  · obtain ⟨xs, ex, rfl⟩ := Option.map_eq_some_iff.mp h
    intro F H vs hv Q q
    obtain ⟨v, rfl, m⟩ := hv.one
    obtain ⟨p, us, rfl, hs, hp⟩ := m.items ex
    refine .inl (.inl ⟨p, us, rfl, hs, ?_⟩)
    rw [← hp.len]
    exact q_pr (.int _) q
  · cases h
    intro F H vs hv Q q
    obtain ⟨v, rfl, m⟩ := hv.one
    obtain ⟨p, us, rfl, hk, hp⟩ := m.ktup
    exact .inl ⟨p, us, rfl, .inr ⟨.inr hk, q_pr (.ktup hk hp) q⟩⟩
  · cases h
    intro F H vs hv Q q
    obtain ⟨v, rfl, m⟩ := hv.one
    obtain ⟨B, m⟩ := m
    cases m with
    | pr m => cases m
    | dt a e c =>
      refine .inr ⟨_, _, rfl, .inl a, fun l bs nl ik => ?_⟩
      obtain ⟨a, b, c, m⟩ := mk_tup (w := w) (F := F) nl (keys_prs (K := w.K) (H := H) ik e)
      exact q _ _ [] a b c m
  · rename_i d hnk hnd
    obtain ⟨xs, ex, rfl⟩ := Option.map_eq_some_iff.mp h
    intro F H vs hv Q q
    obtain ⟨v, rfl, m⟩ := hv.one
    have lst : ∀ p us, v = .ref p → SqL w.K H p us → Prs w.K F H xs us → rTupOf w.K [v] H Q := fun p us e1 h1 h2 => by
      subst e1
      refine ⟨p, us, rfl, .inl ⟨h1, fun l nl => ?_⟩⟩
      obtain ⟨a, b, c, m⟩ := mk_tup (w := w) (F := F) nl h2
      exact q _ _ [] a b c m
    cases d with
    | tup ys =>
      cases ex
      obtain ⟨p, us, rfl, hk, hp⟩ := m.tup
      exact .inl ⟨p, us, rfl, .inr ⟨SqT.of hk, q_pr (.tup hk hp) q⟩⟩
    | ktup ys => exact absurd rfl (hnk ys)
    | fls ys => cases ex; obtain ⟨p, us, e, hk, hp⟩ := m.fls; exact .inl (lst p us e hk hp)
    | lst ys => cases ex; obtain ⟨p, us, e, hk, hp⟩ := m.lst; exact .inl (lst p us e (SqL.of hk) hp)
    | lk d' =>
      cases d' with
      | lst ys => cases ex; obtain ⟨p, us, e, hk, hp⟩ := m.lkl; exact .inl (lst p us e hk hp)
      | _ => simp [D.items] at ex
    | _ => simp [D.items] at ex
  · cases h
    intro F H vs hv Q q
    obtain ⟨v, rfl, m⟩ := hv.one
    obtain ⟨B, m⟩ := m
    cases m with
    | pr m => cases m
    | dk a e c =>
      refine .inr (.inl ⟨_, _, rfl, a, fun l nl => ?_⟩)
      obtain ⟨a, b, c, m⟩ := mk_lst (w := w) (F := F) nl (keysK_prs (K := w.K) (H := H) e)
      exact q _ _ [l] a b c m
  · cases h
    intro F H vs hv Q q
    obtain ⟨v, rfl, m⟩ := hv.one
    obtain ⟨B, m⟩ := m
    cases m with
    | pr m => cases m
    | dt a e c =>
      refine .inr (.inr ⟨_, _, rfl, .inl a, fun l bs nl hb => ?_⟩)
      obtain ⟨a, b, c, m⟩ := mk_lst (w := w) (F := F) nl (keys_prs (K := w.K) hb e)
      exact q _ _ [l] a b c m
  · obtain ⟨xs, ex, rfl⟩ := Option.map_eq_some_iff.mp h
    intro F H vs hv Q q
    obtain ⟨v, rfl, m⟩ := hv.one
    obtain ⟨p, us, rfl, hs, hp⟩ := m.items ex
    refine .inl ⟨p, us, rfl, hs, fun l nl => ?_⟩
    obtain ⟨a, b, c, m⟩ := mk_lst (w := w) (F := F) nl hp
    exact q _ _ [l] a b c m
  · cases h
    intro F H vs hv Q q
    obtain ⟨v, u, rfl, m1, m2⟩ := hv.two
    rename_i i j
    refine .inl ⟨i, j, by rw [m1.int, m2.int], ?_⟩
    have e : (if j > i then j else i) = max i j := by split <;> omega
    rw [e]
    exact q_pr (.int _) q
  · cases h
    intro F H vs hv Q q
    obtain ⟨v, u, rfl, m1, m2⟩ := hv.two
    rename_i i j
    refine .inl ⟨i, j, by rw [m1.int, m2.int], ?_⟩
    have e : (if j < i then j else i) = min i j := by split <;> omega
    rw [e]
    exact q_pr (.int _) q
  · split at h
    · rename_i i r ei
      cases h
      intro F H vs hv Q q
      obtain ⟨v, rfl, m⟩ := hv.one
      obtain ⟨p, us, rfl, hs, hp⟩ := m.tup
      refine .inr (.inr ⟨p, i :: r, rfl, by rw [← ints_v hp ei]; exact SqT.of hs, by simp, fun m hm hy => ?_⟩)
      obtain ⟨g1, g2, g3⟩ := maxL_ge r i
      have em : m = maxL i r := by
        have h0 : maxL i r ∈ i :: r := by
          rcases g3 with g | g
          · rw [g]; simp
          · exact List.mem_cons_of_mem _ g
        have h1 := hy _ h0
        have h2 := List.mem_cons.mp hm
        rcases h2 with e | e
        · omega
        · have := g2 m e
          omega
      rw [em]
      exact q_pr (.int _) q
    · cases h
  · split at h
    · rename_i i r ei
      cases h
      intro F H vs hv Q q
      obtain ⟨v, rfl, m⟩ := hv.one
      obtain ⟨p, us, rfl, hs, hp⟩ := m.tup
      refine .inr (.inr ⟨p, i :: r, rfl, by rw [← ints_v hp ei]; exact SqT.of hs, by simp, fun m hm hy => ?_⟩)
      obtain ⟨g1, g2, g3⟩ := minL_le r i
      have em : m = minL i r := by
        have h0 : minL i r ∈ i :: r := by
          rcases g3 with g | g
          · rw [g]; simp
          · exact List.mem_cons_of_mem _ g
        have h1 := hy _ h0
        have h2 := List.mem_cons.mp hm
        rcases h2 with e | e
        · omega
        · have := g2 m e
          omega
      rw [em]
      exact q_pr (.int _) q
    · cases h
  · split at h
    · rename_i d i r e0
      cases h
      obtain ⟨xs, ex, ei⟩ := Option.bind_eq_some_iff.mp e0
      intro F H vs hv Q q
      obtain ⟨v, rfl, m⟩ := hv.one
      obtain ⟨p, us, rfl, hs, hp⟩ := m.litems ex
      refine .inr (.inl ⟨p, i :: r, rfl, by rw [← ints_v hp ei]; exact hs, by simp, fun m hm hy => ?_⟩)
      obtain ⟨g1, g2, g3⟩ := maxL_ge r i
      have em : m = maxL i r := by
        have h1 : maxL i r ≤ m := hy _ (by rcases g3 with g | g; · rw [g]; simp
                                           · exact List.mem_cons_of_mem _ g)
        have h2 : m ≤ maxL i r := by
          rcases List.mem_cons.mp hm with e | e
          · rw [e]; exact g1
          · exact g2 m e
        omega
      rw [em]
      exact q_pr (.int _) q
    · cases h
  · split at h
    · rename_i d i r e0
      cases h
      obtain ⟨xs, ex, ei⟩ := Option.bind_eq_some_iff.mp e0
      intro F H vs hv Q q
      obtain ⟨v, rfl, m⟩ := hv.one
      obtain ⟨p, us, rfl, hs, hp⟩ := m.litems ex
      refine .inr (.inl ⟨p, i :: r, rfl, by rw [← ints_v hp ei]; exact hs, by simp, fun m hm hy => ?_⟩)
      obtain ⟨g1, g2, g3⟩ := minL_le r i
      have em : m = minL i r := by
        have h1 : m ≤ minL i r := hy _ (by rcases g3 with g | g; · rw [g]; simp
                                           · exact List.mem_cons_of_mem _ g)
        have h2 : minL i r ≤ m := by
          rcases List.mem_cons.mp hm with e | e
          · rw [e]; exact g1
          · exact g2 m e
        omega
      rw [em]
      exact q_pr (.int _) q
    · cases h
  · cases h
    intro F H vs hv Q q
    obtain ⟨v, rfl, m⟩ := hv.one
    rename_i i
    refine ⟨i, by rw [m.int], ?_⟩
    have e : (if i < 0 then -i else i) = (i.natAbs : Int) := by split <;> omega
    rw [e]
    exact q_pr (.int _) q
  · obtain ⟨ns, ei, rfl⟩ := Option.map_eq_some_iff.mp h
    intro F H vs hv Q q
    obtain ⟨v, rfl, m⟩ := hv.one
    obtain ⟨p, us, rfl, hk, hp⟩ := m.tup
    exact .inr ⟨p, ns, rfl, by rw [← ints_v hp ei]; exact SqT.of hk, q_pr (.int _) q⟩
  · obtain ⟨ns, e0, rfl⟩ := Option.map_eq_some_iff.mp h
    obtain ⟨xs, ex, ei⟩ := Option.bind_eq_some_iff.mp e0
    intro F H vs hv Q q
    obtain ⟨v, rfl, m⟩ := hv.one
    obtain ⟨p, us, rfl, hs, hp⟩ := m.litems ex
    exact .inl ⟨p, ns, rfl, by rw [← ints_v hp ei]; exact hs, q_pr (.int _) q⟩
  · obtain ⟨ns, e0, rfl⟩ := Option.map_eq_some_iff.mp h
    obtain ⟨xs, ex, ei⟩ := Option.bind_eq_some_iff.mp e0
    intro F H vs hv Q q
    obtain ⟨v, rfl, m⟩ := hv.one
    obtain ⟨p, us, rfl, hs, hp⟩ := m.litems ex
    exact ⟨p, ns, rfl, by rw [← bools_v hp ei]; exact hs, q_pr (.bl _) q⟩
  · obtain ⟨ns, e0, rfl⟩ := Option.map_eq_some_iff.mp h
    obtain ⟨xs, ex, ei⟩ := Option.bind_eq_some_iff.mp e0
    intro F H vs hv Q q
    obtain ⟨v, rfl, m⟩ := hv.one
    obtain ⟨p, us, rfl, hs, hp⟩ := m.litems ex
    exact ⟨p, ns, rfl, by rw [← bools_v hp ei]; exact hs, q_pr (.bl _) q⟩
  · cases h
    intro F H vs hv Q q
    obtain ⟨v, rfl, m⟩ := hv.one
    exact .inl (.inl ⟨_, by rw [m.int], q_pr (.int _) q⟩)
  · cases h
    intro F H vs hv Q q
    obtain ⟨v, rfl, m⟩ := hv.one
    exact .inl (.inr ⟨_, by rw [m.bl], q_pr (.int _) q⟩)
  · split at h
    · rename_i x hl
      obtain ⟨i, hi, rfl⟩ := Option.map_eq_some_iff.mp h
      intro F H vs hv Q q
      obtain ⟨v, rfl, m⟩ := hv.one
      exact .inr ⟨x, i, by rw [m.str], hi, hl, q_pr (.int _) q⟩
    · cases h
  · split at h
    · rename_i i hz
      cases h
      intro F H vs hv Q q
      obtain ⟨v, rfl, m⟩ := hv.one
      exact ⟨i, by rw [m.int], hz, q_pr (.str _) q⟩
    · cases h
  · rename_i d
    split at h
    · rename_i hok
      cases h
      intro F H vs hv Q q
      obtain ⟨v, rfl, m⟩ := hv.one
      unfold showOk at hok
      simp only [Bool.and_eq_true, decide_eq_true_eq] at hok
      exact ⟨v, toP d, rfl, m.dp hok.1.1, hok.1.2, shp_nodict _ _ hok.1.1, (shp_lay _ _ hok.1.1).2, lim_le hok.2, q_pr (.str _) q⟩
    · cases h
  · cases h
end
section
variable {w : Wd} {X : Cx} {N : List Str} {sc : Scope} {W : WX} {L : Nat} {cf : Nat → List D → FR} {n : Nm}
theorem biN_mem : ∀ b : Bi, biN b ∈ ([("len" : Str), "tuple", "list", "max", "min", "abs", "sum", "any", "all", "int", "str", "isinstance", "bool", "range", "enumerate", "zip", "sorted", "repr", "set", "dict", "reversed"] : List Str) := by
  intro b
  cases b <;> simp [biN]
theorem s_bi (E : EnvOk w cf L X.prog X.w X.mg X.base) (h : XC w X N sc W L) {b : Bi} {es : Exs} {e : Expr} (hc : ckE n N sc (.bi b es) e = true) (ha : ∀ l, ckX n N sc es l = true → PA X l (tAs w W (evA w.n.sg cf es))) :
    PE X e (tE w W (evE w.n.sg cf (.bi b es))) := by
  unfold ckE at hc
  split at hc
  · rename_i x p l ls pos
    simp only [Bool.and_eq_true, decide_eq_true_eq] at hc
    obtain ⟨⟨rfl, hg⟩, hl⟩ := hc
    obtain ⟨g1, g2, g3⟩ := gl_of h hg
    refine PE.weak (bi_pe h.calm h.gd (by have := h.room.un; omega) (ha _ hl) (nsX hl) b g1 (E.bi _ (biN_mem b))) fun σ H Q ⟨F, S, T, A, r, q⟩ => ?_
    simp only [evE] at q
    refine ⟨F, S, T, A, r, q.first fun as S1 vs U H1 A1 e1 hv r1 s1 q1 => ?_⟩
    split at q1
    · rename_i ds ed
      cases ez : opBi b ds with
      | none => simp only [ez, R.of] at q1; exact q1.elim
      | some z =>
        simp only [ez, R.of] at q1
        rw [h.hK]
        exact bi_at ez F H1 vs (argsMs rfl r1 (fun _ h => h) hv ed) Q fun x H' B a b c m => q1.fresh r1 s1 a b c m
    · exact q1.elim
  · cases hc
def tyS : Ty → String
  | .int => "int" | .bool => "bool" | .str => "str" | .tuple => "tuple" | .list => "list"
/-- isinstance -/
theorem kitB_of {t : Ty} {d : D} {b : Bool} {F : List Addr} {H : Hp} {v : V} (e : isTy t d = some b) (m : Mx w F H d v) : ∃ tt, TyX w.K H v (.type tt) ∧ kitB tt (tyS t) = some b := by
  obtain ⟨B, m⟩ := m
  cases m with
  | pr m =>
    cases m with
    | non => exact ⟨"NoneType", .base .non, by cases t <;> simp only [isTy, Option.some.injEq] at e <;> subst e <;> decide +kernel⟩
    | bl x => exact ⟨"bool", .base (.bl x), by cases t <;> simp only [isTy, Option.some.injEq] at e <;> subst e <;> decide +kernel⟩
    | int x => exact ⟨"int", .base (.int x), by cases t <;> simp only [isTy, Option.some.injEq] at e <;> subst e <;> decide +kernel⟩
    | str x => exact ⟨"str", .base (.str x), by cases t <;> simp only [isTy, Option.some.injEq] at e <;> subst e <;> decide +kernel⟩
    | tup a c => exact ⟨"tuple", .base (.tup a), by cases t <;> simp only [isTy, Option.some.injEq] at e <;> subst e <;> decide +kernel⟩
    | ktup a c =>
      obtain ⟨o, its, nn, h1, h2, _⟩ := a
      exact ⟨"tuple", .kTuple h1 h2, by cases t <;> simp only [isTy, Option.some.injEq] at e <;> subst e <;> decide +kernel⟩
    | fls a c =>
      refine ⟨"list", ?_, by cases t <;> simp only [isTy, Option.some.injEq] at e <;> subst e <;> decide +kernel⟩
      rcases a with ⟨_, o, a⟩ | ⟨o, its, nn, h1, h2, _⟩
      · exact .base (.frz a)
      · exact .kList h1 h2
  | lst a c => exact ⟨"list", .base (.lst a), by cases t <;> simp only [isTy, Option.some.injEq] at e <;> subst e <;> decide +kernel⟩
  | dk a _ c => exact ⟨"dict", .base (.dK a), by cases t <;> simp only [isTy, Option.some.injEq] at e <;> subst e <;> decide +kernel⟩
  | dt a _ c => exact ⟨"dict", .base (.dT a), by cases t <;> simp only [isTy, Option.some.injEq] at e <;> subst e <;> decide +kernel⟩
  | obj _ _ _ _ _ => cases t <;> simp [isTy] at e
  | hole => cases t <;> simp [isTy] at e
  | lkl _ _ => cases t <;> simp [isTy] at e
  | lkk _ _ _ => cases t <;> simp [isTy] at e
  | lkt _ _ _ => cases t <;> simp [isTy] at e
theorem ty_boot : ∀ t : Ty, bootBuiltins (tyN t) = some (.type (tyS t)) ∧ tyN t ≠ "__name__" ∧ (tyN t == ("__debug__" : Str)) = false
  | .int => ⟨by decide +kernel, by decide, by decide⟩
  | .bool => ⟨by decide +kernel, by decide, by decide⟩
  | .str => ⟨by decide +kernel, by decide, by decide⟩
  | .tuple => ⟨by decide +kernel, by decide, by decide⟩
  | .list => ⟨by decide +kernel, by decide, by decide⟩
theorem tyN_mem : ∀ b : Ty, tyN b ∈ ([("len" : Str), "tuple", "list", "max", "min", "abs", "sum", "any", "all", "int", "str", "isinstance", "bool", "range", "enumerate", "zip", "sorted", "repr", "set", "dict", "reversed"] : List Str) := by
  intro b
  cases b <;> simp [tyN]
theorem s_isi (E : EnvOk w cf L X.prog X.w X.mg X.base) (h : XC w X N sc W L) {a : Ex} {ts : List Ty} {e : Expr} (hc : ckE n N sc (.isi a ts) e = true)
    (ha : ∀ l, ckE n N sc a l = true → PE X l (tAr w W fun S => argOf w.n.sg S a (evE w.n.sg cf a S))) : PE X e (tE w W (evE w.n.sg cf (.isi a ts))) := by
  unfold ckE at hc
  split at hc
  · rename_i x p l t pos
    simp only [Bool.and_eq_true, decide_eq_true_eq] at hc
    obtain ⟨⟨⟨⟨rfl, hg⟩, hns⟩, hl⟩, ht⟩ := hc
    obtain ⟨g1, g2, g3⟩ := gl_of h hg
    unfold ckTys at ht
    split at ht
    · rename_i _ ty
      unfold ckTy at ht
      split at ht
      · rename_i y py
        simp only [Bool.and_eq_true, decide_eq_true_eq] at ht
        obtain ⟨rfl, hgy⟩ := ht
        obtain ⟨k1, k2, k3⟩ := gl_of h hgy
        obtain ⟨b1, b2, b3⟩ := ty_boot ty
        have hm : X.mg "isinstance" = none := E.bi _ (by simp)
        have pt : PE X (.Name (tyN ty) py) (tC (.ty (tyS ty))) := pe_bltn k1 (E.bi _ (tyN_mem ty)) b1 rfl b2 b3
        refine PE.weak (pe_callB call_isi g1 hm (by decide +kernel) (pa_cons (ha l hl) (pa_cons pt pa_nil rfl) (star_cons hns)) g3 g2 (star_cons hns) rfl) fun σ H Q ⟨F, S, T, A, r, q⟩ => ?_
        simp only [evE] at q
        refine ⟨F, S, T, A, r, q.first fun x S1 v U H1 A1 e1 hv r1 s1 q1 => ?_⟩
        split at q1
        · rename_i d ed
          cases ez : isTy ty d with
          | none => simp only [isTys, ez, R.of, Option.map] at q1; exact q1.elim
          | some b =>
            simp only [isTys, ez, R.of, Option.map, Bool.or_false] at q1
            have m := argMx rfl r1 (fun _ h => h) hv ed
            obtain ⟨tt, t1, t2⟩ := kitB_of ez m
            rw [h.hK]
            refine ⟨v, .ty (tyS ty), .type tt, .type (tyS ty), b, rfl, .ty _, t1, kit_ty t2, q1.pr r1 s1 (.bl b)⟩
        · exact q1.elim
      · cases ht
    · cases ht
  · cases hc
end
end Q
end
section
set_option Elab.async false
set_option linter.all false
set_option maxRecDepth 100000
namespace Q
open PySem PySem.Spec PyProof.Rows L2
/-! slices, methods that change, new objects -/
theorem cut_prs {K : PySem.W.Frag} {H : Hp} {xs : List D} {vs : List V} (h : Prs K F H xs vs) (l u : Option Int) : Prs K F H (cutD xs l u) (cutV vs l u) := by
  have e : cutV vs l u = (vs.drop (HT.sIx xs.length 0 l)).take (HT.sIx xs.length xs.length u - HT.sIx xs.length 0 l) := by unfold cutV; rw [← h.len]
  rw [e]
  unfold cutD
  have f : ∀ (d : Nat) (o : Option Int), (match o with | none => d | some i => if i < 0 then (i + (xs.length : Int)).toNat else min i.toNat xs.length) = HT.sIx xs.length d o := by
    intro d o
    cases o <;> rfl
  simp only [f]
  exact (h.drop _).take _
def rSlc (K : PySem.W.Frag) : V → Option Int → Option Int → Hp → VK → Prop := fun x lo hi H Q => rSlA K x lo hi H Q ∨ rSlL K x lo hi H Q
theorem sl_of {X : Cx} : SlR X (rSlc X.K) := SlR.or sl_tupA sl_list
theorem cut_all {α : Type} (xs : List α) (l u : Option Int) (h : HT.sIx xs.length 0 l = 0 ∧ HT.sIx xs.length xs.length u = xs.length) : (xs.drop (HT.sIx xs.length 0 l)).take (HT.sIx xs.length xs.length u - HT.sIx xs.length 0 l) = xs := by
  rw [h.1, h.2, Nat.sub_zero, List.drop_zero, List.take_length]
theorem sl_at {w : Wd} {d z : D} {l u : Option Int} (h : opSl d l u = some z) {F : List Addr} {H : Hp} {v : V} (m : Mx w F H d v) {Q : VK}
    (q : ∀ x H' B, (∀ b o, H b = some o → H' b = some o) → (∀ b ∈ B, H b = none) → B.Nodup → Mr w F H' z x B → Q x H') : rSlc w.K v l u H Q := by
  have lst : ∀ xs p vs, z = .lst (cutD xs l u) → v = .ref p → SqL w.K H p vs → Prs w.K F H xs vs → rSlc w.K v l u H Q := fun xs p vs ez ev hs hp => by
    subst ez; subst ev
    refine .inr ⟨p, vs, rfl, hs, fun t nt => ?_⟩
    obtain ⟨a, b, c, m⟩ := mk_lst (w := w) (F := F) nt (cut_prs hp l u)
    exact q _ _ [t] a b c m
  unfold opSl at h
  split at h
  · rename_i xs
    cases h
    obtain ⟨p, vs, rfl, hk, hp⟩ := m.tup
    refine .inl ⟨p, vs, rfl, SqT.of hk, fun e => ?_, fun _ t nt => ?_⟩
    · have e1 : cutV vs l u = vs := cut_all vs l u e
      have cp := cut_prs hp l u
      rw [e1] at cp
      exact q_pr (.tup hk cp) q
    · obtain ⟨a, b, c, m⟩ := mk_tup (w := w) (F := F) nt (cut_prs hp l u)
      exact q _ _ [] a b c m
  · cases h
    obtain ⟨p, vs, e, hk, hp⟩ := m.lst
    exact lst _ p vs rfl e (SqL.of hk) hp
  · cases h
    obtain ⟨p, vs, e, hk, hp⟩ := m.fls
    exact lst _ p vs rfl e hk hp
  · cases h
    obtain ⟨p, vs, e, hk, hp⟩ := m.lkl
    exact lst _ p vs rfl e hk hp
  · cases h
def OV (_ : Wd) (_ : Hp) (_ : L2.St) (o : Option Int) (v : Option Int) (U : List (D × V)) : Prop := v = o ∧ U = []
section
variable {w : Wd} {X : Cx} {N : List Str} {sc : Scope} {W : WX} {L : Nat} {cf : Nat → List D → FR} {n : Nm}
/-- a slice's part -/
theorem po_of {ex : Ex} {y : Option Expr} (hc : (match y, ex with
        | none, .nop => true
        | some x, lo => ckE n N sc lo x
        | _, _ => false) = true) (he : ∀ l, ckE n N sc ex l = true → PE X l (tE w W (evE w.n.sg cf ex))) : PO X y (tG w W OV fun S => pOf ex (evE w.n.sg cf ex S)) := by
  cases y with
  | none =>
    cases ex <;> first | cases hc | skip
    refine ⟨fun pins s σ H Q I q => po_none.run pins s σ H Q I ?_⟩
    obtain ⟨F, S, T, A, r, q⟩ := q
    exact q none [] H A ⟨rfl, rfl⟩ r .refl
  | some x =>
    have hx : ckE n N sc ex x = true := by
      cases ex <;> first | exact hc | (simp [ckE] at hc)
    have hnop : ex ≠ .nop := by rintro rfl; simp [ckE] at hx
    refine ⟨fun pins s σ H Q I q => (po_some (he x hx)).run pins s σ H Q I ?_⟩
    obtain ⟨F, S, T, A, r, q⟩ := q
    refine ⟨F, S, T, A, r, EV.first (k := fun d S1 => match partOf ex d with | some o => R.ok o S1 | none => .no) (show EV w W OV F σ T A H Q ((evE w.n.sg cf ex S).bind _) from q) fun d S1 v U H1 A1 e1 hv r1 s1 q1 => ?_⟩
    have hU : U = [(d, v)] := hv
    subst hU
    obtain ⟨B, m, _⟩ := Rl.top r1
    obtain ⟨A2, r2, s2⟩ := r1.tdrop1
    cases d with
    | int i =>
      have ep : partOf ex (.int i) = some (some i) := by cases ex <;> first | rfl | exact absurd rfl hnop
      simp only [ep] at q1
      exact ⟨i, Mx.int ⟨B, m⟩, q1 (some i) [] H1 A2 ⟨rfl, rfl⟩ r2 (s1.trans s2)⟩
    | _ =>
      exfalso
      have ep : ∀ d', (∀ i, d' ≠ .int i) → partOf ex d' = none := by
        intro d' hd
        cases ex <;> first | exact absurd rfl hnop | (cases d' <;> first | rfl | exact absurd rfl (hd _))
      rw [ep _ (by intro i z; cases z)] at q1
      exact q1
theorem s_slc (h : XC w X N sc W L) {a lo hi : Ex} {e : Expr} (hc : ckE n N sc (.slc a lo hi) e = true)
    (ha : ∀ l, ckE n N sc a l = true → PE X l (tAr w W fun S => argOf w.n.sg S a (evE w.n.sg cf a S))) (hlo : ∀ l, ckE n N sc lo l = true → PE X l (tE w W (evE w.n.sg cf lo))) (hhi : ∀ l, ckE n N sc hi l = true → PE X l (tE w W (evE w.n.sg cf hi))) :
    PE X e (tE w W (evE w.n.sg cf (.slc a lo hi))) := by
  unfold ckE at hc
  split at hc
  · rename_i l x y p2 pos
    simp only [Bool.and_eq_true] at hc
    obtain ⟨⟨hl, hx⟩, hy⟩ := hc
    refine PE.weak (pe_slice sl_of (ha l hl) (po_of hx hlo) (po_of hy hhi)) fun σ H Q ⟨F, S, T, A, r, q⟩ => ?_
    simp only [evE] at q
    refine ⟨F, S, T, A, r, q.first fun x S1 v U H1 A1 e1 hv r1 s1 q1 => ?_⟩
    refine ⟨F, S1, U ++ T, A1, r1, EV.next s1 q1 fun lo' S2 l' U2 H2 A2 e2 hv2 r2 s2 s2' q2 => ?_⟩
    obtain ⟨rfl, rfl⟩ := hv2
    refine ⟨F, S2, U ++ T, A2, r2, EV.next s2 q2 fun hi' S3 h' U3 H3 A3 e3 hv3 r3 s3 s3' q3 => ?_⟩
    obtain ⟨rfl, rfl⟩ := hv3
    have r3 : Rl w F H3 S3 σ (U ++ T) A3 := r3
    split at q3
    · rename_i d ed
      rw [h.hK]
      cases ez : opSl d l' h' with
      | none => simp only [ez, R.of] at q3; exact q3.elim
      | some z =>
        simp only [ez, R.of] at q3
        exact sl_at ez (argMx rfl r3 (fun _ h => h) ((hv.step s2').step s3') ed) fun x H' B a b c m => q3.fresh r3 s3 a b c m
    · exact q3.elim
  · cases hc
/-! ### methods that change a list -/
theorem wrF_rd {sg : Sg} : ∀ {p : List Nat} {d x d1 : D}, wrF sg d p x = some d1 → rdF sg d1 p = some x ∧ ∀ y, wrF sg d1 p y = wrF sg d p y
  | [], d, x, d1, h => by
    simp only [wrF, Option.some.injEq] at h
    subst h
    exact ⟨rfl, fun y => rfl⟩
  | f :: r, d, x, d1, h => by
    cases d with
    | obj c fs =>
      simp only [wrF] at h
      split at h
      · rename_i j ej
        split at h
        · rename_i d0 e0
          obtain ⟨d', e', rfl⟩ := Option.map_eq_some_iff.mp h
          obtain ⟨a, b⟩ := wrF_rd e'
          have hj := (List.getElem?_eq_some_iff.mp e0).1
          have es : (fs.set j d')[j]? = some d' := List.getElem?_set_self hj
          refine ⟨by simp only [rdF, ej, es]; exact a, fun y => ?_⟩
          simp only [wrF, ej, es, e0, b, List.set_set]
        · cases h
      · cases h
    | _ => simp [wrF] at h
theorem wrF_some {sg : Sg} : ∀ {p : List Nat} {d x d1 : D} (y : D), wrF sg d p x = some d1 → ∃ d2, wrF sg d p y = some d2
  | [], d, x, d1, y, h => ⟨y, rfl⟩
  | f :: r, d, x, d1, y, h => by
    cases d with
    | obj c fs =>
      simp only [wrF] at h ⊢
      split at h
      · split at h
        · obtain ⟨d', e', rfl⟩ := Option.map_eq_some_iff.mp h
          obtain ⟨d2, e2⟩ := wrF_some y e'
          exact ⟨_, by rw [e2]; rfl⟩
        · cases h
      · cases h
    | _ => simp [wrF] at h
theorem wrS_two {S S' : Sl} {i : Nat} {p : List Nat} {x : D} (h : wrS w.n.sg S i p x = some S') : ∃ S1, wrS w.n.sg S i p .hole = some S1 ∧ rdS w.n.sg S1 i p = some .hole ∧ wrS w.n.sg S1 i p x = some S' := by
  obtain ⟨d0, d1, e0, ew, rfl⟩ := wrS_get h
  obtain ⟨d2, e2⟩ := wrF_some .hole ew
  obtain ⟨a, b⟩ := wrF_rd e2
  have hi := (List.getElem?_eq_some_iff.mp e0).1
  have es : (S.set i (some d2))[i]? = some (some d2) := List.getElem?_set_self hi
  refine ⟨S.set i (some d2), by simp only [wrS, e0, e2, Option.map], by simp only [rdS, es]; exact a, ?_⟩
  simp only [wrS, es, b, ew, Option.map, List.set_set]
/-- the value at a place changes -/
theorem Rl.changeF {F : List Addr} {H : Hp} {S S' : Sl} {σ : L2.St} {T : List (D × V)} {A : List Addr} {i : Nat} {p : List Nat} {d d' : D} {v : V} (r : Rl w F H S σ T A) (e : rdS w.n.sg S i p = some d) (hl : d.lin = true) (e1 : wrS w.n.sg S i p d' = some S') (pv : PV w H σ i p v) :
    ∃ B, Mr w F H d v B ∧ B.Nodup ∧ ∀ F' H' B', (∀ b ob u, H b = some (.frz ob u) → b ∉ F → b ∉ F') → Mr w F' H' d' v B' → B'.Nodup → (∀ q ∈ F', ∃ ob u, H' q = some (.frz ob u)) → Step B H B' H' → ∃ A', Rl w F' H' S' σ T A' ∧ Step A H A' H' := by
  obtain ⟨S1, a, b, c⟩ := wrS_two e1
  obtain ⟨u, A1, pu, r1, q1⟩ := r.takeP e a hl
  have ev := pv.inj pu
  subst ev
  obtain ⟨B, oB, k⟩ := Rl.frame2F (U := [(d, v)]) r1
  have mB : Mr w F H d v B := by
    cases oB.ml with
    | cons m t =>
      cases t
      rw [List.append_nil]
      exact m
  refine ⟨B, mB, oB.nd, fun F' H' B' g m nd fr st => ?_⟩
  have m2 : Ml w F' H' [(d', v)] B' := by
    have := Ml.cons m (.nil (w := w) (F := F') (H := H'))
    rwa [List.append_nil] at this
  obtain ⟨A2, r2, s2⟩ := k F' H' [(d', v)] B' g ⟨m2, nd, fr⟩ st
  obtain ⟨A3, r3, q3⟩ := Rl.putP r2 b c (pv.step ((step_perm q1).trans s2))
  exact ⟨A3, r3, ((step_perm q1).trans s2).trans (step_perm q3)⟩
theorem Rl.change {F : List Addr} {H : Hp} {S S' : Sl} {σ : L2.St} {T : List (D × V)} {A : List Addr} {i : Nat} {p : List Nat} {d d' : D} {v : V} (r : Rl w F H S σ T A) (e : rdS w.n.sg S i p = some d) (hl : d.lin = true) (e1 : wrS w.n.sg S i p d' = some S') (pv : PV w H σ i p v) :
    ∃ B, Mr w F H d v B ∧ B.Nodup ∧ ∀ H' B', Mr w F H' d' v B' → B'.Nodup → (∀ q ∈ F, ∃ ob u, H' q = some (.frz ob u)) → Step B H B' H' → ∃ A', Rl w F H' S' σ T A' ∧ Step A H A' H' :=
  let ⟨B, m, n, k⟩ := r.changeF e hl e1 pv
  ⟨B, m, n, fun H' B' m' n' fr st => k F H' B' (fun _ _ _ _ z => z) m' n' fr st⟩
theorem Rl.fl {F : List Addr} {H : Hp} {S : Sl} {σ : L2.St} {T : List (D × V)} {A : List Addr} (r : Rl w F H S σ T A) : ∀ q ∈ F, ∃ ob u, H q = some (.frz ob u) := let ⟨_, _, o⟩ := r; o.fr
/-- one object is replaced, of a kind that may change -/
theorem step_upd {H : Hp} {p : Addr} {o u : HO} (h : H p = some o) (ho : ∀ vs, o ≠ .tup vs) (hi : ∀ C dx ws, o ≠ .ins C dx ws) (hu : ∀ vs, u ≠ .tup vs) (hf : ∀ ob x, o ≠ .frz ob x) : Step [p] H [p] (upd H p u) where
  keep := fun b x e hb => by rw [upd_ne (fun z => hb (by simp [z]))]; exact e
  new := fun b hb => .inl hb
  there := fun b x e => by
    by_cases hb : b = p
    · subst hb; exact ⟨u, upd_same⟩
    · exact ⟨x, by rw [upd_ne hb]; exact e⟩
  stab := fun b C dx ws e => by
    by_cases hb : b = p
    · subst hb; rw [h] at e; exact absurd (Option.some.inj e) (hi C dx ws)
    · exact ⟨ws, by rw [upd_ne hb]; exact e, fun _ _ l _ => l⟩
  nt := fun a ⟨x, e, q⟩ => by
    by_cases hb : a = p
    · subst hb; exact ⟨u, upd_same, hu⟩
    · exact ⟨x, by rw [upd_ne hb]; exact e, q⟩
  frz := fun b ob x e => by
    by_cases hb : b = p
    · subst hb; rw [h] at e; exact absurd (Option.some.inj e) (hf ob x)
    · rw [upd_ne hb]; exact e
theorem prs_upd {K : PySem.W.Frag} {F : List Addr} {H : Hp} {p : Addr} {o u : HO} (h : H p = some o) (ho : ∀ vs, o ≠ .tup vs) (hf : ∀ ob x, o ≠ .frz ob x) {xs : List D} {vs : List V} (q : Prs K F H xs vs) : Prs K F (upd H p u) xs vs := by
  refine Prs.keep (fun b x e z => ?_) xs vs q
  by_cases hb : b = p
  · subst hb
    rw [h] at e
    cases e
    rcases z with ⟨_, ob, x, z⟩ | ⟨vs, z⟩
    · exact absurd z (hf ob x)
    · exact absurd z (ho _)
  · rw [upd_ne hb]; exact e
theorem prs_lock {K : PySem.W.Frag} {F : List Addr} {H : Hp} {p : Addr} {o u : HO} (h : H p = some o) (ho : ∀ vs, o ≠ .tup vs) (hf : ∀ ob x, o ≠ .frz ob x) {xs : List D} {vs : List V} (q : Prs K F H xs vs) : Prs K (p :: F) (upd H p u) xs vs := by
  refine Prs.keepF (fun b x e z => ?_) xs vs q
  by_cases hb : b = p
  · subst hb
    rw [h] at e
    cases e
    rcases z with ⟨_, ob, x, z⟩ | ⟨vs, z⟩
    · exact absurd z (hf ob x)
    · exact absurd z (ho _)
  · exact ⟨fun n => .inl fun m => (List.mem_cons.mp m).elim hb n, by rw [upd_ne hb]; exact e⟩
theorem fr_lock {F : List Addr} {H : Hp} {p : Addr} {o u : HO} {ob : Obj} (fr : ∀ q ∈ F, ∃ ob u, H q = some (.frz ob u)) (h : H p = some o) (hf : ∀ ob x, o ≠ .frz ob x) : ∀ q ∈ p :: F, ∃ ob2 x, upd H p (.frz ob u) q = some (.frz ob2 x) := fun q hq => by
  by_cases e : q = p
  · exact ⟨ob, u, by rw [e]; exact upd_same⟩
  · obtain ⟨ob2, x, e2⟩ := fr q ((List.mem_cons.mp hq).resolve_left e)
    exact ⟨ob2, x, by rw [upd_ne e]; exact e2⟩
theorem pr_upd {K : PySem.W.Frag} {F : List Addr} {H : Hp} {p : Addr} {o u : HO} (h : H p = some o) (ho : ∀ vs, o ≠ .tup vs) (hf : ∀ ob x, o ≠ .frz ob x) {x : D} {v : V} (q : Pr K F H x v) : Pr K F (upd H p u) x v := by
  have := prs_upd (u := u) h ho hf (.cons q .nil)
  cases this with
  | cons a _ => exact a
theorem fr_upd {F : List Addr} {H : Hp} {p : Addr} {o u : HO} (fr : ∀ q ∈ F, ∃ ob u, H q = some (.frz ob u)) (h : H p = some o) (hf : ∀ ob x, o ≠ .frz ob x) : ∀ q ∈ F, ∃ ob x, upd H p u q = some (.frz ob x) := fun q hq => by
  obtain ⟨ob, x, e⟩ := fr q hq
  have ne : q ≠ p := fun z => by subst z; rw [h] at e; exact hf ob x (Option.some.inj e)
  exact ⟨ob, x, by rw [upd_ne ne]; exact e⟩
def muId : Mu → String
  | .append => "list.append" | .extend => "list.extend" | .pop => "list.pop"
def rMu : Mu → V → List V → Hp → VK → Prop
  | .append => rAppend
  | .extend => rExtend
  | .pop => rPop
theorem mu_at {m : Mu} {F : List Addr} {H : Hp} {S S' : Sl} {σ : L2.St} {T : List (D × V)} {A : List Addr} {i : Nat} {p : List Nat} {d d' z : D} {v : V} {ds : List D} {vs : List V} {Q : VK} (h : opMu m d ds = some (d', z)) (r : Rl w F H S σ T A) (e : rdS w.n.sg S i p = some d)
    (e1 : wrS w.n.sg S i p d' = some S') (pv : PV w H σ i p v) (hm : Ms w F H ds vs) (q : ∀ x H' A', Pr w.K F H' z x → Rl w F H' S' σ T A' → Step A H A' H' → Q x H') : rMu m v vs H Q := by
  unfold opMu at h
  split at h
  · -- append
    rename_i xs x
    split at h
    · rename_i hp
      simp only [Bool.and_eq_true, decide_eq_true_eq] at hp
      cases h
      obtain ⟨u, rfl, mx⟩ := hm.one
      obtain ⟨B, m, nd, k⟩ := r.change e rfl e1 pv
      cases m with
      | pr m => cases m
      | @lst pp _ vs h1 q1 =>
        have px : Pr w.K F H x u := by obtain ⟨Bx, mx⟩ := mx; exact (mx.ofPure hp.1).1
        have t1 : ∀ ws, HO.lst vs ≠ .tup ws := by intro ws z; cases z
        refine ⟨pp, vs, u, rfl, rfl, h1, by rw [← q1.len]; exact lim_lt hp.2, ?_⟩
        obtain ⟨u2, B2, pu2, m2, sb⟩ := r.readP e rfl
        have e3 := pv.inj pu2
        have ppA : pp ∈ A := by
          subst e3
          cases m2 with
          | pr m2 => cases m2
          | lst _ _ => exact sb _ (by simp)
        have t2 : ∀ ob x, HO.lst vs ≠ .frz ob x := by intro ob x z; cases z
        obtain ⟨A', r', s'⟩ := k (upd H pp (.lst (vs ++ [u]))) [pp] (.lst upd_same ((prs_upd h1 t1 t2 q1).app (.cons (pr_upd h1 t1 t2 px) .nil))) (by simp) (fr_upd r.fl h1 t2) (step_upd h1 t1 (by intro _ _ _ z; cases z) (by intro _ z; cases z) (by intro _ _ z; cases z))
        exact q .non _ A' .non r' s'
    · cases h
  · -- extend
    rename_i xs ys
    split at h
    · rename_i hp
      cases h
      obtain ⟨u, rfl, mx⟩ := hm.one
      obtain ⟨B, m, nd, k⟩ := r.change e rfl e1 pv
      cases m with
      | pr m => cases m
      | @lst pp _ vs h1 q1 =>
        obtain ⟨b, us, rfl, h2, q2⟩ := mx.lst
        have t1 : ∀ ws, HO.lst vs ≠ .tup ws := by intro ws z; cases z
        refine ⟨pp, b, vs, us, rfl, rfl, h1, h2, by rw [← q1.len, ← q2.len]; exact lim_le hp, ?_⟩
        obtain ⟨u2, B2, pu2, m2, sb⟩ := r.readP e rfl
        have e3 := pv.inj pu2
        have ppA : pp ∈ A := by
          subst e3
          cases m2 with
          | pr m2 => cases m2
          | lst _ _ => exact sb _ (by simp)
        have t2 : ∀ ob x, HO.lst vs ≠ .frz ob x := by intro ob x z; cases z
        obtain ⟨A', r', s'⟩ := k (upd H pp (.lst (vs ++ us))) [pp] (.lst upd_same ((prs_upd h1 t1 t2 q1).app (prs_upd h1 t1 t2 q2))) (by simp) (fr_upd r.fl h1 t2) (step_upd h1 t1 (by intro _ _ _ z; cases z) (by intro _ z; cases z) (by intro _ _ z; cases z))
        exact q .non _ A' .non r' s'
    · cases h
  · -- pop
    rename_i xs
    split at h
    · rename_i x ex
      cases h
      cases hm
      obtain ⟨B, m, nd, k⟩ := r.change e rfl e1 pv
      cases m with
      | pr m => cases m
      | @lst pp _ vs h1 q1 =>
        have t1 : ∀ ws, HO.lst vs ≠ .tup ws := by intro ws z; cases z
        rw [List.getLast?_eq_getElem?] at ex
        obtain ⟨y, ey, py⟩ := q1.at ex
        refine ⟨pp, vs, y, rfl, rfl, h1, by rw [← q1.len]; exact ey, ?_⟩
        obtain ⟨u2, B2, pu2, m2, sb⟩ := r.readP e rfl
        have e3 := pv.inj pu2
        have ppA : pp ∈ A := by
          subst e3
          cases m2 with
          | pr m2 => cases m2
          | lst _ _ => exact sb _ (by simp)
        have t2 : ∀ ob x, HO.lst vs ≠ .frz ob x := by intro ob x z; cases z
        have qd : Prs w.K F H xs.dropLast vs.dropLast := by rw [List.dropLast_eq_take, List.dropLast_eq_take, ← q1.len]; exact q1.take _
        obtain ⟨A', r', s'⟩ := k (upd H pp (.lst vs.dropLast)) [pp] (.lst upd_same (prs_upd h1 t1 t2 qd)) (by simp) (fr_upd r.fl h1 t2) (step_upd h1 t1 (by intro _ _ _ z; cases z) (by intro _ z; cases z) (by intro _ _ z; cases z))
        exact q y _ A' (pr_upd h1 t1 t2 py) r' s'
    · cases h
  · cases h
theorem mu_pe {o : Expr} {to : TE} {t : TA} {es : List Expr} {apos cpos : Pos} (m : Mu) (ho : PE X o to) (ha : PA X es t) (ns : allNS es = true) (hl : es.length < 30) (hbase : attributeBase o (muN m) X.env (eval o X.env) = eval o X.env) (hline : (apos.endLine == cpos.line) = true) :
    PE X (.Call (.Attribute o (muN m) apos) es [] cpos) (fun σ H Q => (es = [] → tBM0 X.K "list" (rMu m) to σ H Q) ∧ (es ≠ [] → tBM X.K "list" (rMu m) to t σ H Q)) := by
  cases es with
  | nil =>
    have g : PE X (.Call (.Attribute o (muN m) apos) [] [] cpos) (tBM0 X.K "list" (rMu m) to) := by
      cases m with
      | append => exact pe_bm0 PySem.F.plainAttrs_list PySem.F.slot_list_append PySem.F.type_list_append mt_append ho hbase hline
      | extend => exact pe_bm0 PySem.F.plainAttrs_list PySem.F.slot_list_extend PySem.F.type_list_extend mt_extend ho hbase hline
      | pop => exact pe_bm0 PySem.F.plainAttrs_list PySem.F.slot_list_pop PySem.F.type_list_pop mt_pop ho hbase hline
    exact PE.weak g fun σ H Q q => q.1 rfl
  | cons e es =>
    have ns' := ns
    simp only [allNS, Bool.and_eq_true] at ns'
    have s1 := star_cons (es := es) (env := X.env) ns'.1
    have s2 := star_none (env := X.env) (pos := cpos) ns'.2
    have hf : ((backTo cpos (starEach (e :: es) X.env)).all (fun x => !x.1) && (backToKw cpos (keywordEach [] X.env)).all (fun x => x.1.isSome)
      && decide ((e :: es).length + ([] : List Keyword).length + (if ([] : List Keyword).isEmpty then 0 else 1) < 30)) = true := by
      rw [star_all ns]
      have : decide ((e :: es).length + ([] : List Keyword).length + (if ([] : List Keyword).isEmpty then 0 else 1) < 30) = true := decide_eq_true hl
      rw [this]
      rfl
    have g : PE X (.Call (.Attribute o (muN m) apos) (e :: es) [] cpos) (tBM X.K "list" (rMu m) to t) := by
      cases m with
      | append => exact pe_bm PySem.F.plainAttrs_list PySem.F.slot_list_append PySem.F.type_list_append mt_append ho ha hbase hf hline s1 s2
      | extend => exact pe_bm PySem.F.plainAttrs_list PySem.F.slot_list_extend PySem.F.type_list_extend mt_extend ho ha hbase hf hline s1 s2
      | pop => exact pe_bm PySem.F.plainAttrs_list PySem.F.slot_list_pop PySem.F.type_list_pop mt_pop ho ha hbase hf hline s1 s2
    exact PE.weak g fun σ H Q q => q.2 (by simp)
theorem s_mut (h : XC w X N sc W L) {m : Mu} {o : Ex} {es : Exs} {e : Expr} (hc : ckE n N sc (.mut m o es) e = true)
    (ho : ∀ l, ckE n N sc o l = true → PE X l (tAr w W fun S => argOf w.n.sg S o (evE w.n.sg cf o S))) (ha : ∀ l, ckX n N sc es l = true → PA X l (tAs w W (evA w.n.sg cf es))) :
    PE X e (tE w W (evE w.n.sg cf (.mut m o es))) := by
  unfold ckE at hc
  split at hc
  · rename_i r0 mm ap l cp
    simp only [Bool.and_eq_true, decide_eq_true_eq] at hc
    obtain ⟨⟨⟨⟨⟨rfl, hline⟩, hlen⟩, hpath⟩, hr0⟩, hl⟩ := hc
    refine PE.weak (mu_pe m (ho r0 hr0) (ha l hl) (nsX hl) hlen (path_base hpath hr0) hline) fun σ H Q ⟨F, S, T, A, r, q⟩ => ?_
    simp only [evE] at q
    rw [h.hK]
    -- the end: the list is changed
    have fin : ∀ {S1 S2 : Sl} {x : Arg} {v : V} {U U2 : List (D × V)} {as : List Arg} {vs : List V} {H2 : Hp} {A2 : List Addr}, Rl w F H2 S2 σ (U2 ++ (U ++ T)) A2 → ArV w H2 σ x v U → AsV w H2 σ as vs U2 → Step A H A2 H2 →
        EV w W DV F σ T A H Q (match argDs w.n.sg S2 as with | some ds => mutU w.n.sg m x ds S2 | none => .no) → rMu m v vs H2 Q := fun {S1 S2 x v U U2 as vs H2 A2} r2 hv hv2 s2 q2 => by
      split at q2
      · rename_i ds ed
        unfold mutU at q2
        split at q2
        · rename_i i p
          cases hv with
          | pl pv =>
            split at q2
            · rename_i d er
              split at q2
              · rename_i d' z eo
                split at q2
                · rename_i S' ew
                  have ms := argsMs rfl r2 (fun x h => h) hv2 ed
                  refine mu_at eo r2 er ew pv ms fun y H' A' py r' s' => ?_
                  have r3 : Rl w F H' S' σ (U2 ++ T) A' := by rw [List.nil_append] at r'; exact r'
                  exact q2.pr r3 (s2.trans s') py
                · exact q2.elim
              · exact q2.elim
            · exact q2.elim
        · exact q2.elim
      · exact q2.elim
    have recv : ∀ {S1 : Sl} {x : Arg} {v : V} {U : List (D × V)} {H1 : Hp} {A1 : List Addr} {xs : List D}, Rl w F H1 S1 σ (U ++ T) A1 → ArV w H1 σ x v U → argD w.n.sg S1 x = some (.lst xs) → tyV w.K "list" v H1 := fun {S1 x v U H1 A1 xs} r1 hv ed => by
      obtain ⟨p, vs, rfl, hk, _⟩ := (argMx rfl r1 (fun _ h => h) hv ed).lst
      exact .inl ⟨rfl, vs, SqL.of hk⟩
    constructor
    · intro e0
      subst e0
      cases es with
      | cons _ _ => simp [ckX] at hl
      | nil =>
        refine ⟨F, S, T, A, r, q.first fun x S1 v U H1 A1 e1 hv r1 s1 q1 => ?_⟩
        split at q1
        · rename_i xs ed
          refine ⟨recv r1 hv ed, ?_⟩
          simp only [evA, R.bind] at q1
          exact fin (S1 := S1) (U2 := []) (as := []) r1 hv .nil s1 q1
        · exact q1.elim
    · intro _
      refine ⟨F, S, T, A, r, q.first fun x S1 v U H1 A1 e1 hv r1 s1 q1 => ?_⟩
      split at q1
      · rename_i xs ed
        refine ⟨recv r1 hv ed, F, S1, U ++ T, A1, r1, EV.next s1 q1 fun as S2 vs U2 H2 A2 e2 hv2 r2 s2 s2' q2 => ?_⟩
        exact fin (S1 := S1) r2 (hv.step s2') hv2 s2 q2
      · exact q1.elim
  · cases hc
/-- a new object -/
theorem s_new (hn : n = w.n) (E : EnvOk w cf L X.prog X.w X.mg X.base) (h : XC w X N sc W L) {c f : Nat} {es : Exs} {e : Expr} (hc : ckE n N sc (.new c f es) e = true) (ha : ∀ l, ckX n N sc es l = true → PA X l (tXs w W (evX w.n.sg cf es))) :
    PE X e (tE w W (evE w.n.sg cf (.new c f es))) := by
  unfold ckE at hc
  split at hc
  · rename_i x p l pos
    simp only [Bool.and_eq_true, decide_eq_true_eq] at hc
    obtain ⟨⟨⟨rfl, hk⟩, hg⟩, hl⟩ := hc
    obtain ⟨g1, g2, g3⟩ := gl_of h hg
    subst hn
    obtain ⟨C, a, fd, ps, hC, m1, m2, m3, m4⟩ := E.mak f c hk
    have m4' : FnG X.prog X.w X.K X.mg X.base (L2.CX X.prog X.w) L a fd ps (spF w (cf f)) := by rw [h.hK]; exact m4
    have m3' : Binds X.K fd ps [] := by rw [h.hK]; exact m3
    have m2' : Mk X.K C a := by rw [h.hK]; exact m2
    have fin : ∀ {F : List Addr} {σ : L2.St} {T : List (D × V)} {A A1 : List Addr} {H H1 : Hp} {S1 : Sl} {Q : VK} {ds : List D} {vs : List V}, ds.length = vs.length → Rl w F H1 S1 σ (ds.zip vs ++ T) A1 → Step A H A1 H1 → EV w W DV F σ T A H Q (newU cf c f ds S1) →
        ∀ x dx, H1 x = none → H1 dx = none → dx ≠ x → spF w (cf f) (.ref x :: vs) (upd (upd H1 dx (.own x)) x (.ins C dx [])) (fun v H2 => v = .non ∧ Q (.ref x) H2) (WE W σ) := fun {F σ T A A1 H H1 S1 Q ds vs} el r1 s1 q1 x dx nx ndx nd => by
      have ex : ∀ b o, H1 b = some o → upd (upd H1 dx (.own x)) x (.ins C dx []) b = some o := fun b o e => by rw [upd_ne (ne_of_none e nx), upd_ne (ne_of_none e ndx)]; exact e
      have mo : Mr w F (upd (upd H1 dx (.own x)) x (.ins C dx [])) (.obj c []) (.ref x) [x] := by
        have := Mr.obj (w := w) (F := F) (H := upd (upd H1 dx (.own x)) x (.ins C dx [])) (p := x) (C := C) (dx := dx) (c := c) (fs := []) (ws := []) (A := []) upd_same hC (by simp) rfl .nil
        exact this
      obtain ⟨A2, r2, s2⟩ := r1.push ex (B := [x]) (fun b hb => by rw [List.mem_singleton.mp hb]; exact nx) (by simp) mo
      have r2' : Rl w F (upd (upd H1 dx (.own x)) x (.ins C dx [])) S1 σ (((D.obj c [], V.ref x) :: ds.zip vs) ++ T) A2 := r2
      obtain ⟨B, oB, k⟩ := r2'.frame2
      refine ⟨F, (.obj c [], .ref x) :: ds.zip vs, B, by simp [List.map_snd_zip (show vs.length ≤ ds.length by omega)], oB, ?_⟩
      have em : ((D.obj c [], V.ref x) :: ds.zip vs).map (·.1) = .obj c [] :: ds := by simp [List.map_fst_zip (show ds.length ≤ vs.length by omega)]
      rw [em]
      unfold newU at q1
      split
      · rename_i d ps' ec
        simp only [ec] at q1
        intro v H' L' A' lv ow st
        obtain ⟨A3, r3, s3⟩ := k H' _ A' ow st
        split at q1
        · rename_i d' ps2 h1
          cases h1
          simp only [List.map_cons] at lv
          cases lv with
          | @so _ _ L'' _ _ lv =>
            have hv : v = .non := by
              cases ow.ml with
              | cons m _ => exact Mx.non ⟨_, m⟩
            refine ⟨hv, ?_⟩
            have pp : (((D.non, v) :: (d', V.ref x) :: L'') ++ T).Perm (((D.non, v) :: L'') ++ ((d', V.ref x) :: T)) := by
              refine List.Perm.cons _ ?_
              exact List.perm_middle.symm
            obtain ⟨A4, q4, r4⟩ := r3.tperm pp
            obtain ⟨A5, r5, s5⟩ := r4.tdrop
            exact q1 (.ref x) _ H' A5 rfl r5 (((s1.trans s2).trans s3).trans ((step_perm q4).trans s5))
        · rename_i h1; cases h1
        · exact q1.elim
      · rename_i c' ps' ec
        simp only [ec] at q1
        intro C' H' L' A' hC' lv ow st
        obtain ⟨A3, r3, s3⟩ := k H' _ A' ow st
        obtain ⟨A4, r4, s4⟩ := r3.tdrop
        exact q1 C' H' A4 hC' r4 (((s1.trans s2).trans s3).trans s4)
      · rename_i ec
        simp only [ec] at q1
        exact q1
    cases l with
    | nil =>
      cases es with
      | cons _ _ => simp [ckX] at hl
      | nil =>
        refine PE.weak (pe_make0S (E := WE W) m2' m4' h.gd h.room g1 m1 m3' (fun σ => passAt h.tk σ) g2) fun σ H Q ⟨F, S, T, A, r, q⟩ => ?_
        simp only [evE, evX, R.bind] at q
        exact fin (ds := []) (vs := []) rfl r .refl q
    | cons l0 ls =>
      refine PE.weak (pe_makeS (E := WE W) m2' m4' h.gd h.room g1 m1 m3' (fun σ => passAt h.tk σ) (ha _ hl) (nsX hl) g2) fun σ H Q ⟨F, S, T, A, r, q⟩ => ?_
      simp only [evE] at q
      refine ⟨F, S, T, A, r, q.first fun ds S1 vs U H1 A1 e1 hv r1 s1 q1 => ?_⟩
      obtain ⟨el, rfl⟩ := hv
      exact fin el r1 s1 q1
  · cases hc
end
end Q
end
section
set_option Elab.async false
set_option linter.all false
set_option maxRecDepth 100000
/-! a walk over zip(list, tuple) -/
namespace QZ
open PySem PySem.Spec PyProof.Rows L2 RZ
/-- the list at a and the tuple at b as they stand at each turn, the items in new pairs -/
def ItzM (K : PySem.W.Frag) (a b : Addr) : It :=
  ⟨fun i H => ∃ (xs ys : List V) (x y : V), SqL K H a xs ∧ SqT K H b ys ∧ xs[i]? = some x ∧ ys[i]? = some y,
    fun i H v H' => ∃ T x y, v = .ref T ∧ H T = none ∧ H' = upd H T (.tup [x, y]) ∧ (∀ xs, SqL K H a xs → xs[i]? = some x) ∧ ∀ ys, SqT K H b ys → ys[i]? = some y,
    fun i H => ∃ xs ys : List V, SqL K H a xs ∧ SqT K H b ys ∧ (xs.length ≤ i ∨ ys.length ≤ i)⟩
section
variable {prog : Program} {w : World} {A : Around}
/-- an iterator that has come to its end -/
theorem dendL (hh : A.handled = none) (it l : Addr) (items : Array Value) (i0 : Nat) (h0 : items[i0]? = none) : Draws prog w A it [it, l] i0 (fun _ _ => False) (fun k h => k = i0 ∧ h.IsListIter it l i0 ∧ h.IsList l items) where
  live := fun i h st => let ⟨_, ⟨o, e, _⟩, _⟩ := st; ⟨o, e⟩
  frame := fun i h h' ⟨a, b, c⟩ k => ⟨a, b.at fun o e => k it (by simp) o e, c.at fun o e => k l (by simp) o e⟩
  item := fun i s Q E hi st _ => absurd hi (by rw [st.1]; exact Nat.lt_irrefl _)
  done := fun s Q E st hE => wpAny_nextOf_list_end hh st.2.1 st.2.2 h0 fun h' e x1 x2 => hE h' e x1 x2
theorem dendT (hh : A.handled = none) (it l : Addr) (items : Array Value) (i0 : Nat) (h0 : items[i0]? = none) : Draws prog w A it [it, l] i0 (fun _ _ => False) (fun k h => k = i0 ∧ h.IsTupleIter it l i0 ∧ h.IsTuple l items) where
  live := fun i h st => let ⟨_, ⟨o, e, _⟩, _⟩ := st; ⟨o, e⟩
  frame := fun i h h' ⟨a, b, c⟩ k => ⟨a, b.at fun o e => k it (by simp) o e, c.at fun o e => k l (by simp) o e⟩
  item := fun i s Q E hi st _ => absurd hi (by rw [st.1]; exact Nat.lt_irrefl _)
  done := fun s Q E st hE => nextOf_tuple_end hh st.2.1 st.2.2 h0 fun h' e x1 x2 => hE h' e x1 x2
end
theorem turn_zipM {P : Program} {w : World} {K : PySem.W.Frag} {elts : List Expr} {kk : Nat} {tpos : Pos} {a b z TI TO i1 i2 : Addr} (S : ZipSep2 z TI TO i1 i2 [i1, a] [i2, b]) :
    Turn P w K (.Tuple elts kk tpos) (ItzM K a b) [z, TI, TO, i1, i2] z (fun i h => IsZip h z TI TO .none ∧ IsTupOf2 h TI (.ref i1) (.ref i2) ∧ (∃ x y, IsTupOf2 h TO x y) ∧ h.IsListIter i1 a i ∧ h.IsTupleIter i2 b i) where
  mem := by simp
  obj := fun i h st c hc => by
    obtain ⟨hz, hTI, ⟨x, y, hTO⟩, ⟨o1, e1, _, d1⟩, o2, e2, _, d2⟩ := st
    simp only [List.mem_cons, List.not_mem_nil, or_false] at hc
    rcases hc with q | q | q | q | q <;> subst q
    · exact ⟨_, hz, fun v q => nomatch q⟩
    · exact ⟨_, hTI, fun v q => nomatch q⟩
    · exact ⟨_, hTO, fun v q => nomatch q⟩
    · exact ⟨o1, e1, fun v q => by rw [d1] at q; cases q⟩
    · exact ⟨o2, e2, fun v q => by rw [d2] at q; cases q⟩
  keep := fun i h h' st k => by
    obtain ⟨hz, hTI, ⟨x, y, hTO⟩, h1, h2⟩ := st
    exact ⟨k z (by simp) _ hz, k TI (by simp) _ hTI, ⟨x, y, k TO (by simp) _ hTO⟩, h1.at fun o q => k i1 (by simp) o q, h2.at fun o q => k i2 (by simp) o q⟩
  item := by
    intro X hP hw hK hc i pins s σ H E I hf st hg
    subst hP hw hK
    obtain ⟨hz, hTI, ⟨x0, y0, hTO⟩, h1, h2⟩ := st
    obtain ⟨xs, ys, x, y, hqx, hqy, hx, hy⟩ := hg
    obtain ⟨its, rv, p, _⟩ := I.list hqx
    obtain ⟨its2, rv2, p2, _⟩ := I.tuple hqy
    obtain ⟨u, hu, ru⟩ := rv.get hx
    obtain ⟨u2, hu2, ru2⟩ := rv2.get hy
    have hh := I.ok.hd hc
    have ai1 : a ≠ i1 := fun q => by
      obtain ⟨o1, e1, c1, _⟩ := h1
      obtain ⟨o2, e2, c2, _⟩ := p.isList
      rw [q] at e2
      rw [e1] at e2
      cases e2
      rw [c1] at c2
      exact absurd c2 (by decide)
    have bi2 : b ≠ i2 := fun q => by
      obtain ⟨o1, e1, c1, _⟩ := h2
      obtain ⟨o2, e2, c2, _⟩ := id p2
      rw [q] at e2
      rw [e1] at e2
      cases e2
      rw [c1] at c2
      exact absurd c2 (by decide)
    have D1 := Draws.list (prog := X.prog) (w := X.w) (A := X.A.in1) hh i1 a ai1 its.toArray
    have D2 := Draws.tuple (prog := X.prog) (w := X.w) (A := X.A.in1) hh i2 b bi2 its2.toArray
    have hi1 : i < its.length := (List.getElem?_eq_some_iff.mp hu).1
    have hi2 : i < its2.length := (List.getElem?_eq_some_iff.mp hu2).1
    have hzl : z < s.heap.objs.size := Heap.lt_size hz
    refine wpAny_pyNext_zipD2_item S D1 D2 hz hTI hTO (i := i) ⟨h1, p.isList⟩ ⟨h2, p2⟩ (by simpa using hi1) (by simpa using hi2) fun v1 v2 h' tk e1 e2 z' TO' st1 st2 hT hsz hk => ?_
    rw [List.getElem?_toArray, hu] at e1
    rw [List.getElem?_toArray, hu2] at e2
    cases e1
    cases e2
    refine ⟨_, rfl, wpAny_letOwnedTupleGo_zip (s := { s with heap := h', toks := tk }) z' fun h'' z'' sb => ?_⟩
    have far : ∀ c o, c ≠ z → h'.get? c = some o → h''.get? c = some o := fun c o n e => (sb.2 c n).trans e
    have hT2 := far _ _ (Nat.ne_of_gt hzl) hT
    have new : ObjOk X.prog X.w (upd H s.heap.objs.size (.tup [x, y])) h'' s.heap.objs.size (.tup [x, y]) :=
      ⟨by show 2 ≤ sizeLine; decide, [u, u2], .cons ru (.cons ru2 .nil), ⟨_, hT2, rfl, _, rfl⟩⟩
    have I1 : Inv X pins σ (upd H s.heap.objs.size (.tup [x, y])) { s with heap := h'', toks := tk } :=
      I.turnedNew (t' := tk) (ch := [z, TI, TO, i1, i2]) (fun c o hb q => by
        simp only [List.mem_cons, List.not_mem_nil, or_false, not_or] at hb
        exact far c o hb.1 (hk c o hb.1 hb.2.2.1 hb.2.2.2.1 hb.2.2.2.2 q)) hf (Nat.le_refl _) new
    refine ⟨.ref s.heap.objs.size, _, I1, rfl, ⟨_, x, y, rfl, I.hok.fresh (Nat.le_refl _), rfl, fun l hl => by rw [I.list_inj hl hqx]; exact hx, fun l hl => by rw [I.tuple_inj hl hqy]; exact hy⟩, ⟨z'', ?_, ⟨u, u2, ?_⟩, ?_, ?_⟩, fun c hcm => ?_⟩
    · exact far _ _ S.TIz (hk _ _ S.TIz S.TITO S.TIi1 S.TIi2 hTI)
    · exact far _ _ S.TOz TO'
    · exact st1.1.at fun o q => far _ o S.zi1.symm q
    · exact st2.1.at fun o q => far _ o S.zi2.symm q
    · have hlt : c < s.heap.objs.size := by
        simp only [List.mem_cons, List.not_mem_nil, or_false] at hcm
        rcases hcm with q | q | q | q | q <;> subst q
        · exact hzl
        · exact Heap.lt_size hTI
        · exact Heap.lt_size hTO
        · obtain ⟨_, e1, _⟩ := h1; exact Heap.lt_size e1
        · obtain ⟨_, e2, _⟩ := h2; exact Heap.lt_size e2
      rw [upd_ne (Nat.ne_of_lt hlt)]
      exact (hf c hcm).1
  done := by
    intro X hP hw hK hc i pins s σ H E I hf st hg
    subst hP hw hK
    obtain ⟨hz, hTI, ⟨x0, y0, hTO⟩, h1, h2⟩ := st
    obtain ⟨xs, ys, hqx, hqy, hend⟩ := hg
    obtain ⟨its, rv, p, _⟩ := I.list hqx
    obtain ⟨its2, rv2, p2, _⟩ := I.tuple hqy
    have hh := I.ok.hd hc
    have l1 := rv.length
    have l2 := rv2.length
    have fin : ∀ (h' : Heap) (tk : Nat), (∀ c o, c ≠ z → c ≠ TO → c ≠ i1 → c ≠ i2 → s.heap.get? c = some o → h'.get? c = some o) → Inv X pins σ H { s with heap := h', toks := tk } := fun h' tk hk =>
      I.turnedL (t' := tk) (ch := [z, TI, TO, i1, i2]) (fun c o hb q => by
        simp only [List.mem_cons, List.not_mem_nil, or_false, not_or] at hb
        exact hk c o hb.1 hb.2.2.1 hb.2.2.2.1 hb.2.2.2.2 q) hf
    have ai1 : a ≠ i1 := fun q => by
      obtain ⟨o1, e1, c1, _⟩ := h1
      obtain ⟨o2, e2, c2, _⟩ := p.isList
      rw [q, e1] at e2
      cases e2
      rw [c1] at c2
      exact absurd c2 (by decide)
    have bi2 : b ≠ i2 := fun q => by
      obtain ⟨o1, e1, c1, _⟩ := h2
      obtain ⟨o2, e2, c2, _⟩ := id p2
      rw [q, e1] at e2
      cases e2
      rw [c1] at c2
      exact absurd c2 (by decide)
    by_cases q1 : its.length ≤ i
    · have D1 := dendL (prog := X.prog) (w := X.w) (A := X.A.in1) hh i1 a its.toArray i (by simpa using q1)
      by_cases q2 : its2.length ≤ i
      · have D2 := dendT (prog := X.prog) (w := X.w) (A := X.A.in1) hh i2 b its2.toArray i (by simpa using q2)
        exact wpAny_pyNext_zipD2_end S D1 D2 hz hTI hTO (i := i) ⟨rfl, h1, p.isList⟩ ⟨rfl, h2, p2⟩ (Nat.le_refl _) (Nat.le_refl _) (.inl rfl) fun h' tk hk => ⟨rfl, fin h' tk hk⟩
      · have D2 := Draws.tuple (prog := X.prog) (w := X.w) (A := X.A.in1) hh i2 b bi2 its2.toArray
        exact wpAny_pyNext_zipD2_end S D1 D2 hz hTI hTO (i := i) ⟨rfl, h1, p.isList⟩ ⟨h2, p2⟩ (Nat.le_refl _) (by simp; omega) (.inl rfl) fun h' tk hk => ⟨rfl, fin h' tk hk⟩
    · have D1 := Draws.list (prog := X.prog) (w := X.w) (A := X.A.in1) hh i1 a ai1 its.toArray
      have q2 : its2.length ≤ i := by rcases hend with q | q <;> omega
      have D2 := dendT (prog := X.prog) (w := X.w) (A := X.A.in1) hh i2 b its2.toArray i (by simpa using q2)
      exact wpAny_pyNext_zipD2_end S D1 D2 hz hTI hTO (i := i) ⟨h1, p.isList⟩ ⟨rfl, h2, p2⟩ (by simp; omega) (Nat.le_refl _) (.inr rfl) fun h' tk hk => ⟨rfl, fin h' tk hk⟩
  self := fun A i s Q E st h => wpAny_pyIter_zip st.1 h
/-- zip of lists, of tuples, of a list and a tuple -/
def iZipX (K : PySem.W.Frag) (ta : TA) : TI := fun σ H R => ta σ H fun vs H1 => ∃ a b xs ys, vs = [.ref a, .ref b] ∧ SqL K H1 a xs ∧ SqT K H1 b ys ∧ R (ItzM K a b) H1
theorem pi_zipM {X : Cx} {e e2 : Expr} {ta : TA} {p pos tpos : Pos} {elts : List Expr} {kk : Nat} (hg : Gl X "zip") (hm : X.mg "zip" = none) (ha : PA X [e, e2] ta)
    (hs : starEach [e, e2] X.env = (false, eval e X.env) :: starEach [e2] X.env) (hpl : (backTo pos (starEach [e2] X.env)).any (·.1) = false) :
    PI X (.Tuple elts kk tpos) (.Call (.Name "zip" p) [e, e2] [] pos) (iZipX X.K ta) := by
  refine ⟨fun pins s σ H R I h => ?_⟩
  refine Call_ (ld_blt I hg hm PyProof.Rows.boot_zip (PyProof.Rows.callWith_type1 (thn (ha.run pos pins s σ H _ I h) fun us s1 ⟨vs, H1, I1, r1, a, b, xs, ys, ex, hqx, hqy, q⟩ => ?_) hs hpl))
  subst ex
  cases r1 with
  | cons r rr =>
    cases rr with
    | cons r' rr =>
      cases rr
      cases r
      cases r'
      obtain ⟨its, rv, p1, _⟩ := I1.list hqx
      obtain ⟨its2, rv2, p2, _⟩ := I1.tuple hqy
      obtain ⟨o1, ho1, _⟩ := p1.isList
      obtain ⟨o2, ho2, _⟩ := id p2
      refine zip_begins2 (begins_list a its.toArray) (begins_tuple b its2.toArray) p1.isList p2 fun h' hz hTI hTO h1 h2 hsz hk => wpAny_pyIter_zip hz ?_
      have I2 : Inv X pins σ H1 { s1 with heap := h' } := I1.kept (t' := s1.toks) hk
      have fresh : ∀ c, c ∈ [s1.heap.objs.size + 4, s1.heap.objs.size + 2, s1.heap.objs.size + 3, s1.heap.objs.size, s1.heap.objs.size + 1] → FpOk X pins H1 c := fun c hcm => by
        have hle : s1.heap.objs.size ≤ c := by
          simp only [List.mem_cons, List.not_mem_nil, or_false] at hcm
          rcases hcm with q | q | q | q | q <;> subst q
          · exact Nat.le_add_right _ _
          · exact Nat.le_add_right _ _
          · exact Nat.le_add_right _ _
          · exact Nat.le_refl _
          · exact Nat.le_add_right _ _
        exact I1.fpOk hle (I1.hok.fresh hle)
      have S : ZipSep2 (s1.heap.objs.size + 4) (s1.heap.objs.size + 2) (s1.heap.objs.size + 3) s1.heap.objs.size (s1.heap.objs.size + 1) [s1.heap.objs.size, a] [s1.heap.objs.size + 1, b] :=
        zip_sep2 (fun c hc => by rw [List.mem_singleton.mp hc]; exact Heap.lt_size ho1) (fun c hc => by rw [List.mem_singleton.mp hc]; exact Heap.lt_size ho2)
      exact ⟨s1.heap.objs.size + 4, [s1.heap.objs.size + 4, s1.heap.objs.size + 2, s1.heap.objs.size + 3, s1.heap.objs.size, s1.heap.objs.size + 1], _, _, H1, rfl, I2, turn_zipM S, ⟨hz, hTI, ⟨_, _, hTO⟩, ⟨_, h1, rfl, rfl⟩, ⟨_, h2, rfl, rfl⟩⟩, fresh, q⟩
end QZ
end
section
set_option Elab.async false
set_option linter.all false
set_option maxRecDepth 100000
namespace Q
open PySem PySem.Spec PyProof.Rows L2
/-! what is walked -/
theorem PI.weak {X : Cx} {tg e : Expr} {a b : TI} (h : PI X tg e a) (k : ∀ σ H R, b σ H R → a σ H R) : PI X tg e b := ⟨fun pins s σ H R I q => h.run pins s σ H R I (k σ H R q)⟩
theorem PI.or {X : Cx} {tg e : Expr} {a b : TI} (h : PI X tg e a) (g : PI X tg e b) : PI X tg e (fun σ H R => a σ H R ∨ b σ H R) := ⟨fun pins s σ H R I q => q.elim (h.run pins s σ H R I) (g.run pins s σ H R I)⟩
/-- the walk J gives xs wherever ds stand as they did -/
def WkJ (w : Wd) (F : List Addr) (H1 : Hp) (J : It) (ds : List D) (vs : List V) (xs : List D) : Prop := ∀ H, Ms w F H ds vs → (∀ b ob u, H1 b = some (.frz ob u) → H b = some (.frz ob u)) →
  (∀ i x, xs[i]? = some x → J.go i H ∧ ∀ v H', J.yld i H v H' → (∀ b o, H b = some o → H' b = some o) ∧ Pr w.K F H' x v) ∧ ∀ i, xs.length ≤ i → J.stop i H
/-- a dict may be walked that is locked alone -/
def walkOk : List D → Bool
  | [.dk _] => false
  | [.dt _] => false
  | _ => true
section
variable {w : Wd} {F : List Addr} {H1 : Hp}
theorem wk_list {d : D} {xs : List D} {p : Addr} (e : d.litems = some xs) : WkJ w F H1 (Itl w.K p) [d] [.ref p] xs := fun H m _ => by
  obtain ⟨v, ev, mv⟩ := m.one
  cases ev
  obtain ⟨p', vs, ep, hq, hp⟩ := mv.litems e
  cases ep
  refine ⟨fun i x hx => ?_, fun i hi => ⟨vs, hq, by rw [← hp.len]; exact hi⟩⟩
  obtain ⟨v, hv, pv⟩ := hp.at hx
  refine ⟨⟨vs, v, hq, hv⟩, fun v' H' ⟨eH, k⟩ => ?_⟩
  subst eH
  have := k vs hq
  rw [hv] at this; cases this
  exact ⟨fun _ _ h => h, pv⟩
theorem SqT.ofItems {d : D} {xs : List D} {v : V} {H : Hp} (h : Mx w F H d v) (e : d.items = some xs) (e2 : d.litems = none) : ∃ p vs, v = .ref p ∧ SqT w.K H p vs ∧ Prs w.K F H xs vs := by
  cases d with
  | tup ys => cases e; obtain ⟨p, vs, a, b, c⟩ := h.tup; exact ⟨p, vs, a, SqT.of b, c⟩
  | ktup ys => cases e; obtain ⟨p, vs, a, b, c⟩ := h.ktup; exact ⟨p, vs, a, .inr b, c⟩
  | fls ys => cases e2
  | lst ys => cases e2
  | lk d' =>
    cases d' with
    | lst ys => cases e2
    | _ => simp [D.items] at e
  | _ => simp [D.items] at e
theorem wk_tup {d : D} {xs : List D} {p : Addr} (e : d.items = some xs) (e2 : d.litems = none) : WkJ w F H1 (Itt w.K p) [d] [.ref p] xs := fun H m _ => by
  obtain ⟨v, ev, mv⟩ := m.one
  cases ev
  obtain ⟨p', vs, ep, hq, hp⟩ := SqT.ofItems mv e e2
  cases ep
  refine ⟨fun i x hx => ?_, fun i hi => ⟨vs, hq, by rw [← hp.len]; exact hi⟩⟩
  obtain ⟨v, hv, pv⟩ := hp.at hx
  refine ⟨⟨vs, v, hq, hv⟩, fun v' H' ⟨eH, k⟩ => ?_⟩
  subst eH
  have := k vs hq
  rw [hv] at this; cases this
  exact ⟨fun _ _ h => h, pv⟩
theorem wk_keys {kvs : List (Ky × D)} {ws : List (Key × V)} {p : Addr} {o : Obj} (h1 : H1 p = some (.frz o (.dK ws))) (ek : ws.map (·.1) = kvs.map (·.1)) : WkJ w F H1 (Itk p o ws) [.lk (.dk kvs)] [.ref p] (kvs.map fun kv => kyD kv.1) := fun H m k => by
  have hl : ws.length = kvs.length := by have := congrArg List.length ek; simpa using this
  refine ⟨fun i x hx => ?_, fun i hi => ⟨k _ _ _ h1, by rw [hl]; simpa using hi⟩⟩
  rw [List.getElem?_map] at hx
  obtain ⟨kv, e1, rfl⟩ := Option.map_eq_some_iff.mp hx
  have hi : i < kvs.length := (List.getElem?_eq_some_iff.mp e1).1
  refine ⟨⟨k _ _ _ h1, by rw [hl]; exact hi⟩, fun v H' ⟨eH, ky, v0, e2, ev⟩ => ?_⟩
  subst eH; subst ev
  refine ⟨fun _ _ h => h, ?_⟩
  have e3 : (ws.map (·.1))[i]? = some ky := by rw [List.getElem?_map, e2]; rfl
  rw [ek, List.getElem?_map, e1] at e3
  have e4 : kv.1 = ky := by simpa using e3
  rw [← e4]
  cases kv.1 with
  | inl j => exact .int j
  | inr j => exact .str j
theorem kyPr {K : PySem.W.Frag} {F : List Addr} {H : Hp} : ∀ ks : List Ky, Prs K F H (ks.map kyD) (ks.map kV)
  | [] => .nil
  | .inl i :: ks => .cons (.int i) (kyPr ks)
  | .inr i :: ks => .cons (.str i) (kyPr ks)
theorem wk_keysT {kvs : List (List Ky × D)} {ws : List (List Key × V)} {p : Addr} {o : Obj} (h1 : H1 p = some (.frz o (.dT ws))) (ek : ws.map (·.1) = kvs.map (·.1)) : WkJ w F H1 (Itkt p o ws) [.lk (.dt kvs)] [.ref p] (kvs.map fun kv => .tup (kv.1.map kyD)) := fun H m k => by
  have hl : ws.length = kvs.length := by have := congrArg List.length ek; simpa using this
  refine ⟨fun i x hx => ?_, fun i hi => ⟨k _ _ _ h1, by rw [hl]; simpa using hi⟩⟩
  rw [List.getElem?_map] at hx
  obtain ⟨kv, e1, rfl⟩ := Option.map_eq_some_iff.mp hx
  have hi : i < kvs.length := (List.getElem?_eq_some_iff.mp e1).1
  refine ⟨⟨k _ _ _ h1, by rw [hl]; exact hi⟩, fun v H' ⟨eH, ky, v0, q, e2, ev, hq⟩ => ?_⟩
  subst eH; subst ev
  refine ⟨fun _ _ h => h, ?_⟩
  have e3 : (ws.map (·.1))[i]? = some ky := by rw [List.getElem?_map, e2]; rfl
  rw [ek, List.getElem?_map, e1] at e3
  have e4 : kv.1 = ky := by simpa using e3
  rw [← e4] at hq
  exact .tup hq (kyPr _)
theorem wk_str {x : Str} : WkJ w F H1 (Its x) [.str x] [.str x] (x.cps.toList.map fun c => .str ⟨#[c]⟩) := fun H m k => by
  refine ⟨fun i d hx => ?_, fun i hi => by simpa [Its] using hi⟩
  rw [List.getElem?_map] at hx
  obtain ⟨c, e1, rfl⟩ := Option.map_eq_some_iff.mp hx
  rw [Array.getElem?_toList] at e1
  refine ⟨(Array.getElem?_eq_some_iff.mp e1).1, fun v H' ⟨eH, c', e2, ev⟩ => ?_⟩
  subst eH; subst ev
  rw [e1] at e2; cases e2
  exact ⟨fun _ _ h => h, .str _⟩
theorem wk_rng {lo c : Int} {m : Nat} {J : It} {ds : List D} {vs : List V} (hg : ∀ i H, J.go i H ↔ i < m) (hs : ∀ i H, J.stop i H ↔ m ≤ i) (hy : ∀ i H x H', J.yld i H x H' → H' = H ∧ x = .int (lo + (i : Nat) * c)) :
    WkJ w F H1 J ds vs ((List.range m).map fun k => .int (lo + (k : Nat) * c)) := fun H _ _ => by
  refine ⟨fun i d hx => ?_, fun i hi => (hs i H).mpr (by simpa using hi)⟩
  rw [List.getElem?_map] at hx
  obtain ⟨k, e1, rfl⟩ := Option.map_eq_some_iff.mp hx
  obtain ⟨hi, e2⟩ := List.getElem?_eq_some_iff.mp e1
  rw [List.length_range] at hi
  rw [List.getElem_range] at e2
  subst e2
  refine ⟨(hg i H).mpr hi, fun v H' q => ?_⟩
  obtain ⟨rfl, rfl⟩ := hy i H v H' q
  exact ⟨fun _ _ h => h, .int _⟩
theorem enum_at : ∀ {xs : List D} {k i : Nat} {x : D}, (enumL k xs)[i]? = some x → ∃ y, xs[i]? = some y ∧ x = .tup [.int (k + i : Nat), y]
  | [], k, i, x, h => by simp [enumL] at h
  | y :: xs, k, 0, x, h => by
    simp only [enumL, List.getElem?_cons_zero, Option.some.injEq] at h
    exact ⟨y, rfl, h.symm⟩
  | y :: xs, k, i + 1, x, h => by
    simp only [enumL, List.getElem?_cons_succ] at h
    obtain ⟨z, a, b⟩ := enum_at h
    exact ⟨z, by simpa using a, by rw [b]; congr 4; omega⟩
theorem enum_len : ∀ (xs : List D) (k : Nat), (enumL k xs).length = xs.length
  | [], _ => rfl
  | _ :: xs, k => by simp [enumL, enum_len xs]
theorem litems_items {d : D} {xs : List D} (h : d.litems = some xs) : d.items = some xs := by
  cases d with
  | fls zs => exact h
  | lst zs => exact h
  | lk d' =>
    cases d' with
    | lst zs => exact h
    | _ => simp [D.litems] at h
  | _ => simp [D.litems] at h
/-- a new pair -/
theorem pr_pair {H : Hp} {T : Addr} {x y : D} {u v : V} (n : H T = none) (px : Pr w.K F H x u) (py : Pr w.K F H y v) : (∀ b o, H b = some o → upd H T (.tup [u, v]) b = some o) ∧ Pr w.K F (upd H T (.tup [u, v])) (.tup [x, y]) (.ref T) := by
  have e : ∀ b o, H b = some o → upd H T (.tup [u, v]) b = some o := fun b o h => by rw [upd_ne (ne_of_none h n)]; exact h
  exact ⟨e, .tup upd_same (.cons (px.keepE e) (.cons (py.keepE e) .nil))⟩
theorem wk_enum {d : D} {xs : List D} {p : Addr} (e : d.litems = some xs) : WkJ w F H1 (Ite w.K p) [d] [.ref p] (enumL 0 xs) := fun H m _ => by
  obtain ⟨v, ev, mv⟩ := m.one
  cases ev
  obtain ⟨p', vs, ep, hq, hp⟩ := mv.litems e
  cases ep
  refine ⟨fun i x hx => ?_, fun i hi => ⟨vs, hq, by rw [← hp.len]; rwa [enum_len] at hi⟩⟩
  obtain ⟨y, hy, rfl⟩ := enum_at hx
  obtain ⟨v, hv, pv⟩ := hp.at hy
  refine ⟨⟨vs, v, hq, hv⟩, fun v' H' ⟨T, x', ev, n, eH, k⟩ => ?_⟩
  subst eH; subst ev
  have := k vs hq
  rw [hv] at this; cases this
  have e0 : (0 + i : Nat) = i := Nat.zero_add i
  rw [e0]
  exact pr_pair n (.int _) pv
theorem wk_zip {d e : D} {xs ys : List D} {p q : Addr} (ed : d.litems = some xs) (ee : e.litems = some ys) : WkJ w F H1 (Itz w.K p q) [d, e] [.ref p, .ref q] ((xs.zip ys).map fun p => .tup [p.1, p.2]) := fun H m _ => by
  obtain ⟨v, u, ev, mv, mu⟩ := m.two
  cases ev
  obtain ⟨p', vs, ep, hq, hp⟩ := mv.litems ed
  cases ep
  obtain ⟨q', us, eq, hq2, hp2⟩ := mu.litems ee
  cases eq
  refine ⟨fun i x hx => ?_, fun i hi => ⟨vs, us, hq, hq2, ?_⟩⟩
  · rw [List.getElem?_map] at hx
    obtain ⟨z, e1, rfl⟩ := Option.map_eq_some_iff.mp hx
    obtain ⟨a, b⟩ := z
    rw [List.getElem?_zip_eq_some] at e1
    obtain ⟨v, hv, pv⟩ := hp.at e1.1
    obtain ⟨u, hu, pu⟩ := hp2.at e1.2
    refine ⟨⟨vs, us, v, u, hq, hq2, hv, hu⟩, fun v' H' ⟨T, x', y', ev, n, eH, k1, k2⟩ => ?_⟩
    subst eH; subst ev
    have h1 := k1 vs hq
    rw [hv] at h1; cases h1
    have h2 := k2 us hq2
    rw [hu] at h2; cases h2
    exact pr_pair n pv pu
  · rw [List.length_map, List.length_zip] at hi
    rw [← hp.len, ← hp2.len]
    omega
theorem wk_zipT {d e : D} {xs ys : List D} {p q : Addr} (ed : d.items = some xs) (ee : e.items = some ys) (ed2 : d.litems = none) (ee2 : e.litems = none) : WkJ w F H1 (RZ.ItzT w.K p q) [d, e] [.ref p, .ref q] ((xs.zip ys).map fun p => .tup [p.1, p.2]) := fun H m _ => by
  obtain ⟨v, u, ev, mv, mu⟩ := m.two
  cases ev
  obtain ⟨p', vs, ep, hq, hp⟩ := SqT.ofItems mv ed ed2
  cases ep
  obtain ⟨q', us, eq, hq2, hp2⟩ := SqT.ofItems mu ee ee2
  cases eq
  refine ⟨fun i x hx => ?_, fun i hi => ⟨vs, us, hq, hq2, ?_⟩⟩
  · rw [List.getElem?_map] at hx
    obtain ⟨z, e1, rfl⟩ := Option.map_eq_some_iff.mp hx
    obtain ⟨a, b⟩ := z
    rw [List.getElem?_zip_eq_some] at e1
    obtain ⟨v, hv, pv⟩ := hp.at e1.1
    obtain ⟨u, hu, pu⟩ := hp2.at e1.2
    refine ⟨⟨vs, us, v, u, hq, hq2, hv, hu⟩, fun v' H' ⟨T, x', y', ev, n, eH, k1, k2⟩ => ?_⟩
    subst eH; subst ev
    have h1 := k1 vs hq
    rw [hv] at h1; cases h1
    have h2 := k2 us hq2
    rw [hu] at h2; cases h2
    exact pr_pair n pv pu
  · rw [List.length_map, List.length_zip] at hi
    rw [← hp.len, ← hp2.len]
    omega
end
section
variable {w : Wd} {X : Cx} {N : List Str} {sc : Scope} {W : WX} {L : Nat} {cf : Nat → List D → FR} {n : Nm} {tg : Expr}
def tI (w : Wd) (W : WX) (k : IK) (ev : Sl → R (List Arg)) : TI := fun σ H R => ∃ F S T A, Rl w F H S σ T A ∧ match ev S with
  | .ok as S1 => ∃ ds xs, argDs w.n.sg S1 as = some ds ∧ itemsOf k ds = some xs ∧ walkOk ds = true ∧ ∀ vs U H1 A1, AsV w H1 σ as vs U → Rl w F H1 S1 σ (U ++ T) A1 → Step A H A1 H1 → ∀ J, WkJ w F H1 J ds vs xs → R J H1
  | .er c S1 => ∀ C H' A', w.ecl c = some C → Rl w F H' S1 σ T A' → Step A H A' H' → W C none σ H'
  | .no => False
/-- a list, tuple, str or locked dict -/
theorem i_seq (h : XC w X N sc W L) {e : Ex} {l : Expr} (he : PE X l (tAr w W fun S => argOf w.n.sg S e (evE w.n.sg cf e S))) : PI X tg l (tI w W .seq (evA w.n.sg cf (.cons e .nil))) := by
  refine PI.weak (PI.or (pi_list he) (PI.or (pi_tup he) (PI.or (pi_str he) (pi_keys he)))) fun σ H RR ⟨F, S, T, A, r, q⟩ => ?_
  rw [h.hK]
  simp only [evA] at q
  cases ea : argOf w.n.sg S e (evE w.n.sg cf e S) with
  | no => simp only [ea, R.bind] at q
  | er c S1 =>
    simp only [ea, R.bind] at q
    exact .inl ⟨F, S, T, A, r, by show EV _ _ _ _ _ _ _ _ _ (argOf w.n.sg S e (evE w.n.sg cf e S)); rw [ea]; exact q⟩
  | ok a S1 =>
    simp only [ea, R.bind] at q
    obtain ⟨ds, xs, e1, e2, e3, q⟩ := q
    have e1' := e1
    unfold argDs at e1'
    split at e1'
    · rename_i d ds' ed ed'
      simp only [argDs, Option.some.injEq] at ed'
      subst ed'
      cases e1'
      have go : ∀ (P : V → Hp → Prop), (∀ v H1, Mx w F H1 d v → (∀ J, WkJ w F H1 J [d] [v] xs → RR J H1) → P v H1) → (tAr w W fun S => argOf w.n.sg S e (evE w.n.sg cf e S)) σ H P := fun P hP => by
        refine ⟨F, S, T, A, r, ?_⟩
        show EV _ _ _ _ _ _ _ _ _ (argOf w.n.sg S e (evE w.n.sg cf e S))
        rw [ea]
        intro v U H1 A1 av r1 s1
        refine hP v H1 (argMx rfl r1 (fun _ h => h) av ed) fun J hJ => ?_
        have av' : AsV w H1 σ [a] [v] (U ++ []) := .cons av .nil
        rw [List.append_nil] at av'
        exact q [v] U H1 A1 av' r1 s1 J hJ
      by_cases hl : d.litems.isSome
      · obtain ⟨ys, ey⟩ := Option.isSome_iff_exists.mp hl
        have ex : xs = ys := by
          cases d with
          | fls zs => simp [D.litems] at ey; simp [itemsOf, D.items] at e2; rw [← e2, ey]
          | lst zs => simp [D.litems] at ey; simp [itemsOf, D.items] at e2; rw [← e2, ey]
          | lk d' =>
            cases d' with
            | lst zs => simp [D.litems] at ey; simp [itemsOf, D.items] at e2; rw [← e2, ey]
            | _ => simp [D.litems] at ey
          | _ => simp [D.litems] at ey
        subst ex
        refine .inl (go _ fun v H1 m k => ?_)
        obtain ⟨p, vs, rfl, hq, hp⟩ := m.litems ey
        exact ⟨p, rfl, ⟨vs, hq⟩, k _ (wk_list ey)⟩
      · have hn : d.litems = none := by simpa using hl
        cases d with
        | str x =>
          simp only [itemsOf] at e2
          split at e2
          · cases e2
            refine .inr (.inr (.inl (go _ fun v H1 m k => ?_)))
            have := m.str
            subst this
            exact ⟨x, rfl, k _ wk_str⟩
          · cases e2
        | tup zs =>
          refine .inr (.inl (go _ fun v H1 m k => ?_))
          obtain ⟨p, vs, rfl, hq, hp⟩ := SqT.ofItems (xs := zs) m rfl rfl
          exact ⟨p, rfl, ⟨vs, hq⟩, k _ (wk_tup (by simpa [itemsOf] using e2) rfl)⟩
        | ktup zs =>
          refine .inr (.inl (go _ fun v H1 m k => ?_))
          obtain ⟨p, vs, rfl, hq, hp⟩ := SqT.ofItems (xs := zs) m rfl rfl
          exact ⟨p, rfl, ⟨vs, hq⟩, k _ (wk_tup (by simpa [itemsOf] using e2) rfl)⟩
        | dk kvs => simp [walkOk] at e3
        | dt kvs => simp [walkOk] at e3
        | lk d' =>
          cases d' with
          | dk kvs =>
            simp only [itemsOf, Option.some.injEq] at e2
            subst e2
            refine .inr (.inr (.inr (go _ fun v H1 m k => ?_)))
            obtain ⟨B, m⟩ := m
            cases m with
            | pr m => cases m
            | lkk a b c => exact ⟨_, _, rfl, .inl ⟨_, a, k _ (wk_keys a b)⟩⟩
          | dt kvs =>
            simp only [itemsOf, Option.some.injEq] at e2
            subst e2
            refine .inr (.inr (.inr (go _ fun v H1 m k => ?_)))
            obtain ⟨B, m⟩ := m
            cases m with
            | pr m => cases m
            | lkt a b c => exact ⟨_, _, rfl, .inr ⟨_, a, k _ (wk_keysT a b)⟩⟩
          | _ => simp [itemsOf, D.items, D.litems] at e2 hn
        | _ => simp [itemsOf, D.items, D.litems] at e2 hn
    · cases e1'

theorem ckX_len : ∀ {es : Exs} {ls : List Expr}, ckX n N sc es ls = true → lenX es = ls.length
  | .nil, [], _ => rfl
  | .nil, _ :: _, h => by simp [ckX] at h
  | .cons _ _, [], h => by simp [ckX] at h
  | .cons e es, l :: ls, h => by
    simp only [ckX, Bool.and_eq_true] at h
    simp only [lenX, List.length_cons, ckX_len h.2]
theorem evA_len {sg : Sg} : ∀ {es : Exs} {S S1 : Sl} {as : List Arg}, evA sg cf es S = .ok as S1 → as.length = lenX es
  | .nil, S, S1, as, h => by
    simp only [evA, Q.R.ok.injEq] at h
    rw [← h.1]; rfl
  | .cons e es, S, S1, as, h => by
    simp only [evA] at h
    cases h1 : argOf sg S e (evE sg cf e S) with
    | no => simp only [h1, R.bind] at h; cases h
    | er c S2 => simp only [h1, R.bind] at h; cases h
    | ok a S2 =>
      simp only [h1, R.bind] at h
      cases h2 : evA sg cf es S2 with
      | no => simp only [h2] at h; cases h
      | er c S3 => simp only [h2] at h; cases h
      | ok as' S3 =>
        simp only [h2, Q.R.ok.injEq] at h
        rw [← h.1, List.length_cons, evA_len h2, lenX]
theorem argDs_len {sg : Sg} {S : Sl} : ∀ {as : List Arg} {ds : List D}, argDs sg S as = some ds → ds.length = as.length
  | [], ds, h => by cases h; rfl
  | a :: as, ds, h => by
    unfold argDs at h
    split at h
    · rename_i d ds' _ e2
      cases h
      simp [argDs_len e2]
    · cases h
/-- the arguments first -/
theorem it_args {es : Exs} {ls : List Expr} {k : IK} {F : List Addr} {S : Sl} {T : List (D × V)} {A : List Addr} {σ : L2.St} {H : Hp} {RR : It → Hp → Prop} {P : List V → Hp → Prop} (hk : ckX n N sc es ls = true) (r : Rl w F H S σ T A) (q : match evA w.n.sg cf es S with
  | .ok as S1 => ∃ ds xs, argDs w.n.sg S1 as = some ds ∧ itemsOf k ds = some xs ∧ walkOk ds = true ∧ ∀ vs U H1 A1, AsV w H1 σ as vs U → Rl w F H1 S1 σ (U ++ T) A1 → Step A H A1 H1 → ∀ J, WkJ w F H1 J ds vs xs → RR J H1
  | .er c S1 => ∀ C H' A', w.ecl c = some C → Rl w F H' S1 σ T A' → Step A H A' H' → W C none σ H'
  | .no => False) (hP : ∀ ds xs vs H1, ds.length = ls.length → itemsOf k ds = some xs → Ms w F H1 ds vs → (∀ J, WkJ w F H1 J ds vs xs → RR J H1) → P vs H1) : tAs w W (evA w.n.sg cf es) σ H P := by
  refine ⟨F, S, T, A, r, ?_⟩
  cases ea : evA w.n.sg cf es S with
  | no => simp only [ea] at q
  | er c S1 => simp only [ea] at q; exact q
  | ok as S1 =>
    simp only [ea] at q
    obtain ⟨ds, xs, e1, e2, e3, q⟩ := q
    intro vs U H1 A1 av r1 s1
    exact hP ds xs vs H1 (by rw [argDs_len e1, evA_len ea, ckX_len hk]) e2 (argsMs rfl r1 (fun _ h => h) av e1) fun J hJ => q vs U H1 A1 av r1 s1 J hJ
/-- .. what two walks want, by the data that show behind the arguments -/
theorem it_or {es : Exs} {ls : List Expr} {k : IK} {F : List Addr} {S : Sl} {T : List (D × V)} {A : List Addr} {σ : L2.St} {H : Hp} {RR : It → Hp → Prop} {P1 P2 : List V → Hp → Prop} {c : List D → Bool} (hk : ckX n N sc es ls = true) (r : Rl w F H S σ T A) (q : match evA w.n.sg cf es S with
  | .ok as S1 => ∃ ds xs, argDs w.n.sg S1 as = some ds ∧ itemsOf k ds = some xs ∧ walkOk ds = true ∧ ∀ vs U H1 A1, AsV w H1 σ as vs U → Rl w F H1 S1 σ (U ++ T) A1 → Step A H A1 H1 → ∀ J, WkJ w F H1 J ds vs xs → RR J H1
  | .er c S1 => ∀ C H' A', w.ecl c = some C → Rl w F H' S1 σ T A' → Step A H A' H' → W C none σ H'
  | .no => False) (h1 : ∀ ds xs vs H1, c ds = true → ds.length = ls.length → itemsOf k ds = some xs → Ms w F H1 ds vs → (∀ J, WkJ w F H1 J ds vs xs → RR J H1) → P1 vs H1)
    (h2 : ∀ ds xs vs H1, c ds = false → ds.length = ls.length → itemsOf k ds = some xs → Ms w F H1 ds vs → (∀ J, WkJ w F H1 J ds vs xs → RR J H1) → P2 vs H1) : tAs w W (evA w.n.sg cf es) σ H P1 ∨ tAs w W (evA w.n.sg cf es) σ H P2 := by
  cases ea : evA w.n.sg cf es S with
  | no => simp only [ea] at q
  | er c S1 => exact .inl ⟨F, S, T, A, r, by simp only [ea] at q ⊢; exact q⟩
  | ok as S1 =>
    simp only [ea] at q
    obtain ⟨ds, xs, e1, e2, e3, q⟩ := q
    cases hc : c ds with
    | true =>
      refine .inl ⟨F, S, T, A, r, ?_⟩
      rw [ea]
      intro vs U H1 A1 av r1 s1
      exact h1 ds xs vs H1 hc (by rw [argDs_len e1, evA_len ea, ckX_len hk]) e2 (argsMs rfl r1 (fun _ h => h) av e1) fun J hJ => q vs U H1 A1 av r1 s1 J hJ
    | false =>
      refine .inr ⟨F, S, T, A, r, ?_⟩
      rw [ea]
      intro vs U H1 A1 av r1 s1
      exact h2 ds xs vs H1 hc (by rw [argDs_len e1, evA_len ea, ckX_len hk]) e2 (argsMs rfl r1 (fun _ h => h) av e1) fun J hJ => q vs U H1 A1 av r1 s1 J hJ
theorem Ms.int1 {F : List Addr} {H : Hp} {i : Int} {vs : List V} (h : Ms w F H [.int i] vs) : vs = [.int i] := by
  obtain ⟨v, rfl, m⟩ := h.one
  rw [m.int]
theorem Ms.int2 {F : List Addr} {H : Hp} {i j : Int} {vs : List V} (h : Ms w F H [.int i, .int j] vs) : vs = [.int i, .int j] := by
  obtain ⟨v, u, rfl, m, m2⟩ := h.two
  rw [m.int, m2.int]
theorem Ms.int3 {F : List Addr} {H : Hp} {i j k : Int} {vs : List V} (h : Ms w F H [.int i, .int j, .int k] vs) : vs = [.int i, .int j, .int k] := by
  cases h with
  | cons a t =>
    rw [a.int, t.int2]
theorem i_rng (hn : n = w.n) (E : EnvOk w cf L X.prog X.w X.mg X.base) {es : Exs} {ls : List Expr} {p pos : Pos} (hg : Gl X "range") (hk : ckX n N sc es ls = true) (hl : 0 < ls.length ∧ ls.length < 4) (ha : PA X ls (tAs w W (evA w.n.sg cf es))) :
    PI X tg (.Call (.Name "range" p) ls [] pos) (tI w W .rng (evA w.n.sg cf es)) := by
  have hm : X.mg "range" = none := E.bi _ (by simp)
  have hns := nsX hk
  match ls, hl with
  | [a], _ =>
    have ns1 := hns
    simp only [allNS, Bool.and_eq_true] at ns1
    refine PI.weak (pi_range1 hg hm ha (star_cons ns1.1)) fun σ H RR ⟨F, S, T, A, r, q⟩ => it_args hk r q fun ds xs vs H1 hl e2 ms k => ?_
    simp only [itemsOf] at e2
    unfold rngOf at e2
    split at e2
    · rename_i m
      split at e2
      · rename_i hb
        cases e2
        have ev := ms.int1
        subst ev
        refine ⟨m, rfl, by omega, by omega, k _ ?_⟩
        have := wk_rng (w := w) (F := F) (H1 := H1) (lo := 0) (c := 1) (m := m.toNat) (J := Itr 0 m.toNat) (ds := [.int m]) (vs := [.int m]) (fun _ _ => Iff.rfl) (fun _ _ => Iff.rfl) (fun i H x H' ⟨a, b⟩ => ⟨a, by rw [b]; simp⟩)
        simpa using this
      · cases e2
    · simp at hl
    · simp at hl
    · cases e2
  | [a, b], _ =>
    have ns1 := hns
    simp only [allNS, Bool.and_eq_true] at ns1
    refine PI.weak (pi_range2 hg hm ha (by rw [star_cons ns1.1, star_cons ns1.2.1]; rfl) (star_cons ns1.2.1)) fun σ H RR ⟨F, S, T, A, r, q⟩ => it_args hk r q fun ds xs vs H1 hl e2 ms k => ?_
    simp only [itemsOf] at e2
    unfold rngOf at e2
    split at e2
    · simp at hl
    · rename_i m m2
      split at e2
      · rename_i hb
        cases e2
        have ev := ms.int2
        subst ev
        refine ⟨m, m2, rfl, ⟨by omega, by omega, by omega, by omega⟩, k _ ?_⟩
        have := wk_rng (w := w) (F := F) (H1 := H1) (lo := m) (c := 1) (m := (m2 - m).toNat) (J := Itr m (m2 - m).toNat) (ds := [.int m, .int m2]) (vs := [.int m, .int m2]) (fun _ _ => Iff.rfl) (fun _ _ => Iff.rfl) (fun i H x H' ⟨a, b⟩ => ⟨a, by rw [b]; simp⟩)
        simpa using this
      · cases e2
    · simp at hl
    · cases e2
  | [a, b, c], _ =>
    have ns1 := hns
    simp only [allNS, Bool.and_eq_true] at ns1
    refine PI.weak (pi_range3 hg hm ha (star_cons ns1.1) (star_none (by simp only [allNS, Bool.and_eq_true]; exact ns1.2))) fun σ H RR ⟨F, S, T, A, r, q⟩ => it_args hk r q fun ds xs vs H1 hl e2 ms k => ?_
    simp only [itemsOf] at e2
    unfold rngOf at e2
    split at e2
    · simp at hl
    · simp at hl
    · rename_i m m2 m3
      split at e2
      · rename_i hb
        cases e2
        have ev := ms.int3
        subst ev
        obtain ⟨b1, b2, b3, b4, rfl⟩ := hb
        refine ⟨m, m2, -1, (m - m2).toNat, rfl, RgC.neg (by omega) (by omega) (by omega) (by omega), k _ ?_⟩
        have := wk_rng (w := w) (F := F) (H1 := H1) (lo := m) (c := -1) (m := (m - m2).toNat) (J := Itc m (-1) (m - m2).toNat) (ds := [.int m, .int m2, .int (-1)]) (vs := [.int m, .int m2, .int (-1)]) (fun _ _ => Iff.rfl) (fun _ _ => Iff.rfl) (fun i H x H' ⟨a, b⟩ => ⟨a, b⟩)
        have e : ∀ k : Nat, m + (k : Int) * -1 = m - k := fun k => by omega
        simpa only [e] using this
      · cases e2
    · cases e2
theorem wk_zipM {w : Wd} {F : List Addr} {H1 : Hp} {d e : D} {xs ys : List D} {p q : Addr} (ed : d.items = some xs) (ed2 : d.litems = some xs) (ee : e.items = some ys) (ee2 : e.litems = none) : WkJ w F H1 (QZ.ItzM w.K p q) [d, e] [.ref p, .ref q] ((xs.zip ys).map fun p => .tup [p.1, p.2]) := fun H m _ => by
  obtain ⟨v, u, ev, mv, mu⟩ := m.two
  cases ev
  obtain ⟨p', vs, ep, hq, hp⟩ := mv.litems ed2
  cases ep
  obtain ⟨q', us, eq, hq2, hp2⟩ := SqT.ofItems mu ee ee2
  cases eq
  refine ⟨fun i x hx => ?_, fun i hi => ⟨vs, us, hq, hq2, ?_⟩⟩
  · rw [List.getElem?_map] at hx
    obtain ⟨z, e1, rfl⟩ := Option.map_eq_some_iff.mp hx
    obtain ⟨a, b⟩ := z
    rw [List.getElem?_zip_eq_some] at e1
    obtain ⟨v, hv, pv⟩ := hp.at e1.1
    obtain ⟨u, hu, pu⟩ := hp2.at e1.2
    refine ⟨⟨vs, us, v, u, hq, hq2, hv, hu⟩, fun v' H' ⟨T, x', y', ev, n, eH, k1, k2⟩ => ?_⟩
    subst eH; subst ev
    have h1 := k1 vs hq
    rw [hv] at h1; cases h1
    have h2 := k2 us hq2
    rw [hu] at h2; cases h2
    exact pr_pair n pv pu
  · rw [List.length_map, List.length_zip] at hi
    rw [← hp.len, ← hp2.len]
    omega
theorem zip_at {ds xs : List D} (e2 : itemsOf .zip ds = some xs) : ∃ d e xs1 ys1, ds = [d, e] ∧ d.items = some xs1 ∧ e.items = some ys1 ∧ (d.litems.isSome || !e.litems.isSome) = true ∧ xs = (xs1.zip ys1).map fun p => .tup [p.1, p.2] := by
  match ds, e2 with
  | [d, e], e2 =>
    have e3 : (match d.items, e.items with
      | some xs, some ys => if (d.litems.isSome || !e.litems.isSome) = true then some ((xs.zip ys).map fun p => D.tup [p.1, p.2]) else none
      | _, _ => none) = some xs := e2
    cases h1 : d.items with
    | none => rw [h1] at e3; cases e3
    | some xs1 =>
      cases h2 : e.items with
      | none => rw [h1, h2] at e3; cases e3
      | some ys1 =>
        rw [h1, h2] at e3
        simp only at e3
        split at e3
        · rename_i hb
          cases e3
          exact ⟨d, e, xs1, ys1, rfl, h1, h2, hb, rfl⟩
        · cases e3
theorem zip_same {w : Wd} {F : List Addr} {H1 : Hp} {ds xs : List D} {vs : List V} {RR : It → Hp → Prop} {m : Nat} (hc : (match ds with | [d, e] => d.litems.isSome == e.litems.isSome | _ => true) = true) (hl : ds.length = m) (e2 : itemsOf .zip ds = some xs) (ms : Ms w F H1 ds vs) (k : ∀ J, WkJ w F H1 J ds vs xs → RR J H1) :
    ∃ a b xs ys, vs = [.ref a, .ref b] ∧ ((SqL w.K H1 a xs ∧ SqL w.K H1 b ys ∧ RR (Itz w.K a b) H1) ∨ (SqT w.K H1 a xs ∧ SqT w.K H1 b ys ∧ RR (RZ.ItzT w.K a b) H1)) := by
  obtain ⟨d, e, xs1, ys1, rfl, ex, ey, hb, rfl⟩ := zip_at e2
  simp only [beq_iff_eq] at hc
  obtain ⟨v, u, rfl, m1, m2⟩ := ms.two
  cases hd : d.litems with
  | some xs2 =>
    cases he : e.litems with
    | some ys2 =>
      obtain ⟨p1, us, rfl, q1, _⟩ := m1.litems hd
      obtain ⟨p2, us2, rfl, q2, _⟩ := m2.litems he
      have a1 := litems_items hd
      have a2 := litems_items he
      rw [ex] at a1; cases a1
      rw [ey] at a2; cases a2
      exact ⟨p1, p2, us, us2, rfl, .inl ⟨q1, q2, k _ (wk_zip hd he)⟩⟩
    | none => rw [hd, he] at hc; cases hc
  | none =>
    cases he : e.litems with
    | some ys2 => rw [hd, he] at hc; cases hc
    | none =>
      obtain ⟨p1, us, rfl, q1, _⟩ := SqT.ofItems m1 ex hd
      obtain ⟨p2, us2, rfl, q2, _⟩ := SqT.ofItems m2 ey he
      exact ⟨p1, p2, us, us2, rfl, .inr ⟨q1, q2, k _ (wk_zipT ex ey hd he)⟩⟩
theorem zip_mix {w : Wd} {F : List Addr} {H1 : Hp} {ds xs : List D} {vs : List V} {RR : It → Hp → Prop} {m : Nat} (hc : (match ds with | [d, e] => d.litems.isSome == e.litems.isSome | _ => true) = false) (hl : ds.length = m) (e2 : itemsOf .zip ds = some xs) (ms : Ms w F H1 ds vs) (k : ∀ J, WkJ w F H1 J ds vs xs → RR J H1) :
    ∃ a b xs ys, vs = [.ref a, .ref b] ∧ SqL w.K H1 a xs ∧ SqT w.K H1 b ys ∧ RR (QZ.ItzM w.K a b) H1 := by
  obtain ⟨d, e, xs1, ys1, rfl, ex, ey, hb, rfl⟩ := zip_at e2
  obtain ⟨v, u, rfl, m1, m2⟩ := ms.two
  cases hd : d.litems with
  | some xs2 =>
    cases he : e.litems with
    | some ys2 => simp only [hd, he] at hc; cases hc
    | none =>
      have a1 := litems_items hd
      rw [ex] at a1; cases a1
      obtain ⟨p1, us, rfl, q1, _⟩ := m1.litems hd
      obtain ⟨p2, us2, rfl, q2, _⟩ := SqT.ofItems m2 ey he
      exact ⟨p1, p2, us, us2, rfl, q1, q2, k _ (wk_zipM ex hd ey he)⟩
  | none =>
    cases he : e.litems with
    | some ys2 => rw [hd, he] at hb; cases hb
    | none => simp only [hd, he] at hc; cases hc
theorem i_zip (hn : n = w.n) (h : XC w X N sc W L) (E : EnvOk w cf L X.prog X.w X.mg X.base) {es : Exs} {ls : List Expr} {p pos tpos : Pos} {elts : List Expr} {kk : Nat} (hg : Gl X "zip") (hk : ckX n N sc es ls = true) (hl : ls.length = 2) (ha : PA X ls (tAs w W (evA w.n.sg cf es))) :
    PI X (.Tuple elts kk tpos) (.Call (.Name "zip" p) ls [] pos) (tI w W .zip (evA w.n.sg cf es)) := by
  have hm : X.mg "zip" = none := E.bi _ (by simp)
  have hns := nsX hk
  match ls, hl with
  | [a, b], _ =>
    have ns1 := hns
    simp only [allNS, Bool.and_eq_true] at ns1
    have hst := star_none (env := X.env) (pos := pos) (es := [b]) (by simp only [allNS, Bool.and_eq_true]; exact ns1.2)
    refine PI.weak (PI.or (RZ.pi_zipA hg hm ha (star_cons ns1.1) hst) (QZ.pi_zipM hg hm ha (star_cons ns1.1) hst)) fun σ H RR ⟨F, S, T, A, r, q⟩ => ?_
    rw [h.hK]
    refine it_or (c := fun ds => match ds with | [d, e] => d.litems.isSome == e.litems.isSome | _ => true) hk r q (fun ds xs vs H1 hc hl e2 ms k => ?_) (fun ds xs vs H1 hc hl e2 ms k => ?_)
    · exact zip_same hc hl e2 ms k
    · exact zip_mix hc hl e2 ms k
end
end Q
end
section
set_option Elab.async false
set_option linter.all false
set_option maxRecDepth 100000
namespace Q
open PySem PySem.Spec PyProof.Rows L2
/-! enumerate(tuple) -/
theorem draws_tuple {prog : Program} {w : World} {A : Around} (hh : A.handled = none) (it l : Addr) (hne : l ≠ it) (items : Array Value) :
    Draws prog w A it [it, l] items.size (fun i v => items[i]? = some v) (fun i h => h.IsTupleIter it l i ∧ h.IsTuple l items) where
  live := fun _ _ st => let ⟨o, ho, _⟩ := st.1; ⟨o, ho⟩
  frame := fun _ _ _ st hk => ⟨st.1.at fun o e => hk it (by simp) o e, let ⟨o, ho, q⟩ := st.2; ⟨o, hk l (by simp) o ho, q⟩⟩
  item := fun i s Q E hi st hQ => by
    refine RZ.nextOf_tuple_item st.1 st.2 (x := items[i]) (by simp [hi]) fun h' hit' hs' => ?_
    exact hQ _ h' s.toks (by simp [hi]) ⟨hit', st.2.extBut hs'.extBut hne⟩ hs'
  done := fun s Q E st hE => RZ.nextOf_tuple_end hh st.1 st.2 (by simp) hE
def IteT (K : PySem.W.Frag) (a : Addr) : It :=
  ⟨fun i H => ∃ (xs : List V) (x : V), SqT K H a xs ∧ xs[i]? = some x, fun i H v H' => ∃ T x, v = .ref T ∧ H T = none ∧ H' = upd H T (.tup [.int (i : Nat), x]) ∧ ∀ xs, SqT K H a xs → xs[i]? = some x, fun i H => ∃ xs : List V, SqT K H a xs ∧ xs.length ≤ i⟩
theorem turn_enumT {P : Program} {w : World} {K : PySem.W.Frag} {elts : List Expr} {kk : Nat} {tpos : Pos} (a e it : Addr) (hea : e ≠ a) (hia : a ≠ it) :
    Turn P w K (.Tuple elts kk tpos) (IteT K a) [e, it] e (fun i h => (∃ old, IsEnum h e it ((i : Nat) : Int) old) ∧ h.IsTupleIter it a i ∧ e ≠ it) where
  mem := by simp
  obj := fun i h st b hb => by
    obtain ⟨⟨old, he⟩, ⟨o, ho, hc, hd⟩, _⟩ := st
    have e' : b = e ∨ b = it := by simpa using hb
    rcases e' with z | z
    · rw [z]; exact ⟨_, he, fun v q => nomatch q⟩
    · rw [z]; exact ⟨o, ho, fun v q => by rw [hd] at q; cases q⟩
  keep := fun i h h' st k => let ⟨⟨old, he⟩, hi, hne⟩ := st; ⟨⟨old, k e (by simp) _ he⟩, hi.at fun o q => k it (by simp) o q, hne⟩
  item := by
    intro X hP hw hK hc i pins s σ H E I hf st hg
    subst hP hw hK
    obtain ⟨⟨old, he⟩, hit, hne⟩ := st
    obtain ⟨xs, x, hq, hx⟩ := hg
    obtain ⟨its, rv, p, hz⟩ := I.tuple hq
    obtain ⟨u, hu, ru⟩ := rv.get hx
    have hel : e < s.heap.objs.size := Heap.lt_size he
    have hil : it < s.heap.objs.size := by obtain ⟨_, q, _⟩ := hit; exact Heap.lt_size q
    have hlt : i < its.toArray.size := by
      have := (List.getElem?_eq_some_iff.mp hu).1
      simpa using this
    refine wpAny_pyNext_enum_itemD (draws_tuple (A := X.A.in1) (I.ok.hd hc) it a hia its.toArray) he ⟨hit, p⟩ hlt hne (by simp [hne, hea]) fun x' h' tk hx' ho hst' hT hsz hk => ?_
    have ex' : x' = u := by
      have h1 : its.toArray[i]? = some u := by simpa using hu
      rw [h1] at hx'; cases hx'; rfl
    subst ex'
    refine ⟨_, rfl, wpAny_letOwnedTupleGo_enum (s := { s with heap := h', toks := tk + 1 }) ho fun h'' he' sb => ?_⟩
    have hT2 : h''.get? s.heap.objs.size = some { cls := .type "tuple", data := .seq #[.int i tk, x'] } := (sb.2 _ (Nat.ne_of_gt hel)).trans hT
    have new : ObjOk X.prog X.w (upd H s.heap.objs.size (.tup [.int (i : Nat), x])) h'' s.heap.objs.size (.tup [.int (i : Nat), x]) :=
      ⟨by show 2 ≤ sizeLine; decide, [.int i tk, x'], .cons ⟨_, rfl⟩ (.cons ru .nil), ⟨_, hT2, rfl, _, rfl⟩⟩
    have I1 : Inv X pins σ (upd H s.heap.objs.size (.tup [.int (i : Nat), x])) { s with heap := h'', toks := tk + 1 } :=
      I.turnedNew (ch := [e, it]) (fun b ob hb q => (sb.2 b (fun z => hb (by simp [z]))).trans (hk b ob (fun z => hb (by simp [z])) (fun z => hb (by simp [z])) q)) hf (Nat.le_refl _) new
    refine ⟨.ref s.heap.objs.size, _, I1, rfl, ⟨_, x, rfl, I.hok.fresh (Nat.le_refl _), rfl, fun ys hy => by rw [I.tuple_inj hy hq]; exact hx⟩, ⟨⟨x', ?_⟩, hst'.1.at fun o q => (sb.2 it (Ne.symm hne)).trans q, hne⟩, fun b hb => ?_⟩
    · have e1 : ((i + 1 : Nat) : Int) = (i : Int) + 1 := by omega
      rw [e1]; exact he'
    · have hb' : b < s.heap.objs.size := by
        have e' : b = e ∨ b = it := by simpa using hb
        rcases e' with z | z
        · rw [z]; exact hel
        · rw [z]; exact hil
      rw [upd_ne (Nat.ne_of_lt hb')]
      exact (hf b hb).1
  done := by
    intro X hP hw hK hc i pins s σ H E I hf st hg
    subst hP hw hK
    obtain ⟨⟨old, he⟩, hit, hne⟩ := st
    obtain ⟨xs, hq, hx⟩ := hg
    obtain ⟨its, rv, p, hz⟩ := I.tuple hq
    obtain ⟨f0, f1, f2, f3, f4, f5⟩ := hf it (by simp)
    have hl := rv.length
    have hT : s.TypeIs (.ref e) "enumerate" := ⟨_, he, rfl⟩
    unfold pyNext
    refine wpAny_bind (wpAny_attempt (wpAny_callSpecial?_slot (name := Str.ofString "__next__") hT F.slot_enumerate_next
      (wpAny_call_entry F.slot_enumerate_next hT F.entry_enumerate_next ?_ (F.args_enumerate_next_1 _))))
    show wpAny _ _ (field (.ref e) 2 >>= _) _ _ _
    refine wpAny_bind (wpAny_field he rfl (x := .ref it) rfl ?_)
    refine wpAny_bind (RZ.nextOf_tuple_end (A := X.A.in1) (I.ok.hd hc) hit p (by simp; omega) fun h' x eb hx' => ?_)
    obtain ⟨o, ho, hcl⟩ := hx'
    refine wpAny_bind (wpAny_isInstance (T := "StopIteration") (b := true) ⟨o, ho, hcl⟩ isSubtype_stop ?_)
    exact wpAny_pure ⟨rfl, I.turned (t' := s.toks) (fun b o hb q => eb b o hb q) f0 f1 f3 f4 f5⟩
  self := fun A i s Q E st h => let ⟨⟨_, he⟩, _⟩ := st; wpAny_pyIter_enum he h
theorem meets_enumerate_newT (l : Addr) (items : Array Value) :
    Meets (Builtin.«enumerate.__new__» ⟨[.type "enumerate", .ref l], []⟩) (fun _ RR s => s.heap.IsTuple l items ∧
      RR (.ok (.ret (.ref (s.heap.push { cls := .type "tuple_iterator", data := .fields #[.ref l, .int 0 0] }).objs.size)))
        { s with heap := (s.heap.push { cls := .type "tuple_iterator", data := .fields #[.ref l, .int 0 0] }).push { cls := .type "enumerate", data := .fields #[.none, .bool false, .ref s.heap.objs.size, rawInt 0, .none, .none] } }) :=
  .of_wp fun prog w A RR s h => by
    obtain ⟨hp, g, d, tk, os⟩ := s; obtain ⟨hl, h⟩ := h
    have hsub := sub_enumerate
    have hL : Heap.IsTuple (Shared.heap ⟨hp, g, d, tk, os⟩) l items := hl
    wp_walk using wpAny_pyIter_tuple hL
    refine wpAny_stack_any fun st => wpAny_pure ?_
    split
    · rename_i c _ _ _ _ _
      cases (c == Value.type "enumerate")
      · wp_walk using wpAny_pyIter_tuple hL
        exact ⟨_, rfl, h⟩
      · wp_walk using wpAny_pyIter_tuple hL
        exact ⟨_, rfl, h⟩
    · wp_walk using wpAny_pyIter_tuple hL
      exact ⟨_, rfl, h⟩
theorem call_enumerate_tup {prog : Program} {w : World} {A : Around} {E : Value → Shared → Prop} {s : Shared} {l : Addr} {items : Array Value} {Q : Value → Shared → Prop} (hL : s.heap.IsTuple l items)
    (h : ∀ h', IsEnum h' (s.heap.objs.size + 1) s.heap.objs.size 0 .none → h'.IsTupleIter s.heap.objs.size l 0 → h'.objs.size = s.heap.objs.size + 2 →
      (∀ b o, s.heap.get? b = some o → h'.get? b = some o) → Q (.ref (s.heap.objs.size + 1)) { s with heap := h' }) :
    wpAny (model prog w) A (call (.type "enumerate") [.ref l]) Q E s := by
  refine callType_new F.called_enumerate (by decide) (F.typeCall_enumerate_1 _) (F.newCall_enumerate_1 _) (fun obj => F.args_object_init_2 obj _) F.entry_enumerate_new
    (meets_enumerate_newT l items) ⟨hL, ?_⟩
  have hz : (s.heap.push { cls := .type "tuple_iterator", data := .fields #[.ref l, .int 0 0] }).objs.size = s.heap.objs.size + 1 := Heap.size_push ..
  show _ ∧ _
  rw [hz]
  have he : IsEnum ((s.heap.push { cls := .type "tuple_iterator", data := .fields #[.ref l, .int 0 0] }).push
      { cls := .type "enumerate", data := .fields #[.none, .bool false, .ref s.heap.objs.size, rawInt 0, .none, .none] }) (s.heap.objs.size + 1) s.heap.objs.size 0 .none := by
    have := Heap.get?_push_size (s.heap.push { cls := .type "tuple_iterator", data := .fields #[.ref l, .int 0 0] })
      (o := { cls := .type "enumerate", data := .fields #[.none, .bool false, .ref s.heap.objs.size, rawInt 0, .none, .none] }) rfl
    rw [hz] at this; exact this
  refine ⟨⟨_, he, rfl⟩, h _ he ⟨_, Heap.get?_push_of_some _ (Heap.get?_push_size _ rfl), rfl, rfl⟩ (by rw [Heap.size_push, hz]) fun b o x => Heap.get?_push_of_some _ (Heap.get?_push_of_some _ x)⟩
def iEnumT (K : PySem.W.Frag) (ta : TA) : TI := fun σ H RR => ta σ H fun vs H1 => ∃ a xs, vs = [.ref a] ∧ SqT K H1 a xs ∧ RR (IteT K a) H1
theorem pi_enumT {X : Cx} {e : Expr} {ta : TA} {p pos tpos : Pos} {elts : List Expr} {kk : Nat} (hg : Gl X "enumerate") (hm : X.mg "enumerate" = none) (ha : PA X [e] ta) (hs : starEach [e] X.env = [(false, eval e X.env)] := by rfl) :
    PI X (.Tuple elts kk tpos) (.Call (.Name "enumerate" p) [e] [] pos) (iEnumT X.K ta) := by
  refine ⟨fun pins s σ H RR I h => ?_⟩
  refine Call_ (ld_blt I hg hm boot_enumerate (PyProof.Rows.callWith_type1 (thn (ha.run pos pins s σ H _ I h) fun us s1 ⟨vs, H1, I1, r1, q1⟩ => ?_) hs rfl))
  obtain ⟨a, xs, ex, hq, q⟩ := q1
  subst ex
  cases r1 with
  | cons r rr =>
    cases rr
    cases r
    obtain ⟨its, rv, p', hz⟩ := I1.tuple hq
    have hla : a < s1.heap.objs.size := by obtain ⟨o, ho, _⟩ := p'; exact Heap.lt_size ho
    refine call_enumerate_tup (show s1.heap.IsTuple a its.toArray from p') fun h' he hit hsz hk => wpAny_pyIter_enum he ?_
    have I2 : Inv X pins σ H1 { s1 with heap := h' } := I1.kept (t' := s1.toks) hk
    refine ⟨s1.heap.objs.size + 1, [s1.heap.objs.size + 1, s1.heap.objs.size], _, _, H1, rfl, I2, turn_enumT a (s1.heap.objs.size + 1) s1.heap.objs.size (Nat.ne_of_gt (Nat.lt_succ_of_lt hla)) (Nat.ne_of_lt hla), ⟨⟨.none, he⟩, hit, Nat.succ_ne_self _⟩, fun b hb => ?_, q⟩
    have e' : b = s1.heap.objs.size + 1 ∨ b = s1.heap.objs.size := by simpa using hb
    have hle : s1.heap.objs.size ≤ b := by
      rcases e' with z | z
      · rw [z]; exact Nat.le_add_right _ _
      · rw [z]; exact Nat.le_refl _
    exact I1.fpOk hle (I1.hok.fresh hle)
section
variable {w : Wd} {F : List Addr} {H1 : Hp}
theorem wk_enumT {d : D} {xs : List D} {p : Addr} (e : d.items = some xs) (e2 : d.litems = none) : WkJ w F H1 (IteT w.K p) [d] [.ref p] (enumL 0 xs) := fun H m _ => by
  obtain ⟨v, ev, mv⟩ := m.one
  cases ev
  obtain ⟨p', vs, ep, hq, hp⟩ := SqT.ofItems mv e e2
  cases ep
  refine ⟨fun i x hx => ?_, fun i hi => ⟨vs, hq, by rw [← hp.len]; rwa [enum_len] at hi⟩⟩
  obtain ⟨y, hy, rfl⟩ := enum_at hx
  obtain ⟨v, hv, pv⟩ := hp.at hy
  refine ⟨⟨vs, v, hq, hv⟩, fun v' H' ⟨T, x', ev, n, eH, k⟩ => ?_⟩
  subst eH; subst ev
  have := k vs hq
  rw [hv] at this; cases this
  have e0 : (0 + i : Nat) = i := Nat.zero_add i
  rw [e0]
  exact pr_pair n (.int _) pv
end
section
variable {w : Wd} {X : Cx} {N : List Str} {sc : Scope} {W : WX} {L : Nat} {cf : Nat → List D → FR} {n : Nm} {tg : Expr}
def isEs : List D → Bool
  | [d] => d.litems.isSome
  | _ => false
theorem i_enum (hn : n = w.n) (h : XC w X N sc W L) (E : EnvOk w cf L X.prog X.w X.mg X.base) {es : Exs} {ls : List Expr} {p pos tpos : Pos} {elts : List Expr} {kk : Nat} (hg : Gl X "enumerate") (hk : ckX n N sc es ls = true) (hl : ls.length = 1) (ha : PA X ls (tAs w W (evA w.n.sg cf es))) :
    PI X (.Tuple elts kk tpos) (.Call (.Name "enumerate" p) ls [] pos) (tI w W .enum (evA w.n.sg cf es)) := by
  have hm : X.mg "enumerate" = none := E.bi _ (by simp)
  have hns := nsX hk
  match ls, hl with
  | [a], _ =>
    have ns1 := hns
    simp only [allNS, Bool.and_eq_true] at ns1
    refine PI.weak (PI.or (pi_enum hg hm ha (star_cons ns1.1)) (pi_enumT hg hm ha (star_cons ns1.1))) fun σ H RR ⟨F, S, T, A, r, q⟩ => it_or (c := isEs) hk r q (fun ds xs vs H1 hc hl e2 ms k => ?_) (fun ds xs vs H1 hc hl e2 ms k => ?_)
    · rw [h.hK]
      match ds, hl with
      | [d], _ =>
        simp only [isEs] at hc
        obtain ⟨ys, ey⟩ := Option.isSome_iff_exists.mp hc
        simp only [itemsOf] at e2
        rw [litems_items ey] at e2
        simp only [Option.map, Option.some.injEq] at e2
        subst e2
        obtain ⟨v, rfl, m⟩ := ms.one
        obtain ⟨p, us, rfl, hq, _⟩ := m.litems ey
        exact ⟨p, us, rfl, hq, k _ (wk_enum ey)⟩
    · rw [h.hK]
      match ds, hl with
      | [d], _ =>
        simp only [isEs] at hc
        have hn : d.litems = none := by cases e : d.litems with
          | none => rfl
          | some _ => rw [e] at hc; cases hc
        simp only [itemsOf] at e2
        obtain ⟨ys, ey, rfl⟩ := Option.map_eq_some_iff.mp e2
        obtain ⟨v, rfl, m⟩ := ms.one
        obtain ⟨p, us, rfl, hq, _⟩ := SqT.ofItems m ey hn
        exact ⟨p, us, rfl, hq, k _ (wk_enumT ey hn)⟩
theorem tg_tup {e : Expr} (h : isTupT e = true) : ∃ a b c, e = .Tuple a b c := by
  cases e with
  | Tuple a b c => exact ⟨a, b, c, rfl⟩
  | _ => cases h
theorem s_it (hn : n = w.n) (h : XC w X N sc W L) (E : EnvOk w cf L X.prog X.w X.mg X.base) {k : IK} {es : Exs} {l : Expr} (hc : itOk sc k l = true) (hx : ckX n N sc es (itArgs k l) = true) (hl : lnOk k (lenX es) = true) (ht : tgOk k tg = true)
    (h1 : ∀ e, es = .cons e .nil → ∀ l, ckE n N sc e l = true → PE X l (tAr w W fun S => argOf w.n.sg S e (evE w.n.sg cf e S)))
    (h2 : ∀ ls, ckX n N sc es ls = true → PA X ls (tAs w W (evA w.n.sg cf es))) : PI X tg l (tI w W k (evA w.n.sg cf es)) := by
  cases k with
  | seq =>
    simp only [itArgs] at hx
    cases es with
    | nil => simp [ckX] at hx
    | cons e es' =>
      cases es' with
      | nil =>
        simp only [ckX, Bool.and_eq_true] at hx
        exact i_seq h (h1 e rfl l hx.1.2)
      | cons _ _ => simp [ckX] at hx
  | rng =>
    obtain ⟨x, p, ls, pos, rfl, rfl, hg⟩ : ∃ x p ls pos, l = .Call (.Name x p) ls [] pos ∧ x = "range" ∧ glB sc x = true := by
      unfold itOk at hc
      split at hc <;> first | (cases hc; done) | (simp only [Bool.and_eq_true, decide_eq_true_eq] at hc; exact ⟨_, _, _, _, rfl, hc.1, hc.2⟩) | (rename_i z; cases z; done) | (rename_i z _; cases z; done)
    simp only [itArgs] at hx
    exact i_rng hn E (gl_of h hg).1 hx (by rw [ckX_len hx] at hl; simpa [lnOk] using hl) (h2 _ hx)
  | enum =>
    obtain ⟨x, p, ls, pos, rfl, rfl, hg⟩ : ∃ x p ls pos, l = .Call (.Name x p) ls [] pos ∧ x = "enumerate" ∧ glB sc x = true := by
      unfold itOk at hc
      split at hc <;> first | (cases hc; done) | (simp only [Bool.and_eq_true, decide_eq_true_eq] at hc; exact ⟨_, _, _, _, rfl, hc.1, hc.2⟩) | (rename_i z; cases z; done) | (rename_i z _; cases z; done)
    simp only [itArgs] at hx
    obtain ⟨ta, tb, tc, rfl⟩ := tg_tup (show isTupT tg = true from ht)
    exact i_enum hn h E (gl_of h hg).1 hx (by rw [ckX_len hx] at hl; simpa [lnOk] using hl) (h2 _ hx)
  | zip =>
    obtain ⟨x, p, ls, pos, rfl, rfl, hg⟩ : ∃ x p ls pos, l = .Call (.Name x p) ls [] pos ∧ x = "zip" ∧ glB sc x = true := by
      unfold itOk at hc
      split at hc <;> first | (cases hc; done) | (simp only [Bool.and_eq_true, decide_eq_true_eq] at hc; exact ⟨_, _, _, _, rfl, hc.1, hc.2⟩) | (rename_i z; cases z; done) | (rename_i z _; cases z; done)
    simp only [itArgs] at hx
    obtain ⟨ta, tb, tc, rfl⟩ := tg_tup (show isTupT tg = true from ht)
    exact i_zip hn h E (gl_of h hg).1 hx (by rw [ckX_len hx] at hl; simpa [lnOk] using hl) (h2 _ hx)
end
end Q
end
section
set_option Elab.async false
set_option linter.all false
set_option maxRecDepth 100000
namespace Q
open PySem PySem.Spec PyProof.Rows L2
/-! targets -/
/-- the slots ts alone differ -/
def Ch (ts : List Nat) (σ σ' : L2.St) : Prop := ∀ i, i ∉ ts → σ'[i]? = σ[i]?
def Pin (pn : List Nat) (σ σ' : L2.St) : Prop := ∀ i ∈ pn, σ'[i]? = σ[i]?
theorem Pin.refl {pn : List Nat} {σ : L2.St} : Pin pn σ σ := fun _ _ => rfl
theorem Pin.trans {pn : List Nat} {σ σ1 σ2 : L2.St} (a : Pin pn σ σ1) (b : Pin pn σ1 σ2) : Pin pn σ σ2 := fun i h => (b i h).trans (a i h)
theorem Pin.of_ch {pn ts : List Nat} {σ σ' : L2.St} (c : Ch ts σ σ') (n : ∀ i ∈ ts, i ∉ pn) : Pin pn σ σ' := fun i h => c i fun z => n i z h
theorem Pin.sub {pn qn : List Nat} {σ σ' : L2.St} (p : Pin pn σ σ') (s : ∀ i ∈ qn, i ∈ pn) : Pin qn σ σ' := fun i h => p i (s i h)
def setsV (pn : List Nat) : List Nat → List D → Sl → Option Sl
  | [], [], S => some S
  | i :: is, d :: ds, S => (setV pn S i d).bind (setsV pn is ds)
  | _, _, _ => none
theorem setV_some {pn : List Nat} {S S1 : Sl} {i : Nat} {d : D} (h : setV pn S i d = some S1) : i < S.length ∧ i ∉ pn ∧ S1 = S.set i (some d) := by
  unfold setV at h
  split at h
  · rename_i q; cases h; exact ⟨q.1, q.2, rfl⟩
  · cases h
theorem bindN_tup {pn is : List Nat} {d : D} {S S1 : Sl} (hl : 1 < is.length) (h : bindN pn is d S = some S1) : ∃ xs, (d = .tup xs ∨ d = .lst xs) ∧ setsV pn is xs S = some S1 := by
  unfold bindN at h
  split at h
  · simp at hl
  · rename_i i j x y
    refine ⟨[x, y], .inl rfl, ?_⟩
    simp only [setsV]
    rw [← h]
    cases setV pn S i x with
    | none => rfl
    | some S2 => simp only [Option.bind]; cases setV pn S2 j y <;> rfl
  · rename_i i j k x y z
    refine ⟨[x, y, z], .inl rfl, ?_⟩
    simp only [setsV]
    rw [← h]
    cases setV pn S i x with
    | none => rfl
    | some S2 =>
      simp only [Option.bind]
      cases setV pn S2 j y with
      | none => rfl
      | some S3 => simp only; cases setV pn S3 k z <;> rfl
  · rename_i i j k l x y z u
    refine ⟨[x, y, z, u], .inl rfl, ?_⟩
    simp only [setsV]
    rw [← h]
    cases setV pn S i x with
    | none => rfl
    | some S2 =>
      simp only [Option.bind]
      cases setV pn S2 j y with
      | none => rfl
      | some S3 =>
        simp only
        cases setV pn S3 k z with
        | none => rfl
        | some S4 => simp only; cases setV pn S4 l u <;> rfl
  · rename_i i j x y
    refine ⟨[x, y], .inr rfl, ?_⟩
    simp only [setsV]
    rw [← h]
    cases setV pn S i x with
    | none => rfl
    | some S2 => simp only [Option.bind]; cases setV pn S2 j y <;> rfl
  · rename_i i j k x y z
    refine ⟨[x, y, z], .inr rfl, ?_⟩
    simp only [setsV]
    rw [← h]
    cases setV pn S i x with
    | none => rfl
    | some S2 =>
      simp only [Option.bind]
      cases setV pn S2 j y with
      | none => rfl
      | some S3 => simp only; cases setV pn S3 k z <;> rfl
  · rename_i i j k l x y z u
    refine ⟨[x, y, z, u], .inr rfl, ?_⟩
    simp only [setsV]
    rw [← h]
    cases setV pn S i x with
    | none => rfl
    | some S2 =>
      simp only [Option.bind]
      cases setV pn S2 j y with
      | none => rfl
      | some S3 =>
        simp only
        cases setV pn S3 k z with
        | none => rfl
        | some S4 => simp only; cases setV pn S4 l u <;> rfl
  · cases h
def LocOk (X : Cx) (N : List Str) (is : List Nat) : Prop := ∀ i ∈ is, ∀ x, N[i]? = some x → Loc X.env.scope x ∧ (X.fn x = true ∨ X.env.scope.names.lookup x = some .local)
section
variable {w : Wd} {X : Cx} {N : List Str} {sc : Scope} {W : WX} {L : Nat}
def gL (w : Wd) (pn is : List Nat) : TGs := fun vs σ H Q => ∃ F S T A ds S1, Rl w F H S σ T A ∧ Prs w.K F H ds vs ∧ setsV pn is ds S = some S1 ∧ ∀ σ' A', Ch is σ σ' → (∀ i ∈ is, i ∉ pn) → Rl w F H S1 σ' T A' → Step A H A' H → Q σ' H
theorem PGs.weak {X : Cx} {es : List Expr} {t t' : TGs} (h : PGs X es t) (k : ∀ v σ H Q, t' v σ H Q → t v σ H Q) : PGs X es t' := ⟨fun pins s σ H v us Q I r q => h.run pins s σ H v us Q I r (k v σ H Q q)⟩
theorem PG.weak {X : Cx} {es : Expr} {t t' : TG} (h : PG X es t) (k : ∀ v σ H Q, t' v σ H Q → t v σ H Q) : PG X es t' := ⟨fun pins s σ H v us Q I r q => h.run pins s σ H v us Q I r (k v σ H Q q)⟩
theorem pgs_L (h : XC w X N sc W L) {pn : List Nat} : ∀ {is : List Nat} {es : List Expr}, ckTs N is es = true → LocOk X N is → PGs X es (gL w pn is)
  | [], [], _, _ => PGs.weak pgs_nil fun vs σ H Q ⟨F, S, T, A, ds, S1, r, p, e, q⟩ => by
    cases ds with
    | nil =>
      cases p
      cases e
      exact ⟨rfl, q σ A (fun _ _ => rfl) (fun _ z => by simp at z) r .refl⟩
    | cons _ _ => simp [setsV] at e
  | [], _ :: _, h, _ => by simp [ckTs] at h
  | _ :: _, [], h, _ => by simp [ckTs] at h
  | i :: is, e :: es, hc, hl => by
    cases e <;> first | (simp [ckTs] at hc; done) | skip
    rename_i x p
    simp only [ckTs, Bool.and_eq_true, decide_eq_true_eq] at hc
    have hx := hl i (by simp) x hc.1
    have ih := pgs_L h (pn := pn) hc.2 fun j hj => hl j (List.mem_cons_of_mem _ hj)
    refine PGs.weak (pgs_cons (pg_name (by rw [h.hN]; exact h.nd) (by rw [h.hN]; exact hc.1) hx.1 hx.2) ih) fun vs σ H Q ⟨F, S, T, A, ds, S1, r, pp, ee, q⟩ => ?_
    cases ds with
    | nil => simp [setsV] at ee
    | cons d ds =>
      cases pp with
      | @cons _ v _ vs' pd pds =>
        refine ⟨v, vs', rfl, ?_⟩
        simp only [setsV] at ee
        obtain ⟨S0, e0, e1⟩ := Option.bind_eq_some_iff.mp ee
        obtain ⟨hi, hn, rfl⟩ := setV_some e0
        obtain ⟨A1, r1, s1⟩ := r.pushP pd
        obtain ⟨A2, r2, s2⟩ := r1.store hi
        refine ⟨F, _, T, A2, ds, S1, r2, pds, e1, fun σ' A' c n r' s' => q σ' A' (fun j hj => ?_) (fun j hj => ?_) r' ((s1.trans s2).trans s')⟩
        · rw [c j fun z => hj (List.mem_cons_of_mem _ z), List.getElem?_set_ne fun z => hj (by simp [z])]
        · rcases List.mem_cons.mp hj with rfl | hj
          · exact hn
          · exact n j hj
def gT (w : Wd) (pn ts : List Nat) : TG := fun v σ H Q => ∃ F S T A d S1, Rl w F H S σ ((d, v) :: T) A ∧ bindN pn ts d S = some S1 ∧ ∀ σ' A', Ch ts σ σ' → (∀ i ∈ ts, i ∉ pn) → Rl w F H S1 σ' T A' → Step A H A' H → Q σ' H
theorem asg_each {N : List Str} {env : Env} : ∀ {is : List Nat} {es : List Expr}, ckTs N is es = true → (assignEach es env).length = is.length ∧ (assignEach es env).findIdx? (·.1) = none
  | [], [], _ => ⟨rfl, rfl⟩
  | [], _ :: _, h => by simp [ckTs] at h
  | _ :: _, [], h => by simp [ckTs] at h
  | i :: is, e :: es, hc => by
    cases e <;> first | (simp [ckTs] at hc; done) | skip
    simp only [ckTs, Bool.and_eq_true, decide_eq_true_eq] at hc
    obtain ⟨a, b⟩ := asg_each (env := env) hc.2
    refine ⟨by simp [assignEach, a], ?_⟩
    simp only [assignEach, List.findIdx?_cons]
    rw [b]
    rfl
theorem pg_or2 {e : Expr} {g g' : TG} (h : PG X e g) (h' : PG X e g') : PG X e (fun v σ H Q => g v σ H Q ∨ g' v σ H Q) := ⟨fun pins s σ H v u Q I r hw => hw.elim (h.run pins s σ H v u Q I r) (h'.run pins s σ H v u Q I r)⟩
theorem pg_T (h : XC w X N sc W L) {pn ts : List Nat} {tg : Expr} (hc : ckTg N ts tg = true) (hl : LocOk X N ts) : PG X tg (gT w pn ts) := by
  unfold ckTg at hc
  split at hc
  · rename_i i x p
    simp only [decide_eq_true_eq] at hc
    have hx := hl i (by simp) x hc
    refine PG.weak (pg_name (by rw [h.hN]; exact h.nd) (by rw [h.hN]; exact hc) hx.1 hx.2) fun v σ H Q ⟨F, S, T, A, d, S1, r, e, q⟩ => ?_
    simp only [bindN] at e
    obtain ⟨hi, hn, rfl⟩ := setV_some e
    obtain ⟨A2, r2, s2⟩ := r.store hi
    exact q _ A2 (fun j hj => by rw [List.getElem?_set_ne fun z => hj (by simp [z])]) (fun j hj => by rw [List.mem_singleton.mp hj]; exact hn) r2 s2
  · rename_i es k p
    simp only [Bool.and_eq_true, decide_eq_true_eq] at hc
    obtain ⟨⟨l1, l2⟩, hc⟩ := hc
    obtain ⟨a1, a2⟩ := asg_each (env := X.env) hc
    refine PG.weak (pg_or2 (pg_tup h.calm (pgs_L h (pn := pn) hc hl) a1 a2) (pg_unl h.calm (pgs_L h (pn := pn) hc hl) a1 a2)) fun v σ H Q ⟨F, S, T, A, d, S1, r, e, q⟩ => ?_
    obtain ⟨xs, ed, e3⟩ := bindN_tup l1 e
    obtain ⟨B, m, _⟩ := r.top
    obtain ⟨A2, r2, s2⟩ := r.tdrop1
    have hlen : ∀ {is : List Nat} {ds : List D} {S S1 : Sl}, setsV pn is ds S = some S1 → ds.length = is.length := by
      intro is
      induction is with
      | nil => intro ds S S1 e; cases ds with
        | nil => rfl
        | cons _ _ => simp [setsV] at e
      | cons i is ih => intro ds S S1 e; cases ds with
        | nil => simp [setsV] at e
        | cons d ds =>
          simp only [setsV] at e
          obtain ⟨S0, _, e1⟩ := Option.bind_eq_some_iff.mp e
          simp [ih e1]
    rcases ed with rfl | rfl
    · obtain ⟨p, vs, rfl, hp, ps⟩ := Mx.tup ⟨B, m⟩
      exact .inl ⟨p, vs, rfl, SqT.of hp, by rw [← ps.len]; exact hlen e3, F, S, T, A2, xs, S1, r2, ps, e3, fun σ' A' c n r' s' => q σ' A' c n r' (s2.trans s')⟩
    · obtain ⟨p, vs, rfl, hp, ps⟩ := Mx.lst ⟨B, m⟩
      exact .inr ⟨p, vs, rfl, SqL.of hp, by rw [← ps.len]; exact hlen e3, F, S, T, A2, xs, S1, r2, ps, e3, fun σ' A' c n r' s' => q σ' A' c n r' (s2.trans s')⟩
  · cases hc

/-! ### what is wanted behind statements -/
def ES (w : Wd) (W : WX) (pn : List Nat) (F : List Addr) (σ : L2.St) (T : List (D × V)) (A : List Addr) (H : Hp) (E : Ends) : Fl → Prop
  | .nx S' => ∀ σ' H' A', Pin pn σ σ' → Rl w F H' S' σ' T A' → Step A H A' H' → E.nx σ' H'
  | .rt d S' => ∀ v σ' H' A', Pin pn σ σ' → Rl w F H' S' σ' ((d, v) :: T) A' → Step A H A' H' → E.rt v H'
  | .bk S' => ∀ σ' H' A', Pin pn σ σ' → Rl w F H' S' σ' T A' → Step A H A' H' → E.bk σ' H'
  | .ct S' => ∀ σ' H' A', Pin pn σ σ' → Rl w F H' S' σ' T A' → Step A H A' H' → E.ct σ' H'
  | .er c S' => ∀ C σ' H' A', w.ecl c = some C → Pin pn σ σ' → Rl w F H' S' σ' T A' → Step A H A' H' → W C none σ' H'
  | .no => False
def tS (w : Wd) (W : WX) (pn : List Nat) (ev : Sl → Fl) : TS := fun E σ H => ∃ F S T A, Rl w F H S σ T A ∧ ES w W pn F σ T A H E (ev S)
end
section
variable {w : Wd} {W : WX} {pn : List Nat} {F : List Addr} {σ σ1 : L2.St} {T U : List (D × V)} {A A1 : List Addr} {H H1 : Hp} {E : Ends} {S : Sl}
theorem Rl.tdrop2 {S : Sl} {x : D × V} (r : Rl w F H S σ (x :: (U ++ T)) A) : ∃ B, Rl w F H S σ (x :: T) B ∧ Step A H B H := by
  obtain ⟨B, p, r1⟩ := r.tperm (T' := U ++ (x :: T)) List.perm_middle.symm
  obtain ⟨C, r2, s2⟩ := r1.tdrop
  exact ⟨C, r2, (step_perm p).trans s2⟩
/-- later, with more on top -/
theorem ES.late {r : Fl} (s : Step A H A1 H1) (p : Pin pn σ σ1) (q : ES w W pn F σ T A H E r) : ES w W pn F σ1 (U ++ T) A1 H1 E r := by
  cases r with
  | nx S' =>
    intro σ' H' A' p' r' s'
    obtain ⟨B, r2, s2⟩ := r'.tdrop
    exact q σ' H' B (p.trans p') r2 ((s.trans s').trans s2)
  | bk S' =>
    intro σ' H' A' p' r' s'
    obtain ⟨B, r2, s2⟩ := r'.tdrop
    exact q σ' H' B (p.trans p') r2 ((s.trans s').trans s2)
  | ct S' =>
    intro σ' H' A' p' r' s'
    obtain ⟨B, r2, s2⟩ := r'.tdrop
    exact q σ' H' B (p.trans p') r2 ((s.trans s').trans s2)
  | rt d S' =>
    intro v σ' H' A' p' r' s'
    obtain ⟨B, r2, s2⟩ := r'.tdrop2
    exact q v σ' H' B (p.trans p') r2 ((s.trans s').trans s2)
  | er c S' =>
    intro C σ' H' A' hc p' r' s'
    obtain ⟨B, r2, s2⟩ := r'.tdrop
    exact q C σ' H' B hc (p.trans p') r2 ((s.trans s').trans s2)
  | no => exact q
theorem ES.late0 {r : Fl} (s : Step A H A1 H1) (p : Pin pn σ σ1) (q : ES w W pn F σ T A H E r) : ES w W pn F σ1 T A1 H1 E r := ES.late (U := []) s p q
/-- an expression first -/
theorem ES.first {α β : Type} {Vr : Wd → Hp → L2.St → α → β → List (D × V) → Prop} {Q' : β → Hp → Prop} {r : R α} {k : α → Sl → Fl} (h : ES w W pn F σ T A H E (r.fl k))
    (g : ∀ a S' v U H' A', r = .ok a S' → Vr w H' σ a v U → Rl w F H' S' σ (U ++ T) A' → Step A H A' H' → ES w W pn F σ T A H E (k a S') → Q' v H') : EV w W Vr F σ T A H Q' r := by
  cases r with
  | ok a S' => exact fun v U H' A' hv hr hs => g a S' v U H' A' rfl hv hr hs h
  | er c S' => exact fun C H' A' hc hr hs => h C σ H' A' hc .refl hr hs
  | no => exact h
theorem ES.next {α β : Type} {Vr : Wd → Hp → L2.St → α → β → List (D × V) → Prop} {Q' : β → Hp → Prop} {r : R α} {k : α → Sl → Fl} {U0 : List (D × V)} (st : Step A H A1 H1) (h : ES w W pn F σ T A H E (r.fl k))
    (g : ∀ a S' v U H2 A2, r = .ok a S' → Vr w H2 σ a v U → Rl w F H2 S' σ (U ++ (U0 ++ T)) A2 → Step A H A2 H2 → Step A1 H1 A2 H2 → ES w W pn F σ T A H E (k a S') → Q' v H2) : EV w W Vr F σ (U0 ++ T) A1 H1 Q' r := by
  cases r with
  | ok a S' => exact fun v U H2 A2 hv hr hs => g a S' v U H2 A2 rfl hv hr (st.trans hs) hs h
  | er c S' =>
    intro C H2 A2 hc hr hs
    obtain ⟨B, r2, s2⟩ := hr.tdrop
    exact h C σ H2 B hc .refl r2 ((st.trans hs).trans s2)
  | no => exact h
end
end Q
end
section
set_option Elab.async false
set_option linter.all false
set_option maxRecDepth 100000
namespace Q
open PySem PySem.Spec PyProof.Rows L2
/-! loops -/
section
variable {w : Wd} {F : List Addr} {σ : L2.St} {T : List (D × V)} {A A1 : List Addr} {H H1 : Hp} {S : Sl}
theorem Rl.held (r : Rl w F H S σ T A) : ∀ b ∈ A, Nt H b := let ⟨_, _, o⟩ := r; Ml.held _ _ o.ml
theorem Rl.prsStep {xs : List D} {vs : List V} (r : Rl w F H S σ T A) (s : Step A H A1 H1) (q : Prs w.K F H xs vs) : Prs w.K F H1 xs vs := by
  refine Prs.keep (fun b o e z => ?_) xs vs q
  rcases z with ⟨_, ob, u, z⟩ | ⟨us, z⟩
  · subst z; exact s.frz b ob u e
  · refine s.keep b o e fun hA => ?_
    obtain ⟨o', e', n⟩ := r.held b hA
    rw [e] at e'; cases e'
    exact n us z
/-- a locked thing stays -/
theorem Mx.lkStep {d : D} {v : V} (r : Rl w F H S σ T A) (s : Step A H A1 H1) (m : Mx w F H (.lk d) v) : Mx w F H1 (.lk d) v := by
  obtain ⟨B, m⟩ := m
  cases m with
  | pr m => cases m
  | lkl a b => exact ⟨_, .lkl (s.frz _ _ _ a) (r.prsStep s b)⟩
  | lkk a b c => exact ⟨_, .lkk (s.frz _ _ _ a) b (r.prsStep s c)⟩
  | lkt a b c => exact ⟨_, .lkt (s.frz _ _ _ a) b (r.prsStep s c)⟩
def plLk (sg : Sg) (S : Sl) : List Arg → Prop
  | [] => True
  | .val _ :: r => plLk sg S r
  | .pl i p :: r => (∃ d, rdS sg S i p = some (.lk d)) ∧ plLk sg S r
/-- what is walked stands later as it did -/
theorem keepMs {as : List Arg} {vs : List V} {U U0 T1 T2 : List (D × V)} {S1 S2 : Sl} {σ2 : L2.St} {A2 : List Addr} {H2 : Hp} {ds : List D} (h : AsV w H1 σ as vs U) (e : argDs w.n.sg S1 as = some ds) (pl : plLk w.n.sg S1 as) (r1 : Rl w F H1 S1 σ (U0 ++ T1) A1) (hU : ∀ x ∈ U, x ∈ U0)
    (r2 : Rl w F H2 S2 σ2 (U0 ++ T2) A2) (s : Step A1 H1 A2 H2) : Ms w F H2 ds vs := by
  induction h generalizing ds with
  | nil => cases e; exact .nil
  | @cons a v U1 U2 as vs h1 h2 ih =>
    unfold argDs at e
    cases e1 : argD w.n.sg S1 a with
    | none => rw [e1] at e; simp at e
    | some d =>
      cases e2 : argDs w.n.sg S1 as with
      | none => rw [e1, e2] at e; simp at e
      | some ds' =>
        rw [e1, e2] at e
        simp at e
        subst e
        cases h1 with
        | val =>
          refine .cons ?_ (ih e2 pl (fun x hx => hU x (List.mem_append_right _ hx)))
          simp only [argD, Option.some.injEq] at e1
          subst e1
          rename_i d0
          obtain ⟨B, m, _⟩ := r2.mem (x := (d0, v)) (List.mem_append_left _ (hU (d0, v) (by simp)))
          exact ⟨B, m⟩
        | pl pv =>
          refine .cons ?_ (ih e2 pl.2 (fun x hx => hU x (List.mem_append_right _ hx)))
          have mx := argMx (U := []) rfl r1 (fun x hx => by simp at hx) (.pl pv) e1
          obtain ⟨d', ed⟩ := pl.1
          simp only [argD, ed, D.lin, if_true, Option.some.injEq] at e1
          subst e1
          exact Mx.lkStep r1 s mx
end
section
variable {w : Wd} {X : Cx} {N : List Str} {sc : Scope} {W : WX} {L : Nat} {cf : Nat → List D → FR} {n : Nm} {tg : Expr}
/-- a walk that locks nothing -/
def tF (w : Wd) (W : WX) (pn : List Nat) (k : IK) (ts : List Nat) (eva : Sl → R (List Arg)) (body : Sl → Fl) : TS := fun E σ H => ∃ F S T A, Rl w F H S σ T A ∧ match eva S with
  | .ok as S1 => ∃ ds xs, argDs w.n.sg S1 as = some ds ∧ itemsOf k ds = some xs ∧ walkOk ds = true ∧ plLk w.n.sg S1 as ∧ ES w W pn F σ T A H E (loopF pn body ts xs S1)
  | .er c S1 => ∀ C H' A', w.ecl c = some C → Rl w F H' S1 σ T A' → Step A H A' H' → W C none σ H'
  | .no => False
theorem for_core {pn ts : List Nat} {k : IK} {eva : Sl → R (List Arg)} {body : Sl → Fl} {it : Expr} {st : List Stmt} {pos : Pos} (hp : PassesOwn (model X.prog X.w) X.A X.env X.xe) (hc : X.calm = true) (hi : PI X tg it (tI w W k eva)) (hg : PG X tg (gT w pn ts)) (hb : PSs X st (tS w W pn body))
    (hs : ∀ x, foldedSetIterable it X.env x = pure x) : PS X (.For tg it st [] pos) (tF w W pn k ts eva body) := by
  refine PS.weak (ps_for hp hc hi hg hb hs) fun E σ H ⟨F, S, T, A, r, q⟩ => ?_
  refine ⟨F, S, T, A, r, ?_⟩
  cases ea : eva S with
  | no => simp only [ea] at q
  | er c S1 => simp only [ea] at q ⊢; exact q
  | ok as S1 =>
    simp only [ea] at q ⊢
    obtain ⟨ds, xs, e1, e2, e3, pl, q⟩ := q
    refine ⟨ds, xs, e1, e2, e3, fun vs U H1 A1 av r1 s1 J hJ => ?_⟩
    let I : Nat → L2.St → Hp → Prop := fun i σ' H' => ∃ S' A', Rl w F H' S' σ' (U ++ T) A' ∧ Step A1 H1 A' H' ∧ Pin pn σ σ' ∧ ES w W pn F σ T A H E (loopF pn body ts (xs.drop i) S')
    refine ⟨fun i m σ' H' => m = xs.length - i ∧ I i σ' H', ⟨_, rfl, S1, A1, r1, .refl, .refl, by simpa using q⟩, ?_⟩
    rintro i m σ' H' ⟨rfl, S', A', r', s', p', q'⟩
    have ms := keepMs av e1 pl r1 (fun _ h => h) r' s'
    obtain ⟨j1, j2⟩ := hJ H' ms s'.frz
    by_cases hi : i < xs.length
    · right
      have hx : xs[i]? = some xs[i] := List.getElem?_eq_getElem hi
      obtain ⟨go, yl⟩ := j1 i _ hx
      refine ⟨go, I (i + 1), fun σ2 H2 h2 => ⟨xs.length - (i + 1), by omega, rfl, h2⟩, fun v H2 hy => ?_⟩
      obtain ⟨ext, pv⟩ := yl v H2 hy
      obtain ⟨A2, r2, s2⟩ := r'.push (d := xs[i]) (v := v) ext (B := []) (fun b hb => by simp at hb) List.nodup_nil (.pr pv)
      rw [List.drop_eq_getElem_cons hi] at q'
      simp only [loopF] at q'
      cases eb : bindN pn ts xs[i] S' with
      | none => simp only [eb] at q'; exact q'.elim
      | some S2 =>
        simp only [eb] at q'
        refine ⟨F, S', U ++ T, A2, _, S2, r2, eb, fun σ3 A3 c3 n3 r3 s3 => ⟨F, S2, U ++ T, A3, r3, ?_⟩⟩
        have p3 : Pin pn σ σ3 := p'.trans (Pin.of_ch c3 n3)
        have st : Step A1 H1 A3 H2 := (s'.trans s2).trans s3
        cases er : body S2 with
        | no => simp only [er] at q'; exact q'.elim
        | nx S4 =>
          simp only [er] at q'
          exact fun σ4 H4 A4 p4 r4 s4 => ⟨S4, A4, r4, st.trans s4, p3.trans p4, q'⟩
        | ct S4 =>
          simp only [er] at q'
          exact fun σ4 H4 A4 p4 r4 s4 => ⟨S4, A4, r4, st.trans s4, p3.trans p4, q'⟩
        | bk S4 =>
          simp only [er] at q'
          intro σ4 H4 A4 p4 r4 s4
          obtain ⟨B, r5, s5⟩ := r4.tdrop
          exact q' σ4 H4 B (p3.trans p4) r5 (((s1.trans st).trans s4).trans s5)
        | rt d S4 =>
          simp only [er] at q'
          intro v4 σ4 H4 A4 p4 r4 s4
          obtain ⟨B, r5, s5⟩ := r4.tdrop2
          exact q' v4 σ4 H4 B (p3.trans p4) r5 (((s1.trans st).trans s4).trans s5)
        | er c S4 =>
          simp only [er] at q'
          intro C σ4 H4 A4 hc p4 r4 s4
          obtain ⟨B, r5, s5⟩ := r4.tdrop
          exact q' C σ4 H4 B hc (p3.trans p4) r5 (((s1.trans st).trans s4).trans s5)
    · left
      refine ⟨j2 i (by omega), ?_⟩
      rw [List.drop_eq_nil_of_le (by omega)] at q'
      simp only [loopF] at q'
      obtain ⟨B, r5, s5⟩ := r'.tdrop
      exact q' σ' H' B p' r5 ((s1.trans s').trans s5)
end
/-! ### locks -/
section
variable {w : Wd} {F : List Addr} {σ : L2.St} {T : List (D × V)} {A A1 : List Addr} {H H1 : Hp} {S : Sl}
/-- the kinds that are locked -/
def Lkb (u : HO) : Prop := (∃ vs, u = .lst vs) ∨ (∃ ws, u = .dK ws) ∨ ∃ ws, u = .dT ws
theorem Lkb.mut {u : HO} (h : Lkb u) : Mut (some u) := by rcases h with ⟨_, rfl⟩ | ⟨_, rfl⟩ | ⟨_, rfl⟩ <;> trivial
theorem Lkb.tup {u : HO} (h : Lkb u) : ∀ vs, u ≠ .tup vs := by rcases h with ⟨_, rfl⟩ | ⟨_, rfl⟩ | ⟨_, rfl⟩ <;> intro _ z <;> cases z
theorem Lkb.ins {u : HO} (h : Lkb u) : ∀ C dx ws, u ≠ .ins C dx ws := by rcases h with ⟨_, rfl⟩ | ⟨_, rfl⟩ | ⟨_, rfl⟩ <;> intro _ _ _ z <;> cases z
theorem Lkb.frz {u : HO} (h : Lkb u) : ∀ ob x, u ≠ .frz ob x := by rcases h with ⟨_, rfl⟩ | ⟨_, rfl⟩ | ⟨_, rfl⟩ <;> intro _ _ z <;> cases z
/-- what stands at a place is locked -/
theorem lock_at {d : D} {S2 : Sl} {i : Nat} {p : List Nat} (r : Rl w F H S σ T A) (e : rdS w.n.sg S i p = some d) (hd : (∃ xs, d = .lst xs) ∨ (∃ xs, d = .dk xs) ∨ ∃ xs, d = .dt xs) (e1 : wrS w.n.sg S i p (.lk d) = some S2) :
    ∃ a u, PV w H σ i p (.ref a) ∧ H a = some u ∧ Lkb u ∧ a ∈ A ∧ a ∉ F ∧ ∀ od, ∃ A2, Rl w (a :: F) (upd H a (.frz od u)) S2 σ T A2 ∧ Step A H A2 (upd H a (.frz od u)) := by
  have hl : d.lin = true := by rcases hd with ⟨_, rfl⟩ | ⟨_, rfl⟩ | ⟨_, rfl⟩ <;> rfl
  obtain ⟨v, B0, pv, m0, sb⟩ := r.readP e hl
  obtain ⟨B, m, nd, k⟩ := r.changeF e hl e1 pv
  rcases hd with ⟨xs, rfl⟩ | ⟨xs, rfl⟩ | ⟨xs, rfl⟩
  · cases m with
    | pr m => cases m
    | @lst a _ vs h1 q1 =>
      have aA : a ∈ A := by
        cases m0 with
        | pr m0 => cases m0
        | lst _ _ => exact sb _ (by simp)
      have lb : Lkb (.lst vs) := .inl ⟨vs, rfl⟩
      refine ⟨a, .lst vs, pv, h1, lb, aA, fun z => (by obtain ⟨ob, x, e⟩ := r.fl a z; rw [h1] at e; cases e), fun od => ?_⟩
      exact k (a :: F) _ [a] (fun b ob x e n m => (List.mem_cons.mp m).elim (fun z => by rw [z, h1] at e; cases e) n) (.lkl upd_same (prs_lock h1 lb.tup lb.frz q1)) (by simp) (fr_lock r.fl h1 lb.frz) (step_upd h1 lb.tup lb.ins (by intro _ z; cases z) lb.frz)
  · cases m with
    | pr m => cases m
    | @dk a _ ws h1 e2 q1 =>
      have aA : a ∈ A := by
        cases m0 with
        | pr m0 => cases m0
        | dk _ _ _ => exact sb _ (by simp)
      have lb : Lkb (.dK ws) := .inr (.inl ⟨ws, rfl⟩)
      refine ⟨a, .dK ws, pv, h1, lb, aA, fun z => (by obtain ⟨ob, x, e⟩ := r.fl a z; rw [h1] at e; cases e), fun od => ?_⟩
      exact k (a :: F) _ [a] (fun b ob x e n m => (List.mem_cons.mp m).elim (fun z => by rw [z, h1] at e; cases e) n) (.lkk upd_same e2 (prs_lock h1 lb.tup lb.frz q1)) (by simp) (fr_lock r.fl h1 lb.frz) (step_upd h1 lb.tup lb.ins (by intro _ z; cases z) lb.frz)
  · cases m with
    | pr m => cases m
    | @dt a _ ws h1 e2 q1 =>
      have aA : a ∈ A := by
        cases m0 with
        | pr m0 => cases m0
        | dt _ _ _ => exact sb _ (by simp)
      have lb : Lkb (.dT ws) := .inr (.inr ⟨ws, rfl⟩)
      refine ⟨a, .dT ws, pv, h1, lb, aA, fun z => (by obtain ⟨ob, x, e⟩ := r.fl a z; rw [h1] at e; cases e), fun od => ?_⟩
      exact k (a :: F) _ [a] (fun b ob x e n m => (List.mem_cons.mp m).elim (fun z => by rw [z, h1] at e; cases e) n) (.lkt upd_same e2 (prs_lock h1 lb.tup lb.frz q1)) (by simp) (fr_lock r.fl h1 lb.frz) (step_upd h1 lb.tup lb.ins (by intro _ z; cases z) lb.frz)
theorem FV.mono {H' : Hp} (k : ∀ b C dx ws, H b = some (.ins C dx ws) → H' b = some (.ins C dx ws)) (n : ∀ a, Nt H a → Nt H' a) : ∀ {p : List Nat} {v0 v : V}, FV w H v0 p v → FV w H' v0 p v
  | [], v0, v, ⟨e, a, ea, h⟩ => ⟨e, a, ea, n a h⟩
  | f :: r, v0, v, ⟨a, C, dx, ws, x, e, h, l, q⟩ => ⟨a, C, dx, ws, x, e, k _ _ _ _ h, l, FV.mono k n q⟩
/-- .. is unlocked -/
theorem unlock_at {d : D} {S2 : Sl} {i : Nat} {p : List Nat} {a : Addr} {od : Obj} {u : HO} (r : Rl w (a :: F) H S σ T A) (aF : a ∉ F) (e : rdS w.n.sg S i p = some (.lk d)) (e1 : wrS w.n.sg S i p d = some S2) (pv : PV w H σ i p (.ref a)) (ha : H a = some (.frz od u)) :
    ∃ A2, Rl w F (upd H a u) S2 σ T A2 ∧ A.Perm A2 := by
  obtain ⟨S1, w1, w2, w3⟩ := wrS_two e1
  obtain ⟨v, A1, pu, r1, q1⟩ := r.takeP e w1 rfl
  have ev := pv.inj pu
  subst ev
  obtain ⟨Ls, l, o⟩ := r1
  obtain ⟨B, q2, o2⟩ := o.perm (show (Ls ++ ((D.lk d, V.ref a) :: T)).Perm ((D.lk d, V.ref a) :: (Ls ++ T)) from List.perm_middle)
  have nd2 := o2.nd
  have fr2 := o2.fr
  cases o2.ml with
  | @cons _ _ _ B0 BR m mr =>
    have nn := List.nodup_append.mp nd2
    -- the kind
    have key : B0 = [a] ∧ Lkb u ∧ ∀ H', H' a = some u → (∀ xs vs, Prs w.K (a :: F) H xs vs → Prs w.K F H' xs vs) → Mr w F H' d (.ref a) [a] := by
      cases m with
      | pr m => cases m
      | lkl h1 q =>
        rw [ha] at h1; cases h1
        exact ⟨rfl, .inl ⟨_, rfl⟩, fun H' h' k => .lst h' (k _ _ q)⟩
      | lkk h1 e2 q =>
        rw [ha] at h1; cases h1
        exact ⟨rfl, .inr (.inl ⟨_, rfl⟩), fun H' h' k => .dk h' e2 (k _ _ q)⟩
      | lkt h1 e2 q =>
        rw [ha] at h1; cases h1
        exact ⟨rfl, .inr (.inr ⟨_, rfl⟩), fun H' h' k => .dt h' e2 (k _ _ q)⟩
    obtain ⟨rfl, lb, mk⟩ := key
    have at1 : ∀ vs, HO.frz od u ≠ .tup vs := by intro vs z; cases z
    have ba : ∀ b o, H b = some o → Fz (a :: F) b o → b ≠ a := fun b o eb z => by
      rintro rfl
      rcases z with ⟨z, _⟩ | ⟨vs, z⟩
      · exact z (by simp)
      · rw [ha] at eb; cases eb; cases z
    have m2 : Mr w F (upd H a u) d (.ref a) [a] := mk _ upd_same fun xs vs q => Prs.keepF (fun b o eb z => ⟨fun n => .inl fun m => n (List.mem_cons_of_mem _ m), by rw [upd_ne (ba b o eb z)]; exact eb⟩) _ _ q
    have mr2 : Ml w F (upd H a u) (Ls ++ T) BR := by
      refine Ml.keepF (fun b ob x _ n m => n (List.mem_cons_of_mem _ m)) _ _ (fun b x eb z => ?_) mr
      have hb : b ≠ a := by
        rcases z with z | z
        · rintro rfl; exact nn.2.2 b (by simp) b z rfl
        · exact ba b x eb z
      rw [upd_ne hb]; exact eb
    have o3 : Ow w F (upd H a u) ((d, .ref a) :: (Ls ++ T)) ([a] ++ BR) := ⟨.cons m2 mr2, nd2, fun x hx => by
      obtain ⟨ob, y, eo⟩ := fr2 x (List.mem_cons_of_mem _ hx)
      have hb : x ≠ a := fun z => aF (by rw [← z]; exact hx)
      exact ⟨ob, y, by rw [upd_ne hb]; exact eo⟩⟩
    obtain ⟨B2, q3, o4⟩ := o3.perm (show ((d, V.ref a) :: (Ls ++ T)).Perm (Ls ++ ((d, V.ref a) :: T)) from List.perm_middle.symm)
    have r4 : Rl w F (upd H a u) S1 σ ((d, .ref a) :: T) B2 := ⟨Ls, l, o4⟩
    have pv2 : PV w (upd H a u) σ i p (.ref a) := by
      obtain ⟨v0, e0, fv⟩ := pv
      refine ⟨v0, e0, FV.mono (fun b C dx ws hb => ?_) (fun b ⟨ob, hb, n⟩ => ?_) fv⟩
      · rw [upd_ne (fun z => by rw [z, ha] at hb; cases hb)]; exact hb
      · by_cases hz : b = a
        · exact ⟨u, by rw [hz]; exact upd_same, lb.tup⟩
        · exact ⟨ob, by rw [upd_ne hz]; exact hb, n⟩
    obtain ⟨A3, r5, q5⟩ := r4.putP w2 w3 pv2
    exact ⟨A3, r5, ((q1.trans q2).trans q3).trans q5⟩
theorem step_unlock {A2 : List Addr} {a : Addr} {od : Obj} {u : HO} (h : H a = some u) (lb : Lkb u) (aA : a ∈ A) (s : Step A H A1 H1) (h1 : H1 a = some (.frz od u)) (q : A1.Perm A2) : Step A H A2 (upd H1 a u) where
  keep := fun b o e hb => by rw [upd_ne (fun z => hb (by rw [z]; exact aA))]; exact s.keep b o e hb
  new := fun b hb => s.new b (q.mem_iff.mpr hb)
  there := fun b o e => by
    by_cases hz : b = a
    · exact ⟨u, by rw [hz]; exact upd_same⟩
    · obtain ⟨o', e'⟩ := s.there b o e
      exact ⟨o', by rw [upd_ne hz]; exact e'⟩
  stab := fun b C dx ws e => by
    have hz : b ≠ a := fun z => by rw [z, h] at e; exact lb.ins _ _ _ (Option.some.inj e)
    obtain ⟨ws', e', k⟩ := s.stab b C dx ws e
    exact ⟨ws', by rw [upd_ne hz]; exact e', k⟩
  nt := fun b hb => by
    by_cases hz : b = a
    · exact ⟨u, by rw [hz]; exact upd_same, lb.tup⟩
    · obtain ⟨o', e', n⟩ := s.nt b hb
      exact ⟨o', by rw [upd_ne hz]; exact e', n⟩
  frz := fun b ob x e => by
    have hz : b ≠ a := fun z => by rw [z, h] at e; exact lb.frz _ _ (Option.some.inj e)
    rw [upd_ne hz]; exact s.frz b ob x e
/-- where a walk locks, its one argument is a place -/
theorem arg_pl {sg : Sg} {cf : Nat → List D → FR} {e : Ex} {S S1 : Sl} {i : Nat} {p : List Nat} (h : argOf sg S e (evE sg cf e S) = .ok (.pl i p) S1) : S1 = S ∧ pathOf e = some (i, p) ∧ ∃ d, rdS sg S i p = some d ∧ d.lin = true := by
  unfold argOf at h
  split at h
  · rename_i a ha
    cases h
    unfold placeOf at ha
    split at ha
    · rename_i i' p' hp
      split at ha
      · rename_i d hd
        split at ha
        · rename_i hl
          cases ha
          exact ⟨rfl, hp, d, hd, hl⟩
        · cases ha
      · cases ha
    · cases ha
  · cases e2 : evE sg cf e S with
    | no => rw [e2] at h; cases h
    | er c S2 => rw [e2] at h; cases h
    | ok d S2 => rw [e2] at h; simp only [R.bind] at h; cases h
theorem evA_one {sg : Sg} {cf : Nat → List D → FR} {es : Exs} {S S1 : Sl} {i : Nat} {p : List Nat} (h : evA sg cf es S = .ok [.pl i p] S1) : ∃ e, es = .cons e .nil ∧ S1 = S ∧ pathOf e = some (i, p) ∧ ∃ d, rdS sg S i p = some d ∧ d.lin = true := by
  have hl := evA_len h
  cases es with
  | nil => simp [lenX] at hl
  | cons e es' =>
    cases es' with
    | cons _ _ => simp [lenX] at hl
    | nil =>
      simp only [evA] at h
      cases h1 : argOf sg S e (evE sg cf e S) with
      | no => simp only [h1, R.bind] at h; cases h
      | er c S2 => simp only [h1, R.bind] at h; cases h
      | ok a S2 =>
        simp only [h1, R.bind, Q.R.ok.injEq, List.cons.injEq, and_true] at h
        obtain ⟨rfl, rfl⟩ := h
        obtain ⟨a1, a2, a3⟩ := arg_pl h1
        exact ⟨e, rfl, a1, a2, a3⟩
theorem evA_at {sg : Sg} {cf : Nat → List D → FR} {e : Ex} {S : Sl} {i : Nat} {p : List Nat} {d : D} (hp : pathOf e = some (i, p)) (hd : rdS sg S i p = some d) (hl : d.lin = true) : evA sg cf (.cons e .nil) S = .ok [.pl i p] S := by
  simp only [evA, argOf, placeOf, hp, hd, hl, if_true, R.bind]
def slotOf : Exs → Nat
  | .cons e .nil => match pathOf e with
    | some (i, _) => i
    | none => 0
  | _ => 0
theorem items_lk {k : IK} {d : D} {xs : List D} (hd : (∃ ys, d = .lst ys) ∨ (∃ ys, d = .dk ys) ∨ ∃ ys, d = .dt ys) (h : itemsOf k [d] = some xs) : itemsOf k [.lk d] = some xs := by
  rcases hd with ⟨ys, rfl⟩ | ⟨ys, rfl⟩ | ⟨ys, rfl⟩
  · cases k <;> first | exact h | (simp [itemsOf, rngOf] at h)
  · cases k <;> first | exact h | (simp [itemsOf, rngOf, D.items] at h)
  · cases k <;> first | exact h | (simp [itemsOf, rngOf, D.items] at h)
end
end Q
end
section
set_option Elab.async false
set_option linter.all false
set_option maxRecDepth 100000
namespace Q
open PySem PySem.Spec PyProof.Rows L2
section
variable {w : Wd} {X : Cx} {N : List Str} {sc : Scope} {W : WX} {L : Nat} {cf : Nat → List D → FR} {n : Nm} {tg : Expr}
theorem wrS_rd {S S' : Sl} {i : Nat} {p : List Nat} {x : D} (h : wrS w.n.sg S i p x = some S') : rdS w.n.sg S' i p = some x := by
  obtain ⟨d0, d1, e0, ew, rfl⟩ := wrS_get h
  have hi := (List.getElem?_eq_some_iff.mp e0).1
  have es : (S.set i (some d1))[i]? = some (some d1) := List.getElem?_set_self hi
  simp only [rdS, es]
  exact (wrF_rd ew).1
theorem unl_nil {pn : List Nat} {F : List Addr} {σ : L2.St} {T : List (D × V)} {A : List Addr} {H : Hp} {E : Ends} {r : Fl} {as : List Arg} (q : ES w W pn F σ T A H E (r.unl [] (unlockS w.n.sg as []))) : ES w W pn F σ T A H E r := by
  cases r with
  | nx S => exact q
  | rt d S => exact q
  | bk S => exact q.elim
  | ct S => exact q.elim
  | er c S => exact q
  | no => exact q
theorem vals_pl {sg : Sg} {S : Sl} : ∀ {as : List Arg}, allVal as = true → plLk sg S as
  | [], _ => trivial
  | .val d :: r, h => vals_pl (as := r) (by cases d <;> first | exact h | cases h)
  | .pl _ _ :: _, h => by simp [allVal] at h
theorem vals_ok {sg : Sg} {S : Sl} {as : List Arg} {ds : List D} (h : allVal as = true) (e : argDs sg S as = some ds) : walkOk ds = true := by
  match as, h with
  | [], _ => cases e; rfl
  | .val d :: r, h =>
    unfold argDs at e
    simp only [argD] at e
    split at e
    · rename_i d' ds' e1 e2
      cases e1; cases e
      cases d <;> first | rfl | (cases h; done) | (unfold walkOk; split <;> first | rfl | (rename_i z; cases z))
    · cases e
/-- the end behind a lock -/
def lkE (E : Ends) (a : Addr) (u : HO) (od : Obj) : Ends := ⟨fun σ' H' => H' a = some (.frz od u) ∧ E.nx σ' (upd H' a u), fun v H' => H' a = some (.frz od u) ∧ E.rt v (upd H' a u), fun σ' H' => H' a = some (.frz od u) ∧ E.bk σ' (upd H' a u), fun σ' H' => H' a = some (.frz od u) ∧ E.ct σ' (upd H' a u)⟩
theorem ES.unl {pn : List Nat} {F : List Addr} {σ : L2.St} {T : List (D × V)} {A A2 : List Addr} {H : Hp} {E : Ends} {r : Fl} {i : Nat} {p : List Nat} {a : Addr} {u : HO} {od : Obj} (q : ES w W pn F σ T A H E (r.unl [i] (unlockS w.n.sg [.pl i p] [i])))
    (pv : PV w H σ i p (.ref a)) (ha : H a = some u) (lb : Lkb u) (aA : a ∈ A) (aF : a ∉ F) (s2 : Step A H A2 (upd H a (.frz od u))) : ES w W (i :: pn) (a :: F) σ T A2 (upd H a (.frz od u)) (lkE E a u od) r := by
  have go : ∀ {S3 : Sl} {T' : List (D × V)} {σ' : L2.St} {H' : Hp} {A' : List Addr} {P : Sl → Prop}, Pin (i :: pn) σ σ' → Rl w (a :: F) H' S3 σ' T' A' → Step A2 (upd H a (.frz od u)) A' H' → (∀ S4, unlockS w.n.sg [.pl i p] [i] S3 = some S4 → P S4) → ((∃ S4, unlockS w.n.sg [.pl i p] [i] S3 = some S4)) →
      H' a = some (.frz od u) ∧ ∃ S4 A4, P S4 ∧ Rl w F (upd H' a u) S4 σ' T' A4 ∧ Step A H A4 (upd H' a u) := fun {S3 T' σ' H' A' P} p' r' s' hP ⟨S4, e4⟩ => by
    have h1 : H' a = some (.frz od u) := s'.frz _ _ _ upd_same
    have hP4 := hP S4 e4
    simp only [unlockS] at e4
    split at e4
    · rename_i d ed
      have pv' : PV w H' σ' i p (.ref a) := by
        obtain ⟨v0, e0, fv⟩ := pv.step (s2.trans s')
        exact ⟨v0, by rw [p' i (by simp)]; exact e0, fv⟩
      obtain ⟨A4, r4, q4⟩ := unlock_at r' aF ed e4 pv' h1
      exact ⟨h1, S4, A4, hP4, r4, step_unlock ha lb aA (s2.trans s') h1 q4⟩
    · cases e4
  cases r with
  | nx S3 =>
    simp only [Fl.unl] at q
    cases e4 : unlockS w.n.sg [.pl i p] [i] S3 with
    | none => simp only [e4] at q; exact q.elim
    | some S4 =>
      simp only [e4] at q
      intro σ' H' A' p' r' s'
      obtain ⟨h1, S5, A4, e5, r4, s4⟩ := go (P := fun S => S = S4) p' r' s' (fun S5 e5 => by rw [e4] at e5; cases e5; rfl) ⟨S4, e4⟩
      subst e5
      exact ⟨h1, q σ' _ A4 (p'.sub fun j hj => List.mem_cons_of_mem _ hj) r4 s4⟩
  | rt d S3 =>
    simp only [Fl.unl] at q
    cases e4 : unlockS w.n.sg [.pl i p] [i] S3 with
    | none => simp only [e4] at q; exact q.elim
    | some S4 =>
      simp only [e4] at q
      intro v σ' H' A' p' r' s'
      obtain ⟨h1, S5, A4, e5, r4, s4⟩ := go (P := fun S => S = S4) p' r' s' (fun S5 e5 => by rw [e4] at e5; cases e5; rfl) ⟨S4, e4⟩
      subst e5
      exact ⟨h1, q v σ' _ A4 (p'.sub fun j hj => List.mem_cons_of_mem _ hj) r4 s4⟩
  | bk S => exact q.elim
  | ct S => exact q.elim
  | er c S => exact q.elim
  | no => exact q
theorem s_for {pn ts : List Nat} {k : IK} {es : Exs} {body : Cms} {it : Expr} {st : List Stmt} {pos : Pos} (h : XC w X N sc W L) (hp : PassesOwn (model X.prog X.w) X.A X.env X.xe) (hi : PI X tg it (tI w W k (evA w.n.sg cf es))) (hg : ∀ pn, PG X tg (gT w pn ts)) (hb : ∀ pn, PSs X st (tS w W pn (evCs w.n.sg cf pn body)))
    (hs : ∀ x, foldedSetIterable it X.env x = pure x) : PS X (.For tg it st [] pos) (tS w W pn (evC w.n.sg cf pn (.for_ ts k es body))) := by
  refine PS.weak (PS.or (for_core hp h.calm hi (hg pn) (hb pn) hs) (ps_lock (for_core hp h.calm hi (hg (slotOf es :: pn)) (hb (slotOf es :: pn)) hs))) fun E σ H ⟨F, S, T, A, r, q⟩ => ?_
  simp only [evC] at q
  cases ea : evA w.n.sg cf es S with
  | no => simp only [ea, R.fl] at q; exact q.elim
  | er c S1 =>
    simp only [ea, R.fl] at q
    exact .inl ⟨F, S, T, A, r, by rw [ea]; exact fun C H' A' hc r' s' => q C σ H' A' hc .refl r' s'⟩
  | ok as S1 =>
    simp only [ea, R.fl] at q
    cases ed : argDs w.n.sg S1 as with
    | none => simp only [ed] at q; exact q.elim
    | some ds =>
      simp only [ed] at q
      split at q
      · rename_i xs S2 ls ei el
        have left : ls = [] → S2 = S1 → walkOk ds = true → plLk w.n.sg S1 as → _ := fun h1 h2 h3 h4 => by
          subst h1; subst h2
          exact Or.inl (b := tLock (tF w W (slotOf es :: pn) k ts (evA w.n.sg cf es) (evCs w.n.sg cf (slotOf es :: pn) body)) E σ H) (show tF w W pn k ts (evA w.n.sg cf es) (evCs w.n.sg cf pn body) E σ H from ⟨F, S, T, A, r, by rw [ea]; exact ⟨ds, xs, ed, ei, h3, h4, unl_nil q⟩⟩)
        have right : ∀ i p d, as = [.pl i p] → rdS w.n.sg S1 i p = some d → ((∃ ys, d = .lst ys) ∨ (∃ ys, d = .dk ys) ∨ ∃ ys, d = .dt ys) → wrS w.n.sg S1 i p (.lk d) = some S2 → ls = [i] → tLock (tF w W (slotOf es :: pn) k ts (evA w.n.sg cf es) (evCs w.n.sg cf (slotOf es :: pn) body)) E σ H := fun i p d h1 h2 h3 h4 h5 => by
          subst h1; subst h5
          obtain ⟨e, rfl, rfl, hp', _⟩ := evA_one ea
          have hl : d.lin = true := by rcases h3 with ⟨_, rfl⟩ | ⟨_, rfl⟩ | ⟨_, rfl⟩ <;> rfl
          have hso : slotOf (.cons e .nil) = i := by simp only [slotOf, hp']
          rw [hso] at *
          obtain ⟨a, u, pv, ha, lb, aA, aF, kk⟩ := lock_at r h2 h3 h4
          refine ⟨a, u, ha, lb.mut, fun od => ?_⟩
          obtain ⟨A2, r2, s2⟩ := kk od
          have rd2 := wrS_rd h4
          refine ⟨a :: F, S2, T, A2, r2, ?_⟩
          rw [evA_at hp' rd2 rfl]
          refine ⟨[.lk d], xs, by simp only [argDs, argD, rd2, D.lin, if_true], items_lk h3 ?_, rfl, ⟨⟨d, rd2⟩, trivial⟩, ES.unl q pv ha lb aA aF s2⟩
          simp only [argDs, argD, h2, hl, if_true, Option.some.injEq] at ed
          rw [ed]; exact ei
        unfold lockS at el
        split at el
        · rename_i i p
          split at el
          · rename_i d er
            cases el
            refine left rfl rfl ?_ ⟨⟨d, er⟩, trivial⟩
            simp only [argDs, argD, er, D.lin, if_true, Option.some.injEq] at ed
            rw [← ed]; rfl
          · rename_i ys er
            obtain ⟨S3, e3, e4⟩ := Option.map_eq_some_iff.mp el
            cases e4
            exact .inr (right i p _ rfl er (.inl ⟨ys, rfl⟩) e3 rfl)
          · rename_i ys er
            obtain ⟨S3, e3, e4⟩ := Option.map_eq_some_iff.mp el
            cases e4
            exact .inr (right i p _ rfl er (.inr (.inl ⟨ys, rfl⟩)) e3 rfl)
          · rename_i ys er
            obtain ⟨S3, e3, e4⟩ := Option.map_eq_some_iff.mp el
            cases e4
            exact .inr (right i p _ rfl er (.inr (.inr ⟨ys, rfl⟩)) e3 rfl)
          · cases el
        · split at el
          · rename_i hv
            cases el
            exact left rfl rfl (vals_ok hv ed) (vals_pl hv)
          · cases el
      · exact q.elim
/-! ### the other statements -/
theorem s_seq {pn : List Nat} {c : Cm} {cs : Cms} {st : Stmt} {sts : List Stmt} (h1 : PS X st (tS w W pn (evC w.n.sg cf pn c))) (h2 : PSs X sts (tS w W pn (evCs w.n.sg cf pn cs))) : PSs X (st :: sts) (tS w W pn (evCs w.n.sg cf pn (.cons c cs))) := by
  refine PSs.weak (pss_cons h1 h2) fun E σ H ⟨F, S, T, A, r, q⟩ => ⟨F, S, T, A, r, ?_⟩
  simp only [evCs] at q
  cases ec : evC w.n.sg cf pn c S with
  | nx S1 =>
    simp only [ec] at q
    exact fun σ' H' A' p' r' s' => ⟨F, S1, T, A', r', ES.late0 s' p' q⟩
  | rt d S1 => simp only [ec] at q; exact q
  | bk S1 => simp only [ec] at q; exact q
  | ct S1 => simp only [ec] at q; exact q
  | er c S1 => simp only [ec] at q; exact q
  | no => simp only [ec] at q; exact q
theorem s_nil {pn : List Nat} : PSs X [] (tS w W pn (evCs w.n.sg cf pn .nil)) := PSs.weak pss_nil fun E σ H ⟨F, S, T, A, r, q⟩ => by
  simp only [evCs] at q
  exact q σ H A .refl r .refl
theorem s_ite {pn : List Nat} {c : Ex} {a b : Cms} {t : Expr} {l r : List Stmt} {pos : Pos} (hc : PT X t (tT w W (evE w.n.sg cf c))) (ha : PSs X l (tS w W pn (evCs w.n.sg cf pn a))) (hb : PSs X r (tS w W pn (evCs w.n.sg cf pn b))) : PS X (.If t l r pos) (tS w W pn (evC w.n.sg cf pn (.ite c a b))) := by
  refine PS.weak (ps_if hc ha hb) fun E σ H ⟨F, S, T, A, rl, q⟩ => ⟨F, S, T, A, rl, ?_⟩
  simp only [evC] at q
  simp only [asT]
  cases ec : evE w.n.sg cf c S with
  | no => simp only [ec, R.fl] at q; exact q.elim
  | er c' S1 =>
    simp only [ec, R.fl] at q
    exact fun C H' A' hc r' s' => q C σ H' A' hc .refl r' s'
  | ok d S1 =>
    simp only [ec, R.fl] at q
    simp only [R.bind]
    split at q
    · intro v U H' A' hv r' s'
      obtain ⟨rfl, rfl⟩ := hv
      rw [if_pos rfl]
      exact ⟨F, S1, T, A', r', ES.late0 s' .refl q⟩
    · intro v U H' A' hv r' s'
      obtain ⟨rfl, rfl⟩ := hv
      rw [if_neg (by decide)]
      exact ⟨F, S1, T, A', r', ES.late0 s' .refl q⟩
    · exact q.elim
theorem s_while {pn : List Nat} {c : Ex} {body : Cms} {t : Expr} {l : List Stmt} {pos : Pos} (hp : PassesOwn (model X.prog X.w) X.A X.env X.xe) (hc : PT X t (tT w W (evE w.n.sg cf c))) (hb : PSs X l (tS w W pn (evCs w.n.sg cf pn body))) :
    PS X (.While t l [] pos) (tS w W pn (evC w.n.sg cf pn (.while_ c body))) := by
  refine PS.weak (ps_while hp hc hb) fun E σ H ⟨F, S, T, A, r, q⟩ => ?_
  simp only [evC] at q
  refine ⟨fun m σ' H' => ∃ S' A', Rl w F H' S' σ' T A' ∧ Step A H A' H' ∧ Pin pn σ σ' ∧ ES w W pn F σ T A H E (loopW (evE w.n.sg cf c) (evCs w.n.sg cf pn body) m S'), ⟨loopMax, S, A, r, .refl, .refl, q⟩, ?_⟩
  rintro m σ' H' ⟨S', A', r', s', p', q'⟩
  refine ⟨F, S', T, A', r', ?_⟩
  cases m with
  | zero => simp only [loopW] at q'; exact q'.elim
  | succ m =>
    simp only [loopW] at q'
    simp only [asT]
    cases ec : evE w.n.sg cf c S' with
    | no => simp only [ec] at q'; exact q'.elim
    | er c' S1 =>
      simp only [ec] at q'
      exact fun C H2 A2 hc r2 s2 => q' C σ' H2 A2 hc p' r2 (s'.trans s2)
    | ok d S1 =>
      simp only [R.bind]
      cases d with
      | bl b =>
        cases b with
        | false =>
          simp only [ec] at q'
          intro v U H2 A2 hv r2 s2
          obtain ⟨rfl, rfl⟩ := hv
          rw [if_neg (by decide)]
          exact q' σ' H2 A2 p' r2 (s'.trans s2)
        | true =>
          simp only [ec] at q'
          intro v U H2 A2 hv r2 s2
          obtain ⟨rfl, rfl⟩ := hv
          rw [if_pos rfl]
          have st := s'.trans s2
          refine ⟨fun σ3 H3 => ∃ S3 A3, Rl w F H3 S3 σ3 T A3 ∧ Step A H A3 H3 ∧ Pin pn σ σ3 ∧ ES w W pn F σ T A H E (loopW (evE w.n.sg cf c) (evCs w.n.sg cf pn body) m S3), fun σ3 H3 h3 => ⟨m, Nat.lt_succ_self m, h3⟩, F, S1, T, A2, r2, ?_⟩
          cases er : evCs w.n.sg cf pn body S1 with
          | no => simp only [er] at q'; exact q'.elim
          | nx S4 =>
            simp only [er] at q'
            exact fun σ4 H4 A4 p4 r4 s4 => ⟨S4, A4, r4, st.trans s4, p'.trans p4, q'⟩
          | ct S4 =>
            simp only [er] at q'
            exact fun σ4 H4 A4 p4 r4 s4 => ⟨S4, A4, r4, st.trans s4, p'.trans p4, q'⟩
          | bk S4 =>
            simp only [er] at q'
            exact fun σ4 H4 A4 p4 r4 s4 => q' σ4 H4 A4 (p'.trans p4) r4 (st.trans s4)
          | rt d S4 =>
            simp only [er] at q'
            exact fun v4 σ4 H4 A4 p4 r4 s4 => q' v4 σ4 H4 A4 (p'.trans p4) r4 (st.trans s4)
          | er c4 S4 =>
            simp only [er] at q'
            exact fun C σ4 H4 A4 hc p4 r4 s4 => q' C σ4 H4 A4 hc (p'.trans p4) r4 (st.trans s4)
      | _ => simp only [ec] at q'; exact q'.elim
end
end Q
end
section
set_option Elab.async false
set_option linter.all false
set_option maxRecDepth 100000
namespace Q
open PySem PySem.Spec PyProof.Rows L2
/-! comprehensions -/
section
variable {w : Wd} {F : List Addr} {σ : L2.St} {T : List (D × V)} {A A1 : List Addr} {H H1 : Hp} {S : Sl}
theorem wipeS_len : ∀ (own : List Nat) (S : Sl), (wipeS S own).length = S.length
  | [], S => rfl
  | v :: vs, S => by simp [wipeS, wipeS_len vs S]
theorem wipeS_in {i : Nat} : ∀ {own : List Nat} {S : Sl}, i ∈ own → i < S.length → (wipeS S own)[i]? = some none
  | v :: vs, S, h, hi => by
    unfold wipeS
    by_cases hv : v = i
    · subst hv; exact List.getElem?_set_self (by rw [wipeS_len]; exact hi)
    · rw [List.getElem?_set_ne hv]
      exact wipeS_in ((List.mem_cons.mp h).resolve_left (Ne.symm hv)) hi
theorem wipeS_out {i : Nat} : ∀ {own : List Nat} {S : Sl}, i ∉ own → (wipeS S own)[i]? = S[i]?
  | [], S, h => rfl
  | v :: vs, S, h => by
    unfold wipeS
    rw [List.getElem?_set_ne (fun z => h (by simp [z]))]
    exact wipeS_out fun z => h (List.mem_cons_of_mem _ z)
theorem wipe_in {i : Nat} : ∀ {own : List Nat} {σ : L2.St}, i ∈ own → i < σ.length → (wipe σ own)[i]? = some none
  | v :: vs, σ, h, hi => by
    unfold wipe
    by_cases hv : v = i
    · subst hv; exact List.getElem?_set_self (by rw [wipe_length]; exact hi)
    · rw [List.getElem?_set_ne hv]
      exact wipe_in ((List.mem_cons.mp h).resolve_left (Ne.symm hv)) hi
theorem wipe_out {i : Nat} : ∀ {own : List Nat} {σ : L2.St}, i ∉ own → (wipe σ own)[i]? = σ[i]?
  | [], σ, h => rfl
  | v :: vs, σ, h => by
    unfold wipe
    rw [List.getElem?_set_ne (fun z => h (by simp [z]))]
    exact wipe_out fun z => h (List.mem_cons_of_mem _ z)
theorem backS_len : ∀ (own : List Nat) (S S' : Sl), (backS S own S').length = S'.length
  | [], S, S' => rfl
  | v :: vs, S, S' => by simp [backS, backS_len vs S S']
theorem backS_in {i : Nat} : ∀ {own : List Nat} {S S' : Sl}, i ∈ own → i < S'.length → (backS S own S')[i]? = some (S[i]?.getD none)
  | v :: vs, S, S', h, hi => by
    unfold backS
    by_cases hv : v = i
    · subst hv; exact List.getElem?_set_self (by rw [backS_len]; exact hi)
    · rw [List.getElem?_set_ne hv]
      exact backS_in ((List.mem_cons.mp h).resolve_left (Ne.symm hv)) hi
theorem backS_out {i : Nat} : ∀ {own : List Nat} {S S' : Sl}, i ∉ own → (backS S own S')[i]? = S'[i]?
  | [], S, S', h => rfl
  | v :: vs, S, S', h => by
    unfold backS
    rw [List.getElem?_set_ne (fun z => h (by simp [z]))]
    exact backS_out fun z => h (List.mem_cons_of_mem _ z)
theorem ownOk_at {S : Sl} {i : Nat} : ∀ {own : List Nat}, ownOk S own = true → i ∈ own → S[i]? = some none ∨ ∃ d, S[i]? = some (some d) ∧ d.pure = true
  | j :: r, h, hi => by
    simp only [ownOk, Bool.and_eq_true] at h
    rcases List.mem_cons.mp hi with rfl | hi
    · obtain ⟨h, _⟩ := h
      split at h
      · rename_i d e; exact .inr ⟨d, e, h⟩
      · rename_i e; exact .inl e
      · cases h
    · exact ownOk_at h.2 hi
theorem Rl.wipe (r : Rl w F H S σ T A) : ∀ (own : List Nat), ∃ A', Rl w F H (wipeS S own) (L2.wipe σ own) T A' ∧ Step A H A' H
  | [] => ⟨A, r, .refl⟩
  | v :: vs => by
    obtain ⟨A1, r1, s1⟩ := Rl.wipe r vs
    unfold wipeS L2.wipe
    by_cases hv : v < (wipeS S vs).length
    · obtain ⟨A2, ⟨L, l, o⟩, s2⟩ := r1.forget hv
      exact ⟨A2, ⟨L, l.none (setNone hv), o⟩, s1.trans s2⟩
    · have hv2 : ¬ v < (L2.wipe σ vs).length := by rw [← r1.len]; exact hv
      rw [List.set_eq_of_length_le (by omega), List.set_eq_of_length_le (by omega)]
      exact ⟨A1, r1, s1⟩
theorem setsV_len {pn : List Nat} : ∀ {is : List Nat} {ds : List D} {S S1 : Sl}, setsV pn is ds S = some S1 → S1.length = S.length
  | [], [], S, S1, e => by cases e; rfl
  | [], _ :: _, S, S1, e => by simp [setsV] at e
  | _ :: _, [], S, S1, e => by simp [setsV] at e
  | i :: is, d :: ds, S, S1, e => by
    simp only [setsV] at e
    obtain ⟨S0, e0, e1⟩ := Option.bind_eq_some_iff.mp e
    obtain ⟨_, _, rfl⟩ := setV_some e0
    rw [setsV_len e1, List.length_set]
theorem bindN_len {pn ts : List Nat} {x : D} {S S1 : Sl} (e : bindN pn ts x S = some S1) : S1.length = S.length := by
  by_cases hts1 : 1 < ts.length
  · obtain ⟨ys, _, e4⟩ := bindN_tup hts1 e
    exact setsV_len e4
  · unfold bindN at e
    split at e
    · obtain ⟨_, _, rfl⟩ := setV_some e
      rw [List.length_set]
    all_goals first | (simp at hts1; done) | (cases e; done)
/-- pure values put back -/
theorem lv_back {S' : Sl} {σ' : L2.St} {Ls : List (D × V)} (l : Lv S' σ' Ls) : ∀ {S2 : Sl} {σ2 : L2.St}, S2.length = S'.length → σ2.length = σ'.length →
    (∀ i : Nat, (S2[i]? = S'[i]? ∧ (σ2[i]? = σ'[i]? ∨ S'[i]? = some none)) ∨ (S'[i]? = some none ∧ ∃ d v, S2[i]? = some (some d) ∧ σ2[i]? = some (some v) ∧ Pr w.K F H d v)) →
    ∃ L2, Lv S2 σ2 L2 ∧ ∀ T B, Ml w F H (Ls ++ T) B → Ml w F H (L2 ++ T) B := by
  induction l with
  | nil =>
    intro S2 σ2 h1 h2 _
    cases S2 with
    | nil => cases σ2 with
      | nil => exact ⟨[], .nil, fun _ _ h => h⟩
      | cons _ _ => simp at h2
    | cons _ _ => simp at h1
  | @no S' σ' Ls x l ih =>
    intro S2 σ2 h1 h2 hk
    cases S2 with
    | nil => simp at h1
    | cons y S2 =>
      cases σ2 with
      | nil => simp at h2
      | cons z σ2 =>
        obtain ⟨L2, l2, k2⟩ := ih (S2 := S2) (σ2 := σ2) (by simpa using h1) (by simpa using h2) fun i => by simpa using hk (i + 1)
        rcases hk 0 with ⟨a, _⟩ | ⟨_, d, v, a, b, c⟩
        · have a' : y = none := by simpa using a
          subst a'
          exact ⟨L2, .no l2, k2⟩
        · have a' : y = some d := by simpa using a
          have b' : z = some v := by simpa using b
          subst a'; subst b'
          refine ⟨_, .so l2, fun T B h => ?_⟩
          have := Ml.cons (.pr c) (k2 T B h)
          rwa [List.nil_append] at this
  | @so S' σ' Ls d v l ih =>
    intro S2 σ2 h1 h2 hk
    cases S2 with
    | nil => simp at h1
    | cons y S2 =>
      cases σ2 with
      | nil => simp at h2
      | cons z σ2 =>
        obtain ⟨L2, l2, k2⟩ := ih (S2 := S2) (σ2 := σ2) (by simpa using h1) (by simpa using h2) fun i => by simpa using hk (i + 1)
        rcases hk 0 with ⟨a, b⟩ | ⟨a, _⟩
        · have a' : y = some d := by simpa using a
          have b' : z = some v := by simpa using b
          subst a'; subst b'
          refine ⟨_, .so l2, fun T B h => ?_⟩
          rw [List.cons_append] at h ⊢
          cases h with
          | cons m mr => exact .cons m (k2 T _ mr)
        · simp at a
theorem Rl.unwipe {S1 S' : Sl} {own : List Nat} (r : Rl w F H (wipeS S' own) (L2.wipe σ own) T A) (hl : S1.length = σ.length) (ok : ownOk S1 own = true) (hp : ∀ i d, i ∈ own → S1[i]? = some (some d) → ∃ v, σ[i]? = some (some v) ∧ Pr w.K F H d v) :
    Rl w F H (backS S1 own (wipeS S' own)) σ T A := by
  have hlen := r.len
  rw [wipe_length] at hlen
  obtain ⟨Ls, l, o⟩ := r
  obtain ⟨L2, l2, k⟩ := lv_back (w := w) (F := F) (H := H) l (S2 := backS S1 own (wipeS S' own)) (σ2 := σ) (backS_len _ _ _) (by rw [wipe_length]) fun i => by
    by_cases hi : i ∈ own
    · have hi1 : i < σ.length := by
        rcases ownOk_at ok hi with e | ⟨d, e, _⟩
        · rw [← hl]; exact (List.getElem?_eq_some_iff.mp e).1
        · rw [← hl]; exact (List.getElem?_eq_some_iff.mp e).1
      have hi2 : i < (wipeS S' own).length := by rw [hlen]; exact hi1
      have hi3 : i < S'.length := by rw [wipeS_len] at hi2; exact hi2
      have hw := wipeS_in (S := S') hi hi3
      rcases ownOk_at ok hi with e | ⟨d, e, _⟩
      · left
        rw [backS_in hi hi2, e, hw]
        exact ⟨rfl, .inr rfl⟩
      · right
        obtain ⟨v, ev, pv⟩ := hp i d hi e
        refine ⟨hw, d, v, ?_, ev, pv⟩
        rw [backS_in hi hi2, e]
        rfl
    · left
      rw [backS_out hi, wipe_out hi]
      exact ⟨rfl, .inl rfl⟩
  exact ⟨L2, l2, k _ _ o.ml, o.nd, o.fr⟩
theorem Rl.pureAt {i : Nat} {d : D} (r : Rl w F H S σ T A) (e : S[i]? = some (some d)) (hd : d.pure = true) : ∃ v, σ[i]? = some (some v) ∧ Pr w.K F H d v := by
  obtain ⟨v, A', ev, r', _⟩ := r.takeSlot e
  obtain ⟨B, m, _⟩ := r'.top
  exact ⟨v, ev, (m.ofPure hd).1⟩
/-- the new list grows -/
theorem Rl.grow {acc : List D} {p : Addr} {d : D} {y : V} (r : Rl w F H S σ ((d, y) :: (.lst acc, .ref p) :: T) A) (hd : d.pure = true) (hl : acc.length < lim) :
    ∃ vs, H p = some (.lst vs) ∧ vs.length < sizeLine ∧ ∃ A', Rl w F (upd H p (.lst (vs ++ [y]))) S σ ((.lst (acc ++ [d]), .ref p) :: T) A' ∧ Step A H A' (upd H p (.lst (vs ++ [y]))) := by
  obtain ⟨B0, m0, _⟩ := r.top
  have pd := (m0.ofPure hd).1
  obtain ⟨A1, r1, s1⟩ := r.tdrop1
  obtain ⟨B, oB, k⟩ := Rl.frame2 (U := [(.lst acc, .ref p)]) r1
  have mB : Mr w F H (.lst acc) (.ref p) B := by
    cases oB.ml with
    | cons m t => cases t; rw [List.append_nil]; exact m
  cases mB with
  | pr m => cases m
  | @lst _ _ vs h1 q1 =>
    have t1 : ∀ ws, HO.lst vs ≠ .tup ws := by intro ws z; cases z
    have pF : ∀ ob x, HO.lst vs ≠ .frz ob x := by intro ob x z; cases z
    refine ⟨vs, h1, by rw [← q1.len]; exact lim_lt hl, ?_⟩
    have ml : Ml w F (upd H p (.lst (vs ++ [y]))) [(.lst (acc ++ [d]), .ref p)] [p] := by
      have := Ml.cons (.lst (w := w) (F := F) (H := upd H p (.lst (vs ++ [y]))) (p := p) upd_same ((prs_upd h1 t1 pF q1).app (.cons (pr_upd h1 t1 pF pd) .nil))) .nil
      simpa using this
    obtain ⟨A2, r2, s2⟩ := k _ _ [p] ⟨ml, by simp, fr_upd oB.fr h1 pF⟩ (step_upd h1 t1 (by intro _ _ _ z; cases z) (by intro _ z; cases z) (by intro _ _ z; cases z))
    exact ⟨A2, r2, s1.trans s2⟩
end
section
variable {w : Wd} {X : Cx} {N : List Str} {sc : Scope} {W : WX} {L : Nat} {cf : Nat → List D → FR} {n : Nm} {tg : Expr}
def WF : WX := fun _ _ _ _ => False
/-- a comprehension that locks nothing -/
def tCp (w : Wd) (W : WX) (k : IK) (ts own : List Nat) (eva : Sl → R (List Arg)) (c e : Sl → R D) : TE := fun σ H Q => ∃ F S T A, Rl w F H S σ T A ∧ match eva S with
  | .ok as S1 => ∃ ds xs, argDs w.n.sg S1 as = some ds ∧ itemsOf k ds = some xs ∧ walkOk ds = true ∧ plLk w.n.sg S1 as ∧ ownOk S1 own = true ∧
      EV w W DV F σ T A H Q ((loopC c e ts own xs [] (wipeS S1 own)).bind fun d S3 => .ok d (backS S1 own S3))
  | .er c S1 => ∀ C H' A', w.ecl c = some C → Rl w F H' S1 σ T A' → Step A H A' H' → W C none σ H'
  | .no => False
theorem comp_core {k : IK} {ts own : List Nat} {eva : Sl → R (List Arg)} {c e : Sl → R D} (hts : ∀ i ∈ ts, i ∈ own) {σ : L2.St} {H : Hp} {Q : VK} (h : tCp w W k ts own eva c e σ H Q) : tLc (tI w W k eva) (gT w [] ts) (tT w WF c) (tE w WF e) own σ H Q := by
  obtain ⟨F, S, T, A, r, q⟩ := h
  refine ⟨F, S, T, A, r, ?_⟩
  cases ea : eva S with
  | no => simp only [ea] at q
  | er c S1 => simp only [ea] at q ⊢; exact q
  | ok as S1 =>
    simp only [ea] at q ⊢
    obtain ⟨ds, xs, e1, e2, e3, pl, ok, q⟩ := q
    refine ⟨ds, xs, e1, e2, e3, fun vs U H1 A1 av r1 s1 J hJ D nD => ?_⟩
    have hl1 := r1.len
    have pp : ∀ i d, i ∈ own → S1[i]? = some (some d) → ∃ v, σ[i]? = some (some v) ∧ Pr w.K F H1 d v := fun i d hi ei => by
      rcases ownOk_at ok hi with z | ⟨d', z, hd⟩
      · rw [ei] at z; cases z
      · rw [ei] at z; cases z
        exact r1.pureAt ei hd
    -- the new list
    obtain ⟨m1, m2, m3, m4⟩ := mk_lst (w := w) (F := F) (H := H1) (p := D) (xs := []) (vs := []) nD .nil
    obtain ⟨A2, r2, s2⟩ := r1.push m1 m2 m3 m4
    obtain ⟨A3, r3, s3⟩ := r2.wipe own
    let I : Nat → Hp → Prop := fun i H' => ∃ acc S' A', Rl w F H' (wipeS S' own) (wipe σ own) ((.lst acc, .ref D) :: (U ++ T)) A' ∧ Step A1 H1 A' H' ∧
      EV w W DV F σ T A H Q ((loopC c e ts own (xs.drop i) acc (wipeS S' own)).bind fun d S3 => .ok d (backS S1 own S3))
    refine ⟨fun i m H' => m = xs.length - i ∧ I i H', ⟨_, rfl, [], S1, A3, r3, s2.trans s3, by simpa using q⟩, ?_⟩
    rintro i m H' ⟨rfl, acc, S', A', r', s', q'⟩
    have ms : Ms w F H' ds vs := by
      obtain ⟨A4, r4, s4⟩ := r'.tdrop1
      exact keepMs av e1 pl r1 (fun _ h => h) r4 (s'.trans s4)
    obtain ⟨j1, j2⟩ := hJ H' ms s'.frz
    by_cases hi : i < xs.length
    · right
      have hx : xs[i]? = some xs[i] := List.getElem?_eq_getElem hi
      obtain ⟨go, yl⟩ := j1 i _ hx
      refine ⟨go, I (i + 1), fun H2 h2 => ⟨xs.length - (i + 1), by omega, rfl, h2⟩, fun v H2 hy => ?_⟩
      obtain ⟨ext, pv⟩ := yl v H2 hy
      obtain ⟨A5, r5, s5⟩ := r'.push (d := xs[i]) (v := v) ext (B := []) (fun b hb => by simp at hb) List.nodup_nil (.pr pv)
      rw [List.drop_eq_getElem_cons hi] at q'
      simp only [loopC] at q'
      cases eb : bindN [] ts xs[i] (wipeS S' own) with
      | none => simp only [eb, R.bind] at q'; exact q'.elim
      | some S2 =>
        simp only [eb] at q'
        refine ⟨F, _, (.lst acc, .ref D) :: (U ++ T), A5, _, S2, r5, eb, fun σ3 A6 c3 n3 r6 s6 => ?_⟩
        have hlen : S2.length = (wipeS S' own).length := bindN_len eb
        have hσ3 : σ3.length = σ.length := by rw [← r6.len, hlen, r'.len, wipe_length]
        have hw3 : wipe σ3 own = wipe σ own := by
          apply List.ext_getElem?
          intro j
          by_cases hj : j ∈ own
          · by_cases hjl : j < σ.length
            · rw [wipe_in hj hjl, wipe_in hj (by omega)]
            · rw [List.getElem?_eq_none (by rw [wipe_length]; omega), List.getElem?_eq_none (by rw [wipe_length]; omega)]
          · rw [wipe_out hj, c3 j fun z => hj (hts j z)]
        have st : Step A1 H1 A6 H2 := (s'.trans s5).trans s6
        -- the test, the element
        refine ⟨hw3, F, S2, (.lst acc, .ref D) :: (U ++ T), A6, r6, ?_⟩
        simp only [asT]
        cases ec : c S2 with
        | no => simp only [ec, R.bind] at q'; exact q'.elim
        | er _ _ => simp only [ec, R.bind] at q'; exact q'.elim
        | ok d4 S4 =>
          simp only [R.bind]
          cases d4 with
          | bl b =>
            cases b with
            | false =>
              simp only [ec] at q'
              intro b U4 H4 A7 hb r7 s7
              obtain ⟨rfl, rfl⟩ := hb
              rw [if_neg (by decide)]
              obtain ⟨A8, r8, s8⟩ := Rl.wipe (T := (.lst acc, .ref D) :: (U ++ T)) r7 own
              rw [hw3] at r8
              exact ⟨acc, S4, A8, r8, (st.trans s7).trans s8, q'⟩
            | true =>
              simp only [ec] at q'
              intro b U4 H4 A7 hb r7 s7
              obtain ⟨rfl, rfl⟩ := hb
              rw [if_pos rfl]
              refine ⟨F, S4, (.lst acc, .ref D) :: (U ++ T), A7, r7, ?_⟩
              cases ee : e S4 with
              | no => simp only [ee] at q'; exact q'.elim
              | er _ _ => simp only [ee] at q'; exact q'.elim
              | ok d5 S5 =>
                simp only [ee] at q'
                split at q'
                · rename_i hd
                  simp only [Bool.and_eq_true, decide_eq_true_eq] at hd
                  intro y U5 H5 A9 hy r9 s9
                  obtain rfl : U5 = [(d5, y)] := hy
                  obtain ⟨ws, h5, hsz, A10, r10, s10⟩ := Rl.grow r9 hd.1 hd.2
                  refine ⟨ws, h5, hsz, ?_⟩
                  obtain ⟨A11, r11, s11⟩ := r10.wipe own
                  rw [hw3] at r11
                  exact ⟨acc ++ [d5], S5, A11, r11, (((st.trans s7).trans s9).trans s10).trans s11, q'⟩
                · exact q'.elim
          | _ => simp only [ec, R.bind] at q'; exact q'.elim
    · left
      refine ⟨j2 i (by omega), ?_⟩
      rw [List.drop_eq_nil_of_le (by omega)] at q'
      simp only [loopC, R.bind] at q'
      obtain ⟨A4, r4, s4⟩ := r'.tdrop2
      have r5 := r4.unwipe (σ := σ) (S1 := S1) hl1 ok fun i d hi ei => by
        obtain ⟨v, ev, pv⟩ := pp i d hi ei
        refine ⟨v, ev, ?_⟩
        have := r1.prsStep (s'.trans s4) (.cons pv .nil)
        cases this with
        | cons a _ => exact a
      exact q' (.ref D) [(.lst acc, .ref D)] H' A4 rfl r5 ((s1.trans s').trans s4)
end
end Q
end
section
set_option Elab.async false
set_option linter.all false
set_option maxRecDepth 100000
namespace Q
open PySem PySem.Spec PyProof.Rows L2
section
variable {w : Wd} {X : Cx} {N : List Str} {sc : Scope} {W : WX} {L : Nat} {cf : Nat → List D → FR} {n : Nm} {tg : Expr}
theorem wrS_out {S S2 : Sl} {i j : Nat} {p : List Nat} {x : D} (h : wrS w.n.sg S i p x = some S2) (hj : j ≠ i) : S2[j]? = S[j]? := by
  obtain ⟨d0, d1, e0, ew, rfl⟩ := wrS_get h
  exact List.getElem?_set_ne (Ne.symm hj)
theorem ownOk_eq {S S2 : Sl} : ∀ {own : List Nat}, (∀ j ∈ own, S2[j]? = S[j]?) → ownOk S2 own = ownOk S own
  | [], _ => rfl
  | i :: r, h => by
    simp only [ownOk]
    rw [h i (by simp), ownOk_eq fun j hj => h j (List.mem_cons_of_mem _ hj)]
theorem backS_eq {S S2 S' : Sl} : ∀ {own : List Nat}, (∀ j ∈ own, S2[j]? = S[j]?) → backS S2 own S' = backS S own S'
  | [], _ => rfl
  | i :: r, h => by
    simp only [backS]
    rw [h i (by simp), backS_eq fun j hj => h j (List.mem_cons_of_mem _ hj)]
theorem own_not {S : Sl} {own : List Nat} {i : Nat} {p : List Nat} {d : D} (ok : ownOk S own = true) (e : rdS w.n.sg S i p = some d) (hl : d.lin = true) : i ∉ own := fun hi => by
  unfold rdS at e
  rcases ownOk_at ok hi with z | ⟨d0, z, hd⟩
  · rw [z] at e; cases e
  · rw [z] at e
    cases p with
    | nil =>
      simp only [rdF, Option.some.injEq] at e
      subst e
      cases d0 <;> first | (cases hl; done) | (cases hd; done)
    | cons f r => cases d0 <;> first | (simp [rdF] at e; done) | (cases hd; done)
theorem loopC_er {c e : Sl → R D} {ts own : List Nat} {c' : Nat} {S3 : Sl} : ∀ (xs acc : List D) (S : Sl), loopC c e ts own xs acc S ≠ .er c' S3
  | [], acc, S, z => by simp only [loopC] at z; cases z
  | x :: xs, acc, S, z => by
    simp only [loopC] at z
    split at z
    · split at z
      · split at z
        · split at z
          · exact loopC_er xs _ _ z
          · cases z
        · cases z
      · exact loopC_er xs _ _ z
      · cases z
    · cases z
/-- two names: a list of one's own, and what is shared -/
theorem evA_two {sg : Sg} {cf : Nat → List D → FR} {i j i' : Nat} {p : List Nat} {d d1 : D} {S S1 : Sl} (h : evA sg cf (.cons (.var i) (.cons (.var j) .nil)) S = .ok [.pl i' p, .val d] S1) (hj : rdS sg S1 j [] = some d1) (hp : d1.pure = true) :
    S1 = S ∧ i' = i ∧ p = [] ∧ d1 = d ∧ d.lin = false := by
  simp only [evA] at h
  cases h1 : argOf sg S (.var i) (evE sg cf (.var i) S) with
  | no => simp only [h1, R.bind] at h; cases h
  | er c S2 => simp only [h1, R.bind] at h; cases h
  | ok a S2 =>
    simp only [h1, R.bind] at h
    cases h2 : argOf sg S2 (.var j) (evE sg cf (.var j) S2) with
    | no => simp only [h2] at h; cases h
    | er c S3 => simp only [h2] at h; cases h
    | ok b S3 =>
      simp only [h2, Q.R.ok.injEq, List.cons.injEq, and_true] at h
      obtain ⟨⟨rfl, rfl⟩, rfl⟩ := h
      obtain ⟨rfl, a2, _⟩ := arg_pl h1
      simp only [pathOf, Option.some.injEq, Prod.mk.injEq] at a2
      obtain ⟨rfl, rfl⟩ := a2
      unfold argOf placeOf at h2
      simp only [pathOf] at h2
      cases e : S2[j]? with
      | none =>
        have : rdS sg S2 j [] = none := by unfold rdS; rw [e]
        rw [this] at h2
        simp only [evE, e, R.bind] at h2
        cases h2
      | some o =>
        cases o with
        | none =>
          have : rdS sg S2 j [] = none := by unfold rdS; rw [e]
          rw [this] at h2
          simp only [evE, e, R.bind] at h2
          cases h2
        | some d0 =>
          have : rdS sg S2 j [] = some d0 := by unfold rdS; rw [e]; rfl
          rw [this] at h2
          simp only at h2
          by_cases hl : d0.lin = true
          · rw [if_pos hl] at h2; simp only [Q.R.ok.injEq] at h2; cases h2.1
          · rw [if_neg hl] at h2
            simp only [evE, e] at h2
            by_cases hq : d0.pure = true
            · rw [if_pos hq] at h2
              simp only [R.bind, Q.R.ok.injEq, Arg.val.injEq] at h2
              obtain ⟨rfl, rfl⟩ := h2
              rw [this] at hj
              cases hj
              exact ⟨rfl, rfl, rfl, rfl, by simpa using hl⟩
            · rw [if_neg hq] at h2
              by_cases hm : d0.movable = true
              · rw [if_pos hm] at h2
                simp only [R.bind, Q.R.ok.injEq, Arg.val.injEq] at h2
                obtain ⟨rfl, rfl⟩ := h2
                have hi := (List.getElem?_eq_some_iff.mp e).1
                unfold rdS at hj
                rw [List.getElem?_set_self hi] at hj
                cases hj
              · rw [if_neg hm] at h2; simp only [R.bind] at h2; cases h2
theorem evA_at2 {sg : Sg} {cf : Nat → List D → FR} {i j : Nat} {S : Sl} {x d : D} (h1 : rdS sg S i [] = some x) (hl : x.lin = true) (h2 : rdS sg S j [] = some d) (hp : d.pure = true) (hl2 : d.lin = false) : evA sg cf (.cons (.var i) (.cons (.var j) .nil)) S = .ok [.pl i [], .val d] S := by
  have e : S[j]? = some (some d) := by
    unfold rdS at h2
    split at h2
    · rename_i d0 e0; simp only [rdF, Option.some.injEq] at h2; rw [e0, h2]
    · cases h2
  simp only [evA, argOf, placeOf, pathOf, h1, hl, h2, hl2, if_true, R.bind, evE, e, hp, Bool.false_eq_true, if_false]
theorem comp_lock {k : IK} {ts own : List Nat} {es : Exs} {c e : Ex} {σ : L2.St} {H : Hp} {Q : VK} (h : tE w W (evE w.n.sg cf (.comp ts k es own c e)) σ H Q) :
    tCp w W k ts own (evA w.n.sg cf es) (evE w.n.sg cf c) (evE w.n.sg cf e) σ H Q ∨ tLockE (tCp w W k ts own (evA w.n.sg cf es) (evE w.n.sg cf c) (evE w.n.sg cf e)) σ H Q := by
  obtain ⟨F, S, T, A, r, q⟩ := h
  simp only [evE] at q
  cases ea : evA w.n.sg cf es S with
  | no => simp only [ea, R.bind] at q; exact q.elim
  | er c' S1 =>
    simp only [ea, R.bind] at q
    exact .inl ⟨F, S, T, A, r, by rw [ea]; exact q⟩
  | ok as S1 =>
    simp only [ea] at q
    replace q : EV w W DV F σ T A H Q (match argDs w.n.sg S1 as with
      | some ds => match itemsOf k ds, lockZ w.n.sg k es as S1, ownOk S1 own with
        | some xs, some (S2, ls), true => (loopC (evE w.n.sg cf c) (evE w.n.sg cf e) ts own xs [] (wipeS S2 own)).bind fun d S3 => match unlockS w.n.sg as ls (backS S1 own S3) with
          | some S4 => .ok d S4
          | none => .no
        | _, _, _ => .no
      | none => .no) := q
    cases ed : argDs w.n.sg S1 as with
    | none => simp only [ed] at q; exact q.elim
    | some ds =>
      simp only [ed] at q
      split at q
      · rename_i xs S2 ls ei el eo
        have left : ls = [] → S2 = S1 → walkOk ds = true → plLk w.n.sg S1 as → tCp w W k ts own (evA w.n.sg cf es) (evE w.n.sg cf c) (evE w.n.sg cf e) σ H Q := fun h1 h2 h3 h4 => by
          subst h1; subst h2
          exact ⟨F, S, T, A, r, by rw [ea]; exact ⟨ds, xs, ed, ei, h3, h4, eo, q⟩⟩
        have right : ∀ i p d, as = [.pl i p] → rdS w.n.sg S1 i p = some d → ((∃ ys, d = .lst ys) ∨ (∃ ys, d = .dk ys) ∨ ∃ ys, d = .dt ys) → wrS w.n.sg S1 i p (.lk d) = some S2 → ls = [i] → tLockE (tCp w W k ts own (evA w.n.sg cf es) (evE w.n.sg cf c) (evE w.n.sg cf e)) σ H Q := fun i p d h1 h2 h3 h4 h5 => by
          subst h1; subst h5
          obtain ⟨e0, rfl, rfl, hp', _⟩ := evA_one ea
          have hl : d.lin = true := by rcases h3 with ⟨_, rfl⟩ | ⟨_, rfl⟩ | ⟨_, rfl⟩ <;> rfl
          obtain ⟨a, u, pv, ha, lb, aA, aF, kk⟩ := lock_at r h2 h3 h4
          refine ⟨a, u, ha, lb.mut, fun od => ?_⟩
          obtain ⟨A2, r2, s2⟩ := kk od
          have rd2 := wrS_rd h4
          have io := own_not eo h2 hl
          have same : ∀ j ∈ own, S2[j]? = S1[j]? := fun j hj => wrS_out h4 fun z => io (by rw [← z]; exact hj)
          refine ⟨a :: F, S2, T, A2, r2, ?_⟩
          rw [evA_at hp' rd2 rfl]
          refine ⟨[.lk d], xs, by simp only [argDs, argD, rd2, D.lin, if_true], items_lk h3 ?_, rfl, ⟨⟨d, rd2⟩, trivial⟩, by rw [ownOk_eq same]; exact eo, ?_⟩
          · simp only [argDs, argD, h2, hl, if_true, Option.some.injEq] at ed
            rw [ed]; exact ei
          · cases el2 : loopC (evE w.n.sg cf c) (evE w.n.sg cf e) ts own xs [] (wipeS S2 own) with
            | no => simp only [el2, R.bind] at q; exact q.elim
            | er c' S3 =>
              exfalso
              exact loopC_er _ _ _ el2
            | ok d3 S3 =>
              simp only [el2, R.bind] at q ⊢
              rw [backS_eq same]
              cases e4 : unlockS w.n.sg [.pl i p] [i] (backS S1 own S3) with
              | none => simp only [e4] at q; exact q.elim
              | some S4 =>
                simp only [e4] at q
                intro v U H' A' hv r' s'
                have h1 : H' a = some (.frz od u) := s'.frz _ _ _ upd_same
                refine ⟨h1, ?_⟩
                simp only [unlockS] at e4
                split at e4
                · rename_i d4 ed4
                  obtain ⟨A4, r4, q4⟩ := unlock_at r' aF ed4 e4 (pv.step (s2.trans s')) h1
                  exact q v U _ A4 hv r4 (step_unlock ha lb aA (s2.trans s') h1 q4)
                · cases e4
        have right2 : ∀ i j d ys, k = .zip → es = .cons (.var i) (.cons (.var j) .nil) → as = [.pl i [], .val d] → rdS w.n.sg S1 i [] = some (.lst ys) → rdS w.n.sg S1 j [] = some d → d.pure = true → d.lin = false → i ≠ j → wrS w.n.sg S1 i [] (.lk (.lst ys)) = some S2 → ls = [i] → tLockE (tCp w W k ts own (evA w.n.sg cf es) (evE w.n.sg cf c) (evE w.n.sg cf e)) σ H Q := fun i j d ys hk hes h1 h2 hd hpu hli hij h4 h5 => by
          subst h1; subst h5; subst hk; subst hes
          obtain rfl : S1 = S := (evA_two ea hd hpu).1
          have hl : (D.lst ys).lin = true := rfl
          obtain ⟨a, u, pv, ha, lb, aA, aF, kk⟩ := lock_at r h2 (.inl ⟨ys, rfl⟩) h4
          refine ⟨a, u, ha, lb.mut, fun od => ?_⟩
          obtain ⟨A2, r2, s2⟩ := kk od
          have rd2 := wrS_rd h4
          have io := own_not eo h2 hl
          have same : ∀ j ∈ own, S2[j]? = S1[j]? := fun j hj => wrS_out h4 fun z => io (by rw [← z]; exact hj)
          have hd2 : rdS w.n.sg S2 j [] = some d := by
            unfold rdS at hd ⊢
            rw [wrS_out h4 fun z => hij z.symm]
            exact hd
          refine ⟨a :: F, S2, T, A2, r2, ?_⟩
          rw [evA_at2 rd2 rfl hd2 hpu hli]
          refine ⟨[.lk (.lst ys), d], xs, by simp only [argDs, argD, rd2, D.lin, if_true], ?_, rfl, ⟨⟨_, rd2⟩, trivial⟩, by rw [ownOk_eq same]; exact eo, ?_⟩
          · simp only [argDs, argD, h2, hl, if_true, Option.some.injEq] at ed
            rw [← ed] at ei; exact ei
          · cases el2 : loopC (evE w.n.sg cf c) (evE w.n.sg cf e) ts own xs [] (wipeS S2 own) with
            | no => simp only [el2, R.bind] at q; exact q.elim
            | er c' S3 =>
              exfalso
              exact loopC_er _ _ _ el2
            | ok d3 S3 =>
              simp only [el2, R.bind] at q ⊢
              rw [backS_eq same]
              cases e4 : unlockS w.n.sg [.pl i [], .val d] [i] (backS S1 own S3) with
              | none => simp only [e4] at q; exact q.elim
              | some S4 =>
                simp only [e4] at q
                intro v U H' A' hv r' s'
                have h1 : H' a = some (.frz od u) := s'.frz _ _ _ upd_same
                refine ⟨h1, ?_⟩
                simp only [unlockS] at e4
                split at e4
                · rename_i d4 ed4
                  obtain ⟨A4, r4, q4⟩ := unlock_at r' aF ed4 e4 (pv.step (s2.trans s')) h1
                  exact q v U _ A4 hv r4 (step_unlock ha lb aA (s2.trans s') h1 q4)
                · cases e4
        have tail : lockS w.n.sg as S1 = some (S2, ls) → tCp w W k ts own (evA w.n.sg cf es) (evE w.n.sg cf c) (evE w.n.sg cf e) σ H Q ∨ tLockE (tCp w W k ts own (evA w.n.sg cf es) (evE w.n.sg cf c) (evE w.n.sg cf e)) σ H Q := fun el => by
          unfold lockS at el
          split at el
          · rename_i i p _
            split at el
            · rename_i d er
              cases el
              refine .inl (left rfl rfl ?_ ⟨⟨d, er⟩, trivial⟩)
              simp only [argDs, argD, er, D.lin, if_true, Option.some.injEq] at ed
              rw [← ed]; rfl
            · rename_i ys er
              obtain ⟨S3, e3, e4⟩ := Option.map_eq_some_iff.mp el
              cases e4
              exact .inr (right i p _ rfl er (.inl ⟨ys, rfl⟩) e3 rfl)
            · rename_i ys er
              obtain ⟨S3, e3, e4⟩ := Option.map_eq_some_iff.mp el
              cases e4
              exact .inr (right i p _ rfl er (.inr (.inl ⟨ys, rfl⟩)) e3 rfl)
            · rename_i ys er
              obtain ⟨S3, e3, e4⟩ := Option.map_eq_some_iff.mp el
              cases e4
              exact .inr (right i p _ rfl er (.inr (.inr ⟨ys, rfl⟩)) e3 rfl)
            · cases el
          · split at el
            · rename_i hv
              cases el
              exact .inl (left rfl rfl (vals_ok hv ed) (vals_pl hv))
            · cases el
        unfold lockZ at el
        split at el
        · rename_i i j i' p d' 
          split at el
          · rename_i d ys e1 e2
            split at el
            · rename_i hc
              obtain ⟨S3, e3, e4⟩ := Option.map_eq_some_iff.mp el
              cases e4
              simp only [Bool.and_eq_true, Bool.not_eq_true', decide_eq_true_eq] at hc
              obtain ⟨⟨hpu, hli⟩, hij⟩ := hc
              obtain ⟨rfl, rfl, rfl, rfl, _⟩ := evA_two ea e1 hpu
              exact .inr (right2 i' j d ys rfl rfl rfl e2 e1 hpu hli hij e3 rfl)
            · cases el
          · cases el
        exact tail el
      · exact q.elim
/-- a name that is stored -/
def tSet (w : Wd) (W : WX) (i : Nat) (ev : Sl → R D) : TS := tAsg (tE w W ev) (gName i)
theorem sw_no {e : Expr} {t : Option Expr} {l : Nat} {env : Env} (h : match e with | .ListComp .. => False | .SetComp .. => False | .DictComp .. => False | _ => True) : swapsWith e t l env = pure false := by
  cases e <;> first | rfl | exact h.elim
theorem sw_pl {e t : Expr} {l : Nat} {env : Env} (h : match t with | .Name .. => False | _ => True) : swapsWith e (some t) l env = pure false := by
  cases t <;> first | (exact h.elim) | (cases e <;> rfl)
theorem sw_off {elt : Expr} {gs : List Comprehension} {s : Scope} {p px : Pos} {x : Str} {l : Nat} {env : Env} (h : (decide (env.scope.names.lookup x = some .local) && (px.line == p.line)) = false) : swapsWith (.ListComp elt gs s p) (some (.Name x px)) l env = pure false := by
  have k : (env.kindOf x == some .local && px.line == p.line) = false := by
    have e : (env.kindOf x == some .local) = decide (env.scope.names.lookup x = some .local) := by
      show (env.scope.names.lookup x == some .local) = _
      cases env.scope.names.lookup x with
      | none => rfl
      | some k => cases k <;> rfl
    rw [e]; exact h
  unfold swapsWith
  simp only [Expr.pos]
  have : (env.blockKind == .function && env.kindOf x == some .local && px.line == p.line && !(s.names.any fun (n, k) => n == x && (k == .local || k == .cell))) = false := by
    rw [Bool.and_eq_false_iff] at k
    rcases k with k | k <;> simp [k]
  simp only [bind, pure, this]
theorem s_set {pn : List Nat} {i : Nat} {e : Ex} {x : Str} {v : Expr} {px pos : Pos} (hs : PS X (.Assign [.Name x px] v pos) (tSet w W i (evE w.n.sg cf e))) : PS X (.Assign [.Name x px] v pos) (tS w W pn (evC w.n.sg cf pn (.set i e))) := by
  refine PS.weak hs fun E σ H ⟨F, S, T, A, r, q⟩ => ?_
  simp only [evC] at q
  refine ⟨F, S, T, A, r, q.first fun d S1 u U H1 A1 ed hu r1 s1 q1 => ?_⟩
  obtain rfl : U = [(d, u)] := hu
  cases es : setV pn S1 i d with
  | none => simp only [es] at q1; exact q1.elim
  | some S2 =>
    simp only [es] at q1
    obtain ⟨hi, hn, rfl⟩ := setV_some es
    obtain ⟨A2, r2, s2⟩ := r1.store hi
    exact q1 _ _ A2 (fun j hj => by rw [List.getElem?_set_ne]; rintro rfl; exact hn hj) r2 (s1.trans s2)
end
end Q
end
section
set_option Elab.async false
set_option linter.all false
set_option maxRecDepth 100000
namespace Q
open PySem PySem.Spec PyProof.Rows L2
section
variable {w : Wd} {X : Cx} {N : List Str} {sc : Scope} {W : WX} {L : Nat} {cf : Nat → List D → FR} {n : Nm} {tg : Expr} {pn : List Nat}
theorem s_exp {e : Ex} {v : Expr} {pos : Pos} (hn : match v with | .Call .. => True | _ => False) (he : PE X v (tE w W (evE w.n.sg cf e))) : PS X (.Expr v pos) (tS w W pn (evC w.n.sg cf pn (.exp e))) := by
  have hs : swapsWith v none pos.line X.env = pure false := by cases v <;> first | exact hn.elim | rfl
  refine PS.weak (ps_expr he hs) fun E σ H ⟨F, S, T, A, r, q⟩ => ?_
  simp only [evC] at q
  refine ⟨F, S, T, A, r, q.first fun d S1 u U H1 A1 ed hu r1 s1 q1 => ?_⟩
  obtain ⟨A2, r2, s2⟩ := r1.tdrop
  exact q1 σ H1 A2 .refl r2 (s1.trans s2)
theorem s_ret {e : Ex} {v : Expr} {pos : Pos} (he : PE X v (tE w W (evE w.n.sg cf e))) : PS X (.Return (some v) pos) (tS w W pn (evC w.n.sg cf pn (.ret e))) := by
  refine PS.weak (ps_ret he) fun E σ H ⟨F, S, T, A, r, q⟩ => ?_
  simp only [evC] at q
  refine ⟨F, S, T, A, r, q.first fun d S1 u U H1 A1 ed hu r1 s1 q1 => ?_⟩
  obtain rfl : U = [(d, u)] := hu
  exact q1 u σ H1 A1 .refl r1 s1
theorem s_retN {pos : Pos} : PS X (.Return none pos) (tS w W pn (evC w.n.sg cf pn .retN)) := PS.weak ps_retN fun E σ H ⟨F, S, T, A, r, q⟩ => by
  simp only [evC] at q
  obtain ⟨A2, r2, s2⟩ := r.pushP .non
  exact q .non σ H A2 .refl r2 s2
theorem s_pass {pos : Pos} : PS X (.Pass pos) (tS w W pn (evC w.n.sg cf pn .pass)) := PS.weak ps_pass fun E σ H ⟨F, S, T, A, r, q⟩ => by
  simp only [evC] at q
  exact q σ H A .refl r .refl
theorem s_brk {pos : Pos} : PS X (.Break pos) (tS w W pn (evC w.n.sg cf pn .brk)) := PS.weak ps_break fun E σ H ⟨F, S, T, A, r, q⟩ => by
  simp only [evC] at q
  exact q σ H A .refl r .refl
theorem s_cnt {pos : Pos} : PS X (.Continue pos) (tS w W pn (evC w.n.sg cf pn .cnt)) := PS.weak ps_continue fun E σ H ⟨F, S, T, A, r, q⟩ => by
  simp only [evC] at q
  exact q σ H A .refl r .refl
theorem s_never {st : Stmt} : PS X st (tS w W pn (evC w.n.sg cf pn .never)) := PS.weak ps_never fun E σ H ⟨F, S, T, A, r, q⟩ => by
  simp only [evC] at q
  exact q.elim
theorem s_unp (h : XC w X N sc W L) {is : List Nat} {e : Ex} {l : List Expr} {k : Nat} {p pos : Pos} {v : Expr} (hv : match v with | .Tuple .. => 3 < l.length | .Call .. => True | .Name .. => True | .Subscript .. => True | _ => False) (hl : 1 < is.length ∧ is.length < 5) (hc : ckTs N is l = true) (lo : LocOk X N is)
    (he : PE X v (tE w W (evE w.n.sg cf e))) : PS X (.Assign [.Tuple l k p] v pos) (tS w W pn (evC w.n.sg cf pn (.unp is e))) := by
  have ht : ckTg N is (.Tuple l k p) = true := by
    unfold ckTg
    split
    · simp at hl
    · rename_i es k' p' e1
      cases e1
      simp [hl, hc]
    · rename_i h1 _
      exact absurd rfl (h1 _ _ _)
  have hs : swapsWithSole [.Tuple l k p] v pos.line X.env = pure false := by cases v <;> first | rfl | exact hv.elim
  have hw : swappedStores [.Tuple l k p] v X.env = pure none := by
    cases v with
    | Tuple vs k' p' =>
      have hv' : 3 < l.length := hv
      have e2 : (l.length == 2) = false := by rw [beq_eq_false_iff_ne]; omega
      have e3 : (l.length == 3) = false := by rw [beq_eq_false_iff_ne]; omega
      unfold swappedStores
      simp only [e2, e3]
      rfl
    | _ => first | rfl | exact hv.elim
  refine PS.weak (ps_asg he (pg_T (pn := pn) h ht lo) hs hw) fun E σ H ⟨F, S, T, A, r, q⟩ => ?_
  simp only [evC] at q
  refine ⟨F, S, T, A, r, q.first fun d S1 u U H1 A1 ed hu r1 s1 q1 => ?_⟩
  obtain rfl : U = [(d, u)] := hu
  split at q1
  · split at q1
    · rename_i S2 eb
      exact ⟨F, S1, T, A1, d, S2, r1, eb, fun σ' A' c n r' s' => q1 σ' H1 A' (Pin.of_ch c n) r' (s1.trans s')⟩
    · exact q1.elim
  · exact q1.elim
theorem s_par (h : XC w X N sc W L) {i j : Nat} {a b : Ex} {x y : Str} {px py kt : Pos} {k1 k2 : Nat} {p2 pos : Pos} {u v : Expr} (hi : N[i]? = some x) (hj : N[j]? = some y) (hij : i ≠ j) (hx : sc.names.lookup x = some .local) (hy : sc.names.lookup y = some .local) (hk : sc.kind = .function)
    (hline : (px.line == py.line) = true) (hf : (foldedForSure 8 u && foldedForSure 8 v) = false) (hcn : (constantsAlone 8 u && constantsAlone 8 v) = false) (nu : notStar u = true) (nv : notStar v = true)
    (ha : PA X [u, v] (tXs w W (evX w.n.sg cf (.cons a (.cons b .nil))))) : PS X (.Assign [.Tuple [.Name x px, .Name y py] k1 kt] (.Tuple [u, v] k2 p2) pos) (tS w W pn (evC w.n.sg cf pn (.par i j a b))) := by
  have ndN := h.nd
  have nxy : x ≠ y := fun z => hij (by
    subst z
    exact (List.getElem?_inj (List.getElem?_eq_some_iff.mp hi).1 ndN).mp (hi.trans hj.symm))
  have hx' : X.env.scope.names.lookup x = some .local := by rw [h.hsc]; exact hx
  have hy' : X.env.scope.names.lookup y = some .local := by rw [h.hsc]; exact hy
  have hb : X.env.blockKind = .function := by unfold Env.blockKind; rw [h.hsc, hk]; rfl
  have kx : X.env.kindOf x = some .local := hx'
  have ky : X.env.kindOf y = some .local := hy'
  have hline' : (py.line == px.line) = true := by rw [beq_iff_eq] at hline ⊢; exact hline.symm
  have hw : swappedStores [.Tuple [.Name x px, .Name y py] k1 kt] (.Tuple [u, v] k2 p2) X.env = pure (some [x, y]) := by
    have e1 : (y == x) = false := by rw [beq_eq_false_iff_ne]; exact Ne.symm nxy
    have e2 : (x == y) = false := by rw [beq_eq_false_iff_ne]; exact nxy
    have s1 : ([u, v].any fun | .Starred .. => true | _ => false) = false := by
      cases u <;> cases v <;> first | rfl | (cases nu; done) | (cases nv; done)
    have f1 : [u, v].all (foldedForSure 8) = false := by simp only [List.all_cons, List.all_nil, Bool.and_true]; exact hf
    have f2 : [u, v].all (constantsAlone 8) = false := by simp only [List.all_cons, List.all_nil, Bool.and_true]; exact hcn
    unfold swappedStores
    simp only [hb, s1, f1, f2, kx, ky, List.filterMap_cons, List.filterMap_nil, List.head?_cons, Option.map, Option.getD, Expr.pos, hline', beq_self_eq_true, Bool.and_true, Bool.true_and, if_true, List.length_cons, List.length_nil]
    have d1 : ([x, y].eraseDups).length = 2 := by
      simp [List.eraseDups_cons, e1, e2, nxy, Ne.symm nxy]
    simp [d1]
    intro z
    exfalso
    rcases z with z | z
    · cases u <;> first | (cases z; done) | (cases nu; done)
    · cases v <;> first | (cases z; done) | (cases nv; done)
  refine PS.weak (ps_par h.calm (by rw [h.hN]; exact h.nd) (by rw [h.hN]; exact hi) (by rw [h.hN]; exact hj) hij hx' hy' ha hw) fun E σ H ⟨F, S, T, A, r, q⟩ => ?_
  refine ⟨F, S, T, A, r, ?_⟩
  simp only [evX]
  simp only [evC] at q
  cases ea : evE w.n.sg cf a S with
  | no => simp only [ea, R.fl] at q; exact q.elim
  | er c S1 =>
    simp only [ea, R.fl] at q
    exact fun C H' A' hc r' s' => q C σ H' A' hc .refl r' s'
  | ok d S1 =>
    simp only [ea, R.fl] at q
    simp only [R.bind]
    cases eb : evE w.n.sg cf b S1 with
    | no => simp only [eb] at q; exact q.elim
    | er c S2 =>
      simp only [eb] at q
      exact fun C H' A' hc r' s' => q C σ H' A' hc .refl r' s'
    | ok d2 S2 =>
      simp only [eb] at q
      simp only
      intro vs U H' A' hv r' s'
      obtain ⟨hl, rfl⟩ := hv
      match vs, hl with
      | [v1, v2], _ =>
        refine ⟨v1, v2, rfl, ?_⟩
        cases es : ((setV pn S2 i d).bind fun S3 => setV pn S3 j d2) with
        | none => simp only [es] at q; exact q.elim
        | some S4 =>
          simp only [es] at q
          obtain ⟨S3, e3, e4⟩ := Option.bind_eq_some_iff.mp es
          obtain ⟨hi3, hn3, rfl⟩ := setV_some e3
          obtain ⟨hi4, hn4, rfl⟩ := setV_some e4
          obtain ⟨A2, r2, s2⟩ := Rl.store (T := (d2, v2) :: T) r' hi3
          obtain ⟨A3, r3, s3⟩ := r2.store hi4
          refine q _ _ A3 (fun l hl => ?_) r3 ((s'.trans s2).trans s3)
          rw [List.getElem?_set_ne (by rintro rfl; exact hn4 hl), List.getElem?_set_ne (by rintro rfl; exact hn3 hl)]
end
end Q
end
section
set_option Elab.async false
set_option linter.all false
set_option maxRecDepth 100000
namespace Q
open PySem PySem.Spec PyProof.Rows L2
section
variable {κ : Type} [DecidableEq κ]
theorem put_keys : ∀ {kvs : List (κ × D)} {ws : List (κ × V)} {k : κ} {d : D} {v : V}, ws.map (·.1) = kvs.map (·.1) → (putK ws k v).map (·.1) = (kput kvs k d).map (·.1) := by
  intro kvs ws k d v e
  have ha : (ws.any fun kv => decide (kv.1 = k)) = (kvs.any fun kv => decide (kv.1 = k)) := by
    have h1 : (ws.any fun kv => decide (kv.1 = k)) = (ws.map (·.1)).any fun x => decide (x = k) := by rw [List.any_map]; rfl
    have h2 : (kvs.any fun kv => decide (kv.1 = k)) = (kvs.map (·.1)).any fun x => decide (x = k) := by rw [List.any_map]; rfl
    rw [h1, h2, e]
  unfold putK kput
  rw [ha]
  split
  · have g1 : (ws.map fun kv => if kv.1 = k then (kv.1, v) else kv).map (·.1) = ws.map (·.1) := by
      rw [List.map_map]; apply List.map_congr_left; intro x _; simp only [Function.comp]; split <;> rfl
    have g2 : (kvs.map fun kv => if kv.1 = k then (kv.1, d) else kv).map (·.1) = kvs.map (·.1) := by
      rw [List.map_map]; apply List.map_congr_left; intro x _; simp only [Function.comp]; split <;> rfl
    rw [g1, g2, e]
  · simp [e]
theorem put_vals {K : PySem.W.Frag} {F : List Addr} {H : Hp} {k : κ} {d : D} {v : V} (p : Pr K F H d v) {kvs : List (κ × D)} {ws : List (κ × V)} (e : ws.map (·.1) = kvs.map (·.1)) (q : Prs K F H (kvs.map (·.2)) (ws.map (·.2))) :
    Prs K F H ((kput kvs k d).map (·.2)) ((putK ws k v).map (·.2)) := by
  have ha : (ws.any fun kv => decide (kv.1 = k)) = (kvs.any fun kv => decide (kv.1 = k)) := by
    have h1 : (ws.any fun kv => decide (kv.1 = k)) = (ws.map (·.1)).any fun x => decide (x = k) := by rw [List.any_map]; rfl
    have h2 : (kvs.any fun kv => decide (kv.1 = k)) = (kvs.map (·.1)).any fun x => decide (x = k) := by rw [List.any_map]; rfl
    rw [h1, h2, e]
  unfold putK kput
  rw [ha]
  split
  · clear ha
    rename_i hh
    clear hh
    induction kvs generalizing ws with
    | nil => cases ws with
      | nil => exact .nil
      | cons _ _ => simp at e
    | cons a kvs ih =>
      cases ws with
      | nil => simp at e
      | cons b ws =>
        simp only [List.map_cons, List.cons.injEq] at e
        simp only [List.map_cons] at q ⊢
        cases q with
        | cons q1 q2 =>
          refine .cons ?_ (ih e.2 q2)
          rw [e.1]
          by_cases hk : a.1 = k
          · rw [if_pos hk, if_pos hk]; exact p
          · rw [if_neg hk, if_neg hk]; exact q1
  · rw [List.map_append, List.map_append]
    exact q.app (.cons p .nil)
end
section
variable {w : Wd} {X : Cx} {N : List Str} {sc : Scope} {W : WX} {L : Nat} {cf : Nat → List D → FR} {n : Nm} {tg : Expr} {pn : List Nat}
/-- a list or a dict at a place is written -/
theorem sub_upd {F : List Addr} {H : Hp} {S S' : Sl} {σ : L2.St} {T : List (D × V)} {A : List Addr} {i : Nat} {p : List Nat} {d d' : D} {v : V} (r : Rl w F H S σ T A) (e : rdS w.n.sg S i p = some d) (hl : (∃ xs, d = .lst xs) ∨ (∃ xs, d = .dk xs) ∨ ∃ xs, d = .dt xs) (e1 : wrS w.n.sg S i p d' = some S') (pv : PV w H σ i p v) :
    ∃ a o, v = .ref a ∧ H a = some o ∧ (∀ ob x, o ≠ .frz ob x) ∧ Mr w F H d (.ref a) [a] ∧ (∀ ws, o ≠ .tup ws) ∧ ∀ u, (∀ ws, u ≠ HO.tup ws) → Mr w F (upd H a u) d' (.ref a) [a] → ∃ A', Rl w F (upd H a u) S' σ T A' ∧ Step A H A' (upd H a u) := by
  have hlin : d.lin = true := by rcases hl with ⟨_, rfl⟩ | ⟨_, rfl⟩ | ⟨_, rfl⟩ <;> rfl
  obtain ⟨B, m, nd, k⟩ := r.change e hlin e1 pv
  obtain ⟨u2, B2, pu2, m2, sb⟩ := r.readP e hlin
  have e3 := pv.inj pu2
  subst e3
  have go : ∀ a o, v = .ref a → B = [a] → B2 = [a] → H a = some o → (∀ ws, o ≠ .tup ws) → (∀ C dx ws, o ≠ .ins C dx ws) → (∀ ob x, o ≠ .frz ob x) → ∃ a o, v = .ref a ∧ H a = some o ∧ (∀ ob x, o ≠ .frz ob x) ∧ Mr w F H d (.ref a) [a] ∧ (∀ ws, o ≠ .tup ws) ∧ ∀ u, (∀ ws, u ≠ HO.tup ws) → Mr w F (upd H a u) d' (.ref a) [a] → ∃ A', Rl w F (upd H a u) S' σ T A' ∧ Step A H A' (upd H a u) := fun a o h1 h2 h3 h4 h5 h6 h7 => by
    subst h1; subst h2; subst h3
    have aA : a ∈ A := sb a (by simp)
    exact ⟨a, o, rfl, h4, h7, m, h5, fun u hu mu => k _ [a] mu (by simp) (fr_upd r.fl h4 h7) (step_upd h4 h5 h6 hu h7)⟩
  rcases hl with ⟨xs, rfl⟩ | ⟨xs, rfl⟩ | ⟨xs, rfl⟩
  · cases m with
    | pr m => cases m
    | lst h1 q1 => cases m2 with
      | pr m => cases m
      | lst _ _ => exact go _ _ rfl rfl rfl h1 (by intro _ z; cases z) (by intro _ _ _ z; cases z) (by intro _ _ z; cases z)
  · cases m with
    | pr m => cases m
    | dk h1 q0 q1 => cases m2 with
      | pr m => cases m
      | dk _ _ _ => exact go _ _ rfl rfl rfl h1 (by intro _ z; cases z) (by intro _ _ _ z; cases z) (by intro _ _ z; cases z)
  · cases m with
    | pr m => cases m
    | dt h1 q0 q1 => cases m2 with
      | pr m => cases m
      | dt _ _ _ => exact go _ _ rfl rfl rfl h1 (by intro _ z; cases z) (by intro _ _ _ z; cases z) (by intro _ _ z; cases z)
/-- is a list written -/
def isLsS (sg : Sg) (cf : Nat → List D → FR) (o i e : Ex) (S : Sl) : Bool :=
  match evE sg cf e S with
  | .ok _ S1 => match argOf sg S1 o (evE sg cf o S1) with
    | .ok (.pl r p) S2 => match evE sg cf i S2 with
      | .ok _ S3 => match rdS sg S3 r p with
        | some (.lst _) => true
        | _ => false
      | _ => true
    | _ => true
  | _ => true
theorem s_sts (h : XC w X N sc W L) {o i e : Ex} {l r v : Expr} {ps pos : Pos} (hns : notSl r = true) (ho : PE X l (tAr w W fun S => argOf w.n.sg S o (evE w.n.sg cf o S))) (hi : PE X r (tE w W (evE w.n.sg cf i))) (hv : PE X v (tE w W (evE w.n.sg cf e))) :
    PS X (.Assign [.Subscript l r ps] v pos) (tS w W pn (evC w.n.sg cf pn (.sts o i e))) := by
  have hs : swapsWith v (some (.Subscript l r ps)) pos.line X.env = pure false := sw_pl trivial
  have hu : X.A.units + 1 < cLine := by have := units_of h; omega
  have hw : swappedStores [.Subscript l r ps] v X.env = pure none := by cases v <;> rfl
  have ha : ∀ u, assign (.Subscript l r ps) X.env u = (do
      let ov ← holding [u] (eval l X.env)
      let iv ← holding [u, ov] (eval r X.env)
      standAt ps
      holding [u, ov, iv] (setItem ov iv u)
      release [u, ov, iv] []) := by
    intro u
    cases r <;> first | (cases hns; done) | rfl
  refine PS.weak (PS.or (ps_asg hv (pg_sub ho hi set_list ha) hs hw) (ps_dput hu ho hi hv hs)) fun E σ H ⟨F, S, T, A, rl, q⟩ => ?_
  simp only [evC] at q
  -- the three, and what is done with them
  have three : ∀ (P : V → V → V → Hp → Prop), (∀ vd S1 x S2 k S3 vv ov iv U U2 U3 H3 A3, evE w.n.sg cf e S = .ok vd S1 → argOf w.n.sg S1 o (evE w.n.sg cf o S1) = .ok x S2 → evE w.n.sg cf i S2 = .ok k S3 → U = [(vd, vv)] → ArV w H3 σ x ov U2 → U3 = [(k, iv)] → Rl w F H3 S3 σ (U3 ++ (U2 ++ (U ++ T))) A3 → Step A H A3 H3 →
      ES w W pn F σ T A H E (stsU w.n.sg vd x k S3) → P vv ov iv H3) →
      tE w W (evE w.n.sg cf e) σ H fun vv H1 => (tAr w W fun S => argOf w.n.sg S o (evE w.n.sg cf o S)) σ H1 fun ov H2 => tE w W (evE w.n.sg cf i) σ H2 fun iv H3 => P vv ov iv H3 := fun P hP => by
    refine ⟨F, S, T, A, rl, q.first fun vd S1 vv U H1 A1 e1 hu1 r1 s1 q1 => ?_⟩
    refine ⟨F, S1, U ++ T, A1, r1, ES.next s1 q1 fun x S2 ov U2 H2 A2 e2 hu2 r2 s2 s2' q2 => ?_⟩
    refine ⟨F, S2, U2 ++ (U ++ T), A2, r2, ?_⟩
    rw [← List.append_assoc]
    refine ES.next s2 q2 fun k S3 iv U3 H3 A3 e3 hu3 r3 s3 s3' q3 => ?_
    rw [List.append_assoc] at r3
    exact hP vd S1 x S2 k S3 vv ov iv U U2 U3 H3 A3 e1 e2 e3 hu1 (hu2.step s3') hu3 r3 s3 q3
  cases hcl : isLsS w.n.sg cf o i e S with
  | true =>
    left
    refine three (fun vv ov iv H3 => rSetL ov iv vv H3 fun H4 => E.nx σ H4) fun vd S1 x S2 k S3 vv ov iv U U2 U3 H3 A3 e1 e2 e3 hU hx hU3 r3 s3 q3 => ?_
    subst hU; subst hU3
    unfold stsU at q3
    cases x with
    | val _ => exact q3.elim
    | pl ri pp =>
      cases hx with
      | pl pv =>
        simp only [isLsS, e1, e2, e3] at hcl
        split at hcl
        · rename_i xs er
          simp only [er] at q3
          split at q3
          · rename_i m
            split at q3
            · rename_i hh
              simp only [Bool.and_eq_true, decide_eq_true_eq] at hh
              obtain ⟨hvp, hm0, hm1⟩ := hh
              split at q3
              · rename_i S4 ew
                obtain ⟨B, mk, _⟩ := r3.top
                have ek := Mx.int ⟨B, mk⟩
                obtain ⟨Bv, mv, _⟩ := r3.mem (x := (vd, vv)) (by simp)
                have pvv := (mv.ofPure hvp).1
                obtain ⟨a, ob, rfl, ha, aF, m0, ht, kk⟩ := sub_upd r3 er (.inl ⟨xs, rfl⟩) ew pv
                cases m0 with
                | @lst _ _ vs h1 q1 =>
                  rw [ha] at h1; cases h1
                  have hix : ixN vs.length m = some m.toNat := by
                    unfold ixN
                    rw [if_pos hm0, if_pos (by rw [← q1.len]; exact hm1)]
                  refine ⟨a, vs, m, m.toNat, rfl, ek, ha, hix, ?_⟩
                  obtain ⟨A4, r4, s4⟩ := kk (.lst (vs.set m.toNat vv)) (by intro _ z; cases z) (.lst upd_same ((prs_upd ha ht aF q1).set (pr_upd ha ht aF pvv) _))
                  obtain ⟨A5, r5, s5⟩ := Rl.tdrop (U := [(D.int m, iv)] ++ ([] ++ [(vd, vv)])) (T := T) (by simpa using r4)
                  exact q3 σ _ A5 .refl r5 ((s3.trans s4).trans s5)
              · exact q3.elim
            · exact q3.elim
          · exact q3.elim
        · cases hcl
  | false =>
    right
    refine three (fun vv ov iv H3 => ∃ a H4, ov = .ref a ∧ DPut H3 a iv vv H4 ∧ E.nx σ H4) fun vd S1 x S2 k S3 vv ov iv U U2 U3 H3 A3 e1 e2 e3 hU hx hU3 r3 s3 q3 => ?_
    subst hU; subst hU3
    unfold stsU at q3
    cases x with
    | val _ => exact q3.elim
    | pl ri pp =>
      cases hx with
      | pl pv =>
        simp only [isLsS, e1, e2, e3] at hcl
        cases er : rdS w.n.sg S3 ri pp with
        | none => simp only [er] at q3; exact q3.elim
        | some d0 =>
        cases d0 with
        | lst xs =>
          rw [er] at hcl
          cases hcl
        | dk kvs =>
          simp only [er] at q3
          split at q3
          · rename_i qk ek
            split at q3
            · rename_i hh
              simp only [Bool.and_eq_true, decide_eq_true_eq] at hh
              obtain ⟨hvp, hlen⟩ := hh
              split at q3
              · rename_i S4 ew
                obtain ⟨B, mk, _⟩ := r3.top
                have eiv := kyOf_v ⟨B, mk⟩ ek
                obtain ⟨Bv, mv, _⟩ := r3.mem (x := (vd, vv)) (by simp)
                have pvv := (mv.ofPure hvp).1
                obtain ⟨a, ob, rfl, ha, aF, m0, ht, kk⟩ := sub_upd r3 er (.inr (.inl ⟨kvs, rfl⟩)) ew pv
                cases m0 with
                | @dk _ _ ws h1 q0 q1 =>
                  rw [ha] at h1; cases h1
                  have hl : ws.length = kvs.length := by have := congrArg List.length q0; simpa using this
                  obtain ⟨A4, r4, s4⟩ := kk (.dK (putK ws qk vv)) (by intro _ z; cases z) (.dk upd_same (put_keys q0) (put_vals (pr_upd ha ht aF pvv) q0 (prs_upd ha ht aF q1)))
                  obtain ⟨A5, r5, s5⟩ := Rl.tdrop (U := [(k, iv)] ++ ([] ++ [(vd, vv)])) (T := T) (by simpa using r4)
                  refine ⟨a, _, rfl, ?_, q3 σ _ A5 .refl r5 ((s3.trans s4).trans s5)⟩
                  subst eiv
                  exact DPut.k ha (by rw [hl]; exact lim_lt hlen)
              · exact q3.elim
            · exact q3.elim
          · exact q3.elim
        | dt kvs =>
          simp only [er] at q3
          split at q3
          · rename_i qk ek
            split at q3
            · rename_i hh
              simp only [Bool.and_eq_true, decide_eq_true_eq] at hh
              obtain ⟨hvp, hlen⟩ := hh
              split at q3
              · rename_i S4 ew
                obtain ⟨B, mk, _⟩ := r3.top
                obtain ⟨kp, eiv, hkp⟩ := tkOf_v ⟨B, mk⟩ ek
                obtain ⟨Bv, mv, _⟩ := r3.mem (x := (vd, vv)) (by simp)
                have pvv := (mv.ofPure hvp).1
                obtain ⟨a, ob, rfl, ha, aF, m0, ht, kk⟩ := sub_upd r3 er (.inr (.inr ⟨kvs, rfl⟩)) ew pv
                cases m0 with
                | @dt _ _ ws h1 q0 q1 =>
                  rw [ha] at h1; cases h1
                  have hl : ws.length = kvs.length := by have := congrArg List.length q0; simpa using this
                  obtain ⟨A4, r4, s4⟩ := kk (.dT (putK ws qk vv)) (by intro _ z; cases z) (.dt upd_same (put_keys q0) (put_vals (pr_upd ha ht aF pvv) q0 (prs_upd ha ht aF q1)))
                  obtain ⟨A5, r5, s5⟩ := Rl.tdrop (U := [(k, iv)] ++ ([] ++ [(vd, vv)])) (T := T) (by simpa using r4)
                  refine ⟨a, _, rfl, ?_, q3 σ _ A5 .refl r5 ((s3.trans s4).trans s5)⟩
                  subst eiv
                  exact DPut.t ha hkp (by rw [hl]; exact lim_lt hlen)
              · exact q3.elim
            · exact q3.elim
          · exact q3.elim
        | _ => simp only [er] at q3; exact q3.elim
end
end Q
end
section
set_option Elab.async false
set_option linter.all false
set_option maxRecDepth 100000
namespace Q
open PySem PySem.Spec PyProof.Rows L2
section
variable {w : Wd}
theorem step_obj {H : Hp} {p C dx : Addr} {ws ws' : List (Str × V)} (h : H p = some (.ins C dx ws)) (k : ∀ f a, ws.lookup f = some (.ref a) → Nt H a → ws'.lookup f = some (.ref a)) : Step [p] H [p] (upd H p (.ins C dx ws')) where
  keep := fun b x e hb => by rw [upd_ne (fun z => hb (by simp [z]))]; exact e
  new := fun b hb => .inl hb
  there := fun b x e => by
    by_cases hb : b = p
    · subst hb; exact ⟨_, upd_same⟩
    · exact ⟨x, by rw [upd_ne hb]; exact e⟩
  stab := fun b C' dx' us e => by
    by_cases hb : b = p
    · subst hb; rw [h] at e; cases e; exact ⟨ws', upd_same, k⟩
    · exact ⟨us, by rw [upd_ne hb]; exact e, fun _ _ l _ => l⟩
  nt := fun a ⟨x, e, q⟩ => by
    by_cases hb : a = p
    · subst hb; exact ⟨_, upd_same, by intro _ z; cases z⟩
    · exact ⟨x, by rw [upd_ne hb]; exact e, q⟩
  frz := fun b ob x e => by
    by_cases hb : b = p
    · subst hb; rw [h] at e; cases e
    · rw [upd_ne hb]; exact e
theorem putF_new {f : Str} {v : V} : ∀ {ws : List (Str × V)}, f ∉ ws.map (·.1) → putF f v ws = ws ++ [(f, v)]
  | [], _ => rfl
  | (g, x) :: r, h => by
    simp only [List.map_cons, List.mem_cons, not_or] at h
    unfold putF
    rw [if_neg (Ne.symm h.1), putF_new h.2]
    rfl
theorem putF_at {f : Str} {v u : V} : ∀ {ws : List (Str × V)} {j : Nat}, (ws.map (·.1)).Nodup → ws[j]? = some (f, u) → putF f v ws = ws.set j (f, v)
  | [], _, _, h => by simp at h
  | (g, x) :: r, 0, _, h => by simp at h; obtain ⟨rfl, rfl⟩ := h; simp [putF]
  | (g, x) :: r, j + 1, nd, h => by
    have h' : r[j]? = some (f, u) := by simpa using h
    have ne : g ≠ f := by
      rintro rfl
      exact (List.nodup_cons.mp nd).1 (List.mem_map.mpr ⟨_, List.mem_of_getElem? h', rfl⟩)
    unfold putF
    rw [if_neg ne, putF_at (List.nodup_cons.mp nd).2 h']
    rfl
theorem rep_nt {K : PySem.W.Frag} {F : List Addr} {H : Hp} {d : D} {a : Addr} (h : Pr K F H d (.ref a)) (hd : d.rep = true) : ¬ Nt H a := fun ⟨o, e, n⟩ => by
  cases h with
  | tup h1 _ => rw [h1] at e; cases e; exact n _ rfl
  | ktup _ _ => cases hd
  | fls _ _ => cases hd
/-- a field is stored -/
theorem Rl.field {F : List Addr} {H : Hp} {S S2 : Sl} {σ : L2.St} {T : List (D × V)} {A : List Addr} {i : Nat} {p : List Nat} {c f j : Nat} {fs fs' : List D} {v : D} {x y : V} (r : Rl w F H S σ ((v, y) :: T) A) (e : rdS w.n.sg S i p = some (.obj c fs)) (e1 : wrS w.n.sg S i p (.obj c fs') = some S2)
    (hj : fieldIx (w.n.sg.flds c) f = some j) (hf : (j = fs.length ∧ fs' = fs ++ [v]) ∨ ∃ d, fs[j]? = some d ∧ d.rep = true ∧ fs' = fs.set j v) (pv : PV w H σ i p x) :
    ∃ a C dx ws, x = .ref a ∧ H a = some (.ins C dx ws) ∧ w.cl c = some C ∧ ws.length = fs.length ∧ ∃ A', Rl w F (upd H a (.ins C dx (putF (w.n.fld f) y ws))) S2 σ T A' ∧ Step A H A' (upd H a (.ins C dx (putF (w.n.fld f) y ws))) := by
  obtain ⟨S1, w1, w2, w3⟩ := wrS_two e1
  obtain ⟨x', A1, pu, r1, q1⟩ := r.takeP e w1 rfl
  have ev := pv.inj pu
  subst ev
  obtain ⟨B, oB, k⟩ := Rl.frame2 (U := [(.obj c fs, x), (v, y)]) r1
  have ndB := oB.nd
  have frB := oB.fr
  cases oB.ml with
  | @cons _ _ _ Bo Bv mo mv0 =>
    cases mv0 with
    | @cons _ _ _ Bv' B0 mv mn =>
      cases mn
      rw [List.append_nil] at ndB k
      cases mo with
      | pr m => cases m
      | @obj a C dx _ _ ws Af h1 hC en el ml =>
        have nn := List.nodup_append.mp ndB
        have na := (List.nodup_cons.mp nn.1).1
        have aF : ∀ ob x, HO.ins C dx ws ≠ .frz ob x := by intro ob x z; cases z
        have aV : a ∉ Bv' := fun z => nn.2.2 a (by simp) a z rfl
        refine ⟨a, C, dx, ws, rfl, h1, hC, el, ?_⟩
        generalize eH : upd H a (.ins C dx (putF (w.n.fld f) y ws)) = H'
        have hne : ∀ b o, H b = some o → b ≠ a → H' b = some o := fun b o e z => by rw [← eH, upd_ne z]; exact e
        have keepA : ∀ (Z : List Addr), a ∉ Z → ∀ b o, H b = some o → b ∈ Z ∨ Fz F b o → H' b = some o := fun Z hz b o e q => by
          refine hne b o e fun z => ?_
          subst z
          rcases q with q | ⟨_, ob, u, q⟩ | ⟨vs, q⟩
          · exact hz q
          · rw [h1] at e; cases e; exact aF _ _ q
          · rw [h1] at e; cases e; cases q
        have ml' := Ml.keep _ _ (keepA Af na) ml
        have mv' := Mr.keep _ _ _ (keepA Bv' aV) mv
        have ha' : H' a = some (.ins C dx (putF (w.n.fld f) y ws)) := by rw [← eH]; exact upd_same
        have hjf := fieldIx_some hj
        -- the new object; the step
        have main : ∃ B', Mr w F H' (.obj c fs') (.ref a) B' ∧ B'.Nodup ∧ (∀ b ∈ B', b ∈ (a :: Af) ++ Bv') ∧ (∀ g b, ws.lookup g = some (.ref b) → Nt H b → (putF (w.n.fld f) y ws).lookup g = some (.ref b)) := by
          rcases hf with ⟨ej, rfl⟩ | ⟨d, hd, hr, rfl⟩
          · have enf : w.n.fld f ∉ ws.map (·.1) := by
              rw [en]
              intro hm
              rw [List.map_take] at hm
              obtain ⟨l, hl, el2⟩ := List.mem_iff_getElem.mp hm
              rw [List.length_take] at hl
              have hl1 : l < fs.length := by omega
              have e2 : ((w.n.sg.flds c).map w.n.fld)[l]? = some (w.n.fld f) := by
                rw [List.getElem_take] at el2
                rw [List.getElem?_eq_getElem (by omega), el2]
              have e3 : ((w.n.sg.flds c).map w.n.fld)[j]? = some (w.n.fld f) := by rw [List.getElem?_map, hjf]; rfl
              have := (List.getElem?_inj (List.getElem?_eq_some_iff.mp e2).1 (w.nd c)).mp (e2.trans e3.symm)
              omega
            refine ⟨a :: (Af ++ Bv'), ?_, by simpa using ndB, by simp, fun g b hl hn => ?_⟩
            · rw [putF_new enf] at ha'
              refine .obj ha' hC ?_ (by simp [el]) ?_
              · rw [List.length_append, List.length_singleton, ← ej, List.take_add_one, hjf]
                simp [en, ej]
              · have e4 : (fs ++ [v]).zip ((ws ++ [(w.n.fld f, y)]).map (·.2)) = fs.zip (ws.map (·.2)) ++ [(v, y)] := by
                  rw [List.map_append, List.zip_append (by simp [el])]
                  rfl
                rw [e4]
                have := Ml.cons mv' (.nil (w := w) (F := F) (H := H'))
                rw [List.append_nil] at this
                exact ml'.app this
            · rw [lookup_putF]
              split
              · rename_i z
                subst z
                have := lookup_none enf
                rw [this] at hl; cases hl
              · exact hl
          · obtain ⟨u, eu, lu, eu2⟩ := obj_field en el hj hd
            have ndn : (ws.map (·.1)).Nodup := by rw [en]; exact (w.nd c).sublist ((List.take_sublist _ _).map _)
            obtain ⟨A2, B1, A3, eA, l1, m0, l2⟩ := ml_sides ml' eu2
            have hrp : d.pure = true := by cases d <;> first | rfl | cases hr
            obtain ⟨pd, eB1⟩ := m0.ofPure hrp
            subst eB1
            have hj2 : j < (fs.zip (ws.map (·.2))).length := (List.getElem?_eq_some_iff.mp eu2).1
            rw [List.append_nil] at eA
            subst eA
            refine ⟨a :: (A2 ++ Bv' ++ A3), ?_, ?_, ?_, fun g b hl hn => ?_⟩
            · rw [putF_at ndn eu] at ha'
              refine .obj ha' hC ?_ (by simp [el]) ?_
              · rw [List.length_set, ← en, List.map_set]
                apply List.ext_getElem?
                intro l
                by_cases hl : j = l
                · subst hl
                  rw [List.getElem?_set_self (by rw [List.length_map]; exact (List.getElem?_eq_some_iff.mp eu).1), List.getElem?_map, eu]; rfl
                · rw [List.getElem?_set_ne hl]
              · have e5 : (fs.set j v).zip ((ws.set j (w.n.fld f, y)).map (·.2)) = (fs.zip (ws.map (·.2))).set j (v, y) := by
                  rw [List.map_set]
                  apply List.ext_getElem?
                  intro l
                  by_cases hl : j = l
                  · subst hl
                    rw [List.getElem?_set_self hj2]
                    rw [List.getElem?_zip_eq_some.mpr]
                    have hz := List.length_zip (l₁ := fs) (l₂ := ws.map (·.2))
                    exact ⟨List.getElem?_set_self (by omega), List.getElem?_set_self (by omega)⟩
                  · rw [List.getElem?_set_ne hl]
                    simp only [List.zip, List.getElem?_zipWith, List.getElem?_set_ne hl]
                rw [e5]
                exact ml_join (y := (v, y)) hj2 l1 mv' l2
            · have : (a :: (A2 ++ Bv' ++ A3)).Perm ((a :: (A2 ++ A3)) ++ Bv') := by
                rw [List.cons_append]
                refine List.Perm.cons a ?_
                rw [List.append_assoc, List.append_assoc]
                exact List.perm_append_comm.append_left A2
              exact this.nodup_iff.mpr ndB
            · intro b hb
              simp only [List.mem_cons, List.mem_append] at hb ⊢
              rcases hb with hb | (hb | hb) | hb <;> simp [hb]
            · rw [lookup_putF]
              split
              · rename_i z
                subst z
                rw [lu] at hl
                cases hl
                have pd0 : Pr w.K F H d (.ref b) := by
                  obtain ⟨A2', B1', A3', eA', l1', m0', l2'⟩ := ml_sides ml eu2
                  exact (m0'.ofPure hrp).1
                exact absurd hn (rep_nt pd0 hr)
              · exact hl
        obtain ⟨B', mB, ndB', sub, kk⟩ := main
        have st : Step ((a :: Af) ++ Bv') H B' H' := by
          have s0 := step_obj (ws' := putF (w.n.fld f) y ws) h1 kk
          rw [eH] at s0
          exact s0.mono (fun b hb => by rw [List.mem_singleton.mp hb]; simp) fun b hb => .inr (sub b hb)
        have ow : Ow w F H' [(.obj c fs', .ref a)] B' := ⟨by
          have := Ml.cons mB (.nil (w := w) (F := F) (H := H'))
          rwa [List.append_nil] at this, ndB', st.fr frB⟩
        obtain ⟨A2, r2, s2⟩ := k H' _ B' ow st
        obtain ⟨A3, r3, q3⟩ := Rl.putP (T := T) r2 w2 w3 (pv.step ((step_perm q1).trans s2))
        exact ⟨A3, r3, ((step_perm q1).trans s2).trans (step_perm q3)⟩
end
section
variable {w : Wd} {X : Cx} {N : List Str} {sc : Scope} {W : WX} {L : Nat} {cf : Nat → List D → FR} {n : Nm} {tg : Expr} {pn : List Nat}
theorem s_stf (hn : n = w.n) (E : EnvOk w cf L X.prog X.w X.mg X.base) (h : XC w X N sc W L) {o e : Ex} {f i : Nat} {p : List Nat} {l v : Expr} {ap pos : Pos} (hp : pathOf o = some (i, p)) (ho : ckE n N sc o l = true) (hv : PE X v (tE w W (evE w.n.sg cf e))) :
    PS X (.Assign [.Attribute l (n.fld f) ap] v pos) (tS w W pn (evC w.n.sg cf pn (.stf o f e))) := by
  subst hn
  have hs : swapsWith v (some (.Attribute l (w.n.fld f) ap)) pos.line X.env = pure false := sw_pl trivial
  refine PS.weak (ps_fld (path_pe rfl E h o l i p ho hp) hv hs) fun E' σ H ⟨F, S, T, A, r, q⟩ => ?_
  simp only [evC, hp] at q
  refine ⟨F, S, T, A, r, q.first fun vd S1 vv U H1 A1 e1 hu r1 s1 q1 => ?_⟩
  obtain rfl : U = [(vd, vv)] := hu
  split at q1
  · rename_i c fs er
    split at q1
    · rename_i hm
      simp only [Bool.and_eq_true, decide_eq_true_eq] at hm
      split at q1
      · rename_i j ej
        refine ⟨F, S1, _, A1, _, r1, er, fun x pr mx => ?_⟩
        have pv : PV w H1 σ i p x := by
          obtain ⟨v0, e0, fv⟩ := pr
          refine ⟨v0, e0, fv.fv ?_⟩
          obtain ⟨B, m⟩ := mx
          exact m.lin_nt rfl
        have fin : ∀ fs', ((j = fs.length ∧ fs' = fs ++ [vd]) ∨ ∃ d, fs[j]? = some d ∧ d.rep = true ∧ fs' = fs.set j vd) → ∀ S2, wrS w.n.sg S1 i p (.obj c fs') = some S2 → ES w W pn F σ T A H E' (.nx S2) → ∃ a C dx fs, x = .ref a ∧ H1 a = some (.ins C dx fs) ∧ Cls X.K C ∧ NoAttr X.K C (w.n.fld f) ∧ fs.length < 1000 ∧ E'.nx σ (upd H1 a (.ins C dx (putF (w.n.fld f) vv fs))) := fun fs' hf S2 ew q2 => by
          obtain ⟨a, C, dx, ws, rfl, h1, hC, el, A', r2, s2⟩ := r1.field er ew ej hf pv
          obtain ⟨k1, k2⟩ := E.cls c C hC
          refine ⟨a, C, dx, ws, rfl, h1, by rw [h.hK]; exact k1, by rw [h.hK]; exact k2 f j ej, by rw [el]; exact hm.2, q2 σ _ A' .refl r2 (s1.trans s2)⟩
        split at q1
        · rename_i hjl
          split at q1
          · rename_i S2 ew
            exact fin _ (.inl ⟨hjl, rfl⟩) S2 ew q1
          · exact q1.elim
        · split at q1
          · rename_i d hd
            split at q1
            · rename_i hr
              split at q1
              · rename_i S2 ew
                exact fin _ (.inr ⟨d, hd, hr, rfl⟩) S2 ew q1
              · exact q1.elim
            · exact q1.elim
          · exact q1.elim
      · exact q1.elim
    · exact q1.elim
  · exact q1.elim
/-- what a module's exceptions are -/
structure ExcOk (w : Wd) (mg : Str → Option Value) : Prop where
  ex : ∀ c, ∃ (C : Addr) (bmB : List Value) (B newId initId : String), w.ecl c = some (.ref C) ∧ ExcBaseFacts B newId initId bmB ∧ PySem.W.excIn w.K C bmB newId = true ∧ mg (w.n.en c) = some (.ref C) ∧ PySem.W.keepIn w.K (.ref C) = true ∧
    PySem.W.subIn w.K (.ref C) (.type "BaseException") = some true ∧ PySem.W.typeIn w.K (.ref C) = some (.type "type")
theorem s_rais (hn : n = w.n) (O : ExcOk w X.mg) (h : XC w X N sc W L) {c : Nat} {m : Str} {j : Nat} {p p2 p3 pos : Pos} (hg : glB sc (n.en c) = true) :
    PS X (.Raise (some (.Call (.Name (n.en c) p) [.Constant (.str m) j p2] [] p3)) none pos) (tS w W pn (evC w.n.sg cf pn (.rais c))) := by
  subst hn
  obtain ⟨C, bmB, B, newId, initId, h1, h2, h3, h4, h5, h6, h7⟩ := O.ex c
  obtain ⟨g1, g2, g3⟩ := gl_of h hg
  refine PS.weak (ps_raise h.calm h.tk (pmk_own h2 (by rw [h.hK]; exact h3) h4 (by rw [h.hK]; exact h5) (raises_own (by rw [h.hK]; exact h6) (by rw [h.hK]; exact h7)) g1 g2)) fun E σ H ⟨F, S, T, A, r, q⟩ => ?_
  simp only [evC] at q
  exact q _ σ H A h1 .refl r .refl
end
end Q
end
section
set_option Elab.async false
set_option linter.all false
set_option maxRecDepth 100000
set_option maxHeartbeats 2000000
namespace Q
open PySem PySem.Spec PyProof.Rows L2
/-! dicts: setdefault, update, whatever the keys -/
section
variable {X : Cx} {pins : List (Addr × Obj)} {σ : L2.St} {H H' : Hp} {s : Shared} {a b : Addr} {y d : V} {u r : Value} {o : Option V} {A : Around} {E : Value → Shared → Prop}
theorem d_setdA {Q : Value → Shared → Prop} (hu : A.units + 1 < cLine) (I : Inv X pins σ H s) (g : DGet H a y o) (hp : DPut H a y d H') (ry : RelV y u) (rd : RelV d r)
    (h1 : ∀ v, o = some v → ∀ (w' : Value) (s' : Shared), Inv X pins σ H s' → RelV v w' → Q w' s') (h2 : o = none → ∀ (w' : Value) (s' : Shared), Inv X pins σ H' s' → RelV d w' → Q w' s') :
    wpAny (model X.prog X.w) A (call (.builtin "dict.setdefault") [.ref a, u, r]) Q E s := by
  rcases hp with ⟨kvs, k, e, ey, hl, eH⟩ | ⟨kvs, k, b, e, ey, eb, hl, eH⟩
  · subst ey eH
    have go : o = valV kvs k := by
      rcases g with ⟨kvs', k', e', ey', l⟩ | ⟨kvs', k', b', e', ey', eb', l⟩
      · have e2 : kvs' = kvs := by
          rcases e' with e' | ⟨ob, e'⟩
          · rw [e] at e'; cases e'; rfl
          · rw [e] at e'; cases e'
        have e3 := kV_inj ey'
        subst e2; subst e3
        exact l
      · rcases e' with e' | ⟨ob, e'⟩
        · rw [e] at e'; cases e'
        · rw [e] at e'; cases e'
    exact d_setd I e ry rd hl (fun v hv w' s' I' rw' => h1 v (by rw [go]; exact hv) w' s' I' rw') fun hn w' s' I' rw' => h2 (by rw [go]; exact hn) w' s' I' rw'
  · subst ey eH
    cases (show u = Value.ref b from ry)
    have go : o = valV kvs k := by
      rcases g with ⟨kvs', k', e', ey', l⟩ | ⟨kvs', k', b', e', ey', eb', l⟩
      · rcases e' with e' | ⟨ob, e'⟩
        · rw [e] at e'; cases e'
        · rw [e] at e'; cases e'
      · have e2 : kvs' = kvs := by
          rcases e' with e' | ⟨ob, e'⟩
          · rw [e] at e'; cases e'; rfl
          · rw [e] at e'; cases e'
        cases ey'
        rw [eb] at eb'
        have e3 := kVs_inj (HO.tup.inj (Option.some.inj eb'))
        subst e2; subst e3
        exact l
    obtain ⟨z, hd, xs, rel, dd⟩ := dt_of I.hok e
    have hz : xs.length ≤ sizeLine := by rw [← Paired.length rel]; exact z
    have hl2 : (putK kvs k d).length ≤ sizeLine := by have := length_putK kvs k d; omega
    refine call_setdefault_heap (hsz := hz) (tupleKind_room_in1 hu) (key_of I.hok eb) hd dd (fun p hp => ?_) fun hn h' dd' hs => ?_
    · have q := rel.val k
      rw [hp] at q
      cases q0 : valV kvs k with
      | none => rw [q0] at q; exact (show False from q).elim
      | some v0 =>
        rw [q0] at q
        exact h1 v0 (by rw [go]; exact q0) _ _ (I.tok _) q
    · have q := rel.val k
      rw [hn] at q
      cases q0 : valV kvs k with
      | some v0 => rw [q0] at q; exact (show False from q).elim
      | none =>
        obtain ⟨q1, es, ep, hq, g2, g3, g4, _, g5⟩ := dd'
        refine h2 (by rw [go]; exact q0) _ _ (d_write I (by rw [e]; exact True.intro) hs ⟨q1, hq⟩ ⟨hl2, hd, _, (rel.put k eb rd).keeps fun c ys ec => ?_, q1, es, ep, hq, g2, g3, g4, g5⟩) rd
        rw [upd_ne (ne_of ec e (fun z => nomatch z))]
        exact ec
/-- d.setdefault(y, z) -/
def tDSetdA (td ty tx : TE) : TE := fun σ H Q => td σ H fun x H1 => ∃ a, x = .ref a ∧ IsD H1 a ∧ ty σ H1 fun y H2 => tx σ H2 fun z H3 => ∃ o H4, DGet H3 a y o ∧ DPut H3 a y z H4 ∧ (∀ v, o = some v → Q v H3) ∧ (o = none → Q z H4)
theorem pe_dsetdA {o e f : Expr} {td ty tx : TE} {apos cpos : Pos} (hu : X.A.units + 1 < cLine) (ho : PE X o td) (he : PE X e ty) (hf : PE X f tx) (m : M2 X o "setdefault" apos e f cpos) : PE X (.Call (.Attribute o "setdefault" apos) [e, f] [] cpos) (tDSetdA td ty tx) := by
  refine ⟨fun pins s σ H Q I h => ?_⟩
  refine wpAny_Call_method m.base m.few m.line PySem.F.plainAttrs_dict PySem.F.slot_dict_setdefault PySem.F.type_dict_setdefault (thn (ho.run pins s σ H _ I h) fun u s1 ⟨x, H1, I1, rx, a, ex, d, q1⟩ => ?_)
  subst ex
  obtain rfl : u = Value.ref a := rx
  obtain ⟨t1, t2, _⟩ := isD_at I1 d
  refine ⟨t1, t2, ?_⟩
  rw [m.trees]
  refine Calls.callWith_builtin rfl (Calls.evalArgs_plain (Calls.spliced_cons (thn (he.run pins s1 σ H1 _ I1 q1) fun iv s2 ⟨y, H2, I2, ry, q2⟩ =>
    Calls.spliced_cons (thn (hf.run pins s2 σ H2 _ I2 q2) fun fv s3 ⟨z, H3, I3, rz, o', H4, g, hp, q3, q4⟩ => Calls.spliced_nil ?_))))
  exact d_setdA hu I3 g hp ry rz (fun v hv w' s4 I4 rw' => ⟨v, _, I4, rw', q3 v hv⟩) fun hn w' s4 I4 rw' => ⟨z, _, I4, rw', q4 hn⟩
/-- d.update(e), keys ints and texts -/
theorem d_updK {kvs more : List (Key × V)} {Q : Value → Shared → Prop} (I : Inv X pins σ H s) (e : H a = some (.dK kvs)) (e2 : Rd H b (.dK more)) (hab : a ≠ b) (hl : kvs.length + more.length ≤ sizeLine) (h : ∀ s', Inv X pins σ (upd H a (.dK (mergeK kvs more))) s' → Q .none s') :
    wpAny (model X.prog X.w) A (call (.builtin "dict.update") [.ref a, .ref b]) Q E s := by
  obtain ⟨z, hd, vs, rel, dd⟩ := dk_of I.hok e
  obtain ⟨z2, hd2, vs2, rel2, dd2⟩ := dk_rd I.hok e2
  refine call_meetsIn PySem.F.slot_dict_update dd.typeIs PySem.F.entry_dict_update (PySem.F.args_dict_update_2 _ _) (meets_dict_update (mixKind X.prog X.w) a b hab hd2) ⟨vs, vs2, dd, dd2, by rw [← rel.length, ← rel2.length]; exact hl, fun h' dd' _ hs => h _ ?_⟩
  have he : ∃ q, h'.get? a = some q := let ⟨q, _, _, hq, _⟩ := dd'; ⟨q, hq⟩
  exact d_write (t' := s.toks) I (by rw [e]; exact True.intro) hs he (dk_new (Nat.le_trans (length_mergeK more kvs) hl) hd (rel2.merge rel) dd')
def tDUpd (td ty : TE) : TE := fun σ H Q => td σ H fun x H1 => ∃ a, x = .ref a ∧ IsD H1 a ∧ ty σ H1 fun y H2 => ∃ b kvs more, y = .ref b ∧ H2 a = some (.dK kvs) ∧ Rd H2 b (.dK more) ∧ a ≠ b ∧ kvs.length + more.length ≤ sizeLine ∧ Q .non (upd H2 a (.dK (mergeK kvs more)))
theorem pe_dupd {o e : Expr} {td ty : TE} {apos cpos : Pos} (ho : PE X o td) (he : PE X e ty) (m : M1 X o "update" apos e cpos) : PE X (.Call (.Attribute o "update" apos) [e] [] cpos) (tDUpd td ty) := by
  refine ⟨fun pins s σ H Q I h => ?_⟩
  refine wpAny_Call_method m.base m.few m.line PySem.F.plainAttrs_dict PySem.F.slot_dict_update PySem.F.type_dict_update (thn (ho.run pins s σ H _ I h) fun u s1 ⟨x, H1, I1, rx, a, ex, d, q1⟩ => ?_)
  subst ex
  obtain rfl : u = Value.ref a := rx
  obtain ⟨t1, t2, _⟩ := isD_at I1 d
  refine ⟨t1, t2, ?_⟩
  rw [m.trees]
  refine Calls.callWith_builtin rfl (Calls.evalArgs_plain (Calls.spliced_cons (thn (he.run pins s1 σ H1 _ I1 q1) fun iv s2 ⟨y, H2, I2, ry, b, kvs, more, ey, ea, eb, hab, hl, q2⟩ => Calls.spliced_nil ?_)))
  subst ey
  obtain rfl : iv = Value.ref b := ry
  exact d_updK I2 ea eb hab hl fun s' I' => ⟨.non, _, I', rfl, q2⟩
end
end Q
end
section
set_option Elab.async false
set_option linter.all false
set_option maxRecDepth 100000
set_option maxHeartbeats 2000000
namespace Q
open PySem PySem.Spec PyProof.Rows L2
/-! {(1, 2): .., ..}: a display with tuple keys -/
def mergeT (kvs more : List (List Key × V)) : List (List Key × V) := more.foldl (fun acc kv => putK acc kv.1 kv.2) kvs
theorem length_mergeT : ∀ (more kvs : List (List Key × V)), (mergeT kvs more).length ≤ kvs.length + more.length
  | [], kvs => Nat.le_refl _
  | p :: r, kvs => by
    have h1 := length_mergeT r (putK kvs p.1 p.2)
    have h2 := length_putK kvs p.1 p.2
    show (mergeT (putK kvs p.1 p.2) r).length ≤ _
    rw [List.length_cons]; omega
/-- pairs whose keys are tuples -/
abbrev PKT (H : Hp) : List (List Key × V) → List (V × V) → Prop := Paired fun p q => ∃ b, q.1 = .ref b ∧ H b = some (.tup (p.1.map kV)) ∧ q.2 = p.2
theorem KT.merge {H : Hp} : ∀ {more : List (List Key × V)} {rs : List (List Key × Addr × Value)} {kvs : List (List Key × V)} {xs : List (List Key × Addr × Value)}, KT H more rs → KT H kvs xs → KT H (mergeT kvs more) (storedAllH xs rs) := by
  intro more rs kvs xs r
  induction r generalizing kvs xs with
  | nil => intro q; exact q
  | @cons p q ps qs h t ih =>
    intro r0
    obtain ⟨h1, h2, h3⟩ := h
    have e : KT H (putK kvs p.1 p.2) (storedH xs q.1 q.2.1 q.2.2) := by
      have := r0.put p.1 h2 h3
      rw [← h1]; exact this
    exact ih e
theorem carriesH_of {P : Program} {w : World} {H : Hp} {h : Heap} (ok : HOk P w H h) : ∀ {kvs : List (List Key × V)} {ps : List (V × V)} {ws : List (Value × Value)}, PKT H kvs ps → VV ps ws → ∃ rs, CarriesH (tupleKind (mixKind P w)) h ws rs ∧ KT H kvs rs := by
  intro kvs ps ws r
  induction r generalizing ws with
  | nil => intro q; cases q; exact ⟨[], True.intro, .nil⟩
  | @cons p q ps qs hpq t ih =>
    intro v
    cases v with
    | @cons _ u _ us hv tv =>
      obtain ⟨b, e1, e2, e3⟩ := hpq
      obtain ⟨rs, c, k⟩ := ih tv
      obtain ⟨v1, v2⟩ := hv
      rw [e1] at v1
      rw [e3] at v2
      refine ⟨(p.1, b, u.2) :: rs, ⟨(show u.1 = Value.ref b from v1), rfl, key_of ok e2, c⟩, .cons ⟨rfl, e2, v2⟩ k⟩
def tDispT (trs : List (TE × TE)) : TE := fun σ H Q => ∀ p, H p = none → tPairs trs σ (upd H p (.dT [])) fun ps H2 => H2 p = some (.dT []) ∧ ∃ kvs : List (List Key × V), PKT H2 kvs ps ∧ kvs.length ≤ 15 ∧ Q (.ref p) (upd H2 p (.dT (mergeT [] kvs)))
theorem pe_dispT {X : Cx} {pos : Pos} {keys : List (Option Expr)} {values : List Expr} {trs : List (TE × TE)} (hu : X.A.units + 1 < cLine) (h : PPs X pos keys values trs) (hall : keys.all (·.isSome) = true) (hl : keys.length = values.length) (h0 : keys ≠ [])
    (h15 : keys.length ≤ 15) : PE X (.Dict keys values pos) (tDispT trs) := by
  refine ⟨fun pins s σ H Q I q => ?_⟩
  have hn := I.hok.fresh (Nat.le_refl s.heap.objs.size)
  have I1 := I.laid (a := s.heap.objs.size) (o := .dT []) (h' := s.heap.push { cls := .type "dict", data := .dict #[] }) (t' := s.toks) (fun _ _ q => Heap.get?_push_of_some _ q) (Nat.le_refl _) (dt_empty s.heap I.big)
  have hpl := pairTrees_length keys values X.env pos hall hl
  rw [arm_eval_Dict, zip_pairTrees keys values X.env pos hall hl, dictDisplay_pairs (pairTrees keys values X.env pos) (fun he => by rw [he] at hpl; exact h0 (List.length_eq_zero_iff.mp hpl.symm)) (by rw [hpl]; omega)]
  have hr : (tupleKind (mixKind X.prog X.w)).room X.A := (show X.A.units < cLine by omega)
  refine wpAny_bind (wpAny_standAt (wpAny_bind (wpAny_subDictH (knd := tupleKind (mixKind X.prog X.w)) hr (by rw [hpl]; exact h15) (thn (h.run pins _ σ _ _ I1 (q _ hn)) fun ws s2 ⟨ps, H2, I2, rel, e, kvs, pk, lk, q2⟩ => ?_))))
  obtain ⟨rs, c, rk⟩ := carriesH_of I2.hok pk rel
  obtain ⟨z, hd, xs0, r0, dd⟩ := dt_of I2.hok e
  cases r0
  refine ⟨rs, c, dd, fun h' tk dd' hs => wpAny_pure ⟨.ref s.heap.objs.size, _, ?_, rfl, q2⟩⟩
  have hz : (mergeT [] kvs).length ≤ sizeLine := by
    have h1 := length_mergeT kvs []
    rw [List.length_nil] at h1
    rw [sizeLine_eq]; omega
  obtain ⟨q1, es, ep, hq, g2, g3, g4, _, g5⟩ := dd'
  have rel2 : KT H2 (mergeT [] kvs) (storedAllH [] rs) := KT.merge rk .nil
  refine d_write I2 (by rw [e]; exact True.intro) hs ⟨q1, hq⟩ ⟨hz, hd, _, rel2.keeps fun c ys ec => ?_, q1, es, ep, hq, g2, g3, g4, g5⟩
  rw [upd_ne (ne_of ec e (fun z => nomatch z))]
  exact ec
end Q
end
section
set_option Elab.async false
set_option linter.all false
set_option maxRecDepth 100000
namespace Q
open PySem PySem.Spec PyProof.Rows L2
/-! dicts: the core's operations -/
section
variable {w : Wd} {X : Cx} {N : List Str} {sc : Scope} {W : WX} {L : Nat} {cf : Nat → List D → FR} {n : Nm}
theorem m2_of {o : Ex} {r l1 l2 : Expr} {m : Str} {ap cp : Pos} (hp : (pathOf o).isSome = true) (hr : ckE n N sc o r = true) (n1 : notStar l1 = true) (n2 : notStar l2 = true) (hline : (ap.endLine == cp.line) = true) : M2 X r m ap l1 l2 cp where
  base := path_base hp hr
  few := by
    have ns : allNS [l1, l2] = true := by simp only [allNS, n1, n2, Bool.and_self]
    rw [star_all ns]
    rfl
  line := hline
  trees := by rw [star_cons n1, star_cons n2]; rfl
theorem m1_of {o : Ex} {r l1 : Expr} {m : Str} {ap cp : Pos} (hp : (pathOf o).isSome = true) (hr : ckE n N sc o r = true) (n1 : notStar l1 = true) (hline : (ap.endLine == cp.line) = true) : M1 X r m ap l1 cp where
  base := path_base hp hr
  few := by
    have ns : allNS [l1] = true := by simp only [allNS, n1, Bool.and_self]
    rw [star_all ns]
    rfl
  line := hline
  trees := by rw [star_cons n1]; rfl
theorem isDk_at {F : List Addr} {H : Hp} {v : V} {od : Option D} (h : isDk od = true) (m : ∀ d, od = some d → Mx w F H d v) : ∃ a, v = .ref a ∧ IsD H a := by
  unfold isDk at h
  split at h
  · obtain ⟨p, ws, e, rd, _⟩ := Mx.dk (.inl (m _ rfl))
    exact ⟨p, e, .inl ⟨ws, rd⟩⟩
  · obtain ⟨p, ws, e, rd, _⟩ := Mx.dt (m _ rfl)
    exact ⟨p, e, .inr ⟨ws, rd⟩⟩
  · obtain ⟨p, ws, e, rd, _⟩ := Mx.dk (.inr (m _ rfl))
    exact ⟨p, e, .inl ⟨ws, rd⟩⟩
  · cases h
theorem s_dgt (h : XC w X N sc W L) {o a b : Ex} {e : Expr} (hc : ckE n N sc (.dgt o a b) e = true) (ho : ∀ l, ckE n N sc o l = true → PE X l (tAr w W fun S => argOf w.n.sg S o (evE w.n.sg cf o S)))
    (ha : ∀ l, ckE n N sc a l = true → PE X l (tE w W (evE w.n.sg cf a))) (hb : ∀ l, ckE n N sc b l = true → PE X l (tE w W (evE w.n.sg cf b))) : PE X e (tE w W (evE w.n.sg cf (.dgt o a b))) := by
  unfold ckE at hc
  split at hc
  · rename_i r m ap l1 l2 cp
    simp only [Bool.and_eq_true, decide_eq_true_eq] at hc
    obtain ⟨⟨⟨⟨⟨⟨⟨rfl, h2⟩, h3⟩, h4⟩, h5⟩, h6⟩, h7⟩, h8⟩ := hc
    have hu : X.A.units + 1 < cLine := by have := units_of h; omega
    refine PE.weak (pe_dget2 hu (ho r h6) (ha l1 h7) (hb l2 h8) (m2_of h3 h6 h4 h5 h2)) fun σ H Q ⟨F, S, T, A, rl, q⟩ => ?_
    simp only [evE] at q
    refine ⟨F, S, T, A, rl, q.first fun x S1 v U H1 A1 e1 hv r1 s1 q1 => ?_⟩
    split at q1
    · rename_i hd
      obtain ⟨p, rfl, isd⟩ := isDk_at hd fun d hd' => argMx rfl r1 (fun _ h => h) hv hd'
      refine ⟨p, rfl, isd, F, S1, U ++ T, A1, r1, EV.next s1 q1 fun k S2 kv U2 H2 A2 e2 hk r2 s2 s2' q2 => ?_⟩
      refine ⟨F, S2, U2 ++ (U ++ T), A2, r2, ?_⟩
      rw [← List.append_assoc]
      refine EV.next s2 q2 fun vd S3 vv U3 H3 A3 e3 hv3 r3 s3 s3' q3 => ?_
      rw [List.append_assoc] at r3
      obtain rfl : U2 = [(k, kv)] := hk
      obtain rfl : U3 = [(vd, vv)] := hv3
      have hv' := (hv.step s2').step s3'
      unfold dgtU at q3
      split at q3
      · rename_i d ed
        split at q3
        · rename_i hp
          have md : Mx w F H3 d (.ref p) := by
            have r3' : Rl w F H3 S3 σ ((([(vd, vv)] ++ [(k, kv)]) ++ U) ++ T) A3 := by simpa using r3
            exact argMx rfl r3' (fun x hx => List.mem_append_right _ hx) hv' ed
          obtain ⟨Bk, mk, _⟩ := r3.mem (x := (k, kv)) (by simp)
          obtain ⟨Bv, mv, _⟩ := r3.mem (x := (vd, vv)) (by simp)
          have fin : ∀ {z : D} {zv : V}, Pr w.K F H3 z zv → EV w W DV F σ T A H Q (.ok z S3) → Q zv H3 := fun {z zv} pz qz => by
            have r3' : Rl w F H3 S3 σ ((([(vd, vv)] ++ [(k, kv)]) ++ U) ++ T) A3 := by simpa using r3
            exact qz.pr r3' s3 pz
          split at q3
          · rename_i z eg
            obtain ⟨a', ro, ea, g, hh⟩ := dget_v md ⟨Bk, mk⟩ eg
            cases ea
            rcases hh with ⟨z1, _⟩ | ⟨x1, y1, z1, z2, z3⟩
            · cases z1
            · cases z1
              exact ⟨ro, g, by rw [z2]; exact fin z3 q3⟩
          · rename_i eg
            obtain ⟨a', ro, ea, g, hh⟩ := dget_v md ⟨Bk, mk⟩ eg
            cases ea
            rcases hh with ⟨_, z2⟩ | ⟨x1, y1, z1, _, _⟩
            · exact ⟨ro, g, by rw [z2]; exact fin (mv.ofPure hp).1 q3⟩
            · cases z1
          · exact q3.elim
        · exact q3.elim
      · exact q3.elim
    · exact q1.elim
  · cases hc
theorem s_sdf (h : XC w X N sc W L) {o a b : Ex} {e : Expr} (hc : ckE n N sc (.sdf o a b) e = true) (ho : ∀ l, ckE n N sc o l = true → PE X l (tAr w W fun S => argOf w.n.sg S o (evE w.n.sg cf o S)))
    (ha : ∀ l, ckE n N sc a l = true → PE X l (tE w W (evE w.n.sg cf a))) (hb : ∀ l, ckE n N sc b l = true → PE X l (tE w W (evE w.n.sg cf b))) : PE X e (tE w W (evE w.n.sg cf (.sdf o a b))) := by
  unfold ckE at hc
  split at hc
  · rename_i r m ap l1 l2 cp
    simp only [Bool.and_eq_true, decide_eq_true_eq] at hc
    obtain ⟨⟨⟨⟨⟨⟨⟨rfl, h2⟩, h3⟩, h4⟩, h5⟩, h6⟩, h7⟩, h8⟩ := hc
    have hu : X.A.units + 1 < cLine := by have := units_of h; omega
    refine PE.weak (pe_dsetdA hu (ho r h6) (ha l1 h7) (hb l2 h8) (m2_of h3 h6 h4 h5 h2)) fun σ H Q ⟨F, S, T, A, rl, q⟩ => ?_
    simp only [evE] at q
    refine ⟨F, S, T, A, rl, q.first fun x S1 v U H1 A1 e1 hv r1 s1 q1 => ?_⟩
    split at q1
    · rename_i hd
      obtain ⟨p, rfl, isd⟩ := isDk_at hd fun d hd' => argMx rfl r1 (fun _ h => h) hv hd'
      refine ⟨p, rfl, isd, F, S1, U ++ T, A1, r1, EV.next s1 q1 fun k S2 kv U2 H2 A2 e2 hk r2 s2 s2' q2 => ?_⟩
      refine ⟨F, S2, U2 ++ (U ++ T), A2, r2, ?_⟩
      rw [← List.append_assoc]
      refine EV.next s2 q2 fun vd S3 vv U3 H3 A3 e3 hv3 r3 s3 s3' q3 => ?_
      rw [List.append_assoc] at r3
      obtain rfl : U2 = [(k, kv)] := hk
      obtain rfl : U3 = [(vd, vv)] := hv3
      have hv' := (hv.step s2').step s3'
      obtain ⟨Bk, mk, _⟩ := r3.mem (x := (k, kv)) (by simp)
      obtain ⟨Bv, mv, _⟩ := r3.mem (x := (vd, vv)) (by simp)
      unfold sdfU at q3
      cases x with
      | val _ => exact q3.elim
      | pl i pp =>
        cases hv' with
        | pl pv =>
        have fin : ∀ {z : D} {zv : V}, Pr w.K F H3 z zv → EV w W DV F σ T A H Q (.ok z S3) → Q zv H3 := fun {z zv} pz qz => by
          have r3' : Rl w F H3 S3 σ (([(vd, vv)] ++ [(k, kv)]) ++ T) A3 := by simpa using r3
          exact qz.pr r3' s3 pz
        cases er : rdS w.n.sg S3 i pp with
        | none => simp only [er] at q3; exact q3.elim
        | some d0 =>
        cases d0 with
        | dk kvs =>
          simp only [er] at q3
          split at q3
          · rename_i qk ek
            split at q3
            · rename_i hh
              simp only [Bool.and_eq_true, decide_eq_true_eq] at hh
              have pvv := (mv.ofPure hh.1).1
              have ekv := kyOf_v ⟨Bk, mk⟩ ek
              subst ekv
              obtain ⟨u, Bu, pu, mu, _⟩ := r3.readP er rfl
              have eu := pv.inj pu
              subst eu
              cases mu with
              | pr m => cases m
              | @dk _ _ ws h1 q0 q1' =>
                have hl : ws.length = kvs.length := by have := congrArg List.length q0; simpa using this
                refine ⟨valV ws qk, _, DGet.k h1, DPut.k h1 (by rw [hl]; exact lim_lt hh.2), fun v0 hv0 => ?_, fun hn => ?_⟩
                · rcases kget_val (k := qk) q0 q1' with ⟨_, z2⟩ | ⟨x1, y1, z1, z2, z3⟩
                  · rw [z2] at hv0; cases hv0
                  · rw [z2] at hv0; cases hv0
                    simp only [z1] at q3
                    exact fin z3 q3
                · rcases kget_val (k := qk) q0 q1' with ⟨z1, _⟩ | ⟨x1, y1, z1, z2, z3⟩
                  · simp only [z1] at q3
                    cases ew : wrS w.n.sg S3 i pp (.dk (kput kvs qk vd)) with
                    | none => simp only [ew] at q3; exact q3.elim
                    | some S4 =>
                      simp only [ew] at q3
                      obtain ⟨a', ob, ea, ha', aF, m0, ht, kk⟩ := sub_upd r3 er (.inr (.inl ⟨kvs, rfl⟩)) ew pv
                      cases ea
                      rw [h1] at ha'
                      cases ha'
                      obtain ⟨A4, r4, s4⟩ := kk (.dK (putK ws qk vv)) (by intro _ z; cases z) (.dk upd_same (put_keys q0) (put_vals (pr_upd h1 ht aF pvv) q0 (prs_upd h1 ht aF q1')))
                      have r4' : Rl w F (upd H3 p (.dK (putK ws qk vv))) S4 σ (([(vd, vv)] ++ [(k, kV qk)]) ++ T) A4 := by simpa using r4
                      exact q3.pr r4' (s3.trans s4) (pr_upd h1 ht aF pvv)
                  · rw [z2] at hn; cases hn
            · exact q3.elim
          · exact q3.elim
        | dt kvs =>
          simp only [er] at q3
          split at q3
          · rename_i qk ek
            split at q3
            · rename_i hh
              simp only [Bool.and_eq_true, decide_eq_true_eq] at hh
              have pvv := (mv.ofPure hh.1).1
              obtain ⟨kp, ekv, hkp⟩ := tkOf_v ⟨Bk, mk⟩ ek
              subst ekv
              obtain ⟨u, Bu, pu, mu, _⟩ := r3.readP er rfl
              have eu := pv.inj pu
              subst eu
              cases mu with
              | pr m => cases m
              | @dt _ _ ws h1 q0 q1' =>
                have hl : ws.length = kvs.length := by have := congrArg List.length q0; simpa using this
                refine ⟨valV ws qk, _, DGet.t h1 hkp, DPut.t h1 hkp (by rw [hl]; exact lim_lt hh.2), fun v0 hv0 => ?_, fun hn => ?_⟩
                · rcases kget_val (k := qk) q0 q1' with ⟨_, z2⟩ | ⟨x1, y1, z1, z2, z3⟩
                  · rw [z2] at hv0; cases hv0
                  · rw [z2] at hv0; cases hv0
                    simp only [z1] at q3
                    exact fin z3 q3
                · rcases kget_val (k := qk) q0 q1' with ⟨z1, _⟩ | ⟨x1, y1, z1, z2, z3⟩
                  · simp only [z1] at q3
                    cases ew : wrS w.n.sg S3 i pp (.dt (kput kvs qk vd)) with
                    | none => simp only [ew] at q3; exact q3.elim
                    | some S4 =>
                      simp only [ew] at q3
                      obtain ⟨a', ob, ea, ha', aF, m0, ht, kk⟩ := sub_upd r3 er (.inr (.inr ⟨kvs, rfl⟩)) ew pv
                      cases ea
                      rw [h1] at ha'
                      cases ha'
                      obtain ⟨A4, r4, s4⟩ := kk (.dT (putK ws qk vv)) (by intro _ z; cases z) (.dt upd_same (put_keys q0) (put_vals (pr_upd h1 ht aF pvv) q0 (prs_upd h1 ht aF q1')))
                      have r4' : Rl w F (upd H3 p (.dT (putK ws qk vv))) S4 σ (([(vd, vv)] ++ [(k, .ref kp)]) ++ T) A4 := by simpa using r4
                      exact q3.pr r4' (s3.trans s4) (pr_upd h1 ht aF pvv)
                  · rw [z2] at hn; cases hn
            · exact q3.elim
          · exact q3.elim
        | _ => simp only [er] at q3; exact q3.elim
    · exact q1.elim
  · cases hc
theorem merge_keys {κ : Type} [DecidableEq κ] : ∀ {more' : List (κ × V)} {more : List (κ × D)} {ws : List (κ × V)} {kvs : List (κ × D)} {K : PySem.W.Frag} {F : List Addr} {H : Hp}, more'.map (·.1) = more.map (·.1) → Prs K F H (more.map (·.2)) (more'.map (·.2)) → ws.map (·.1) = kvs.map (·.1) → Prs K F H (kvs.map (·.2)) (ws.map (·.2)) →
    (more'.foldl (fun acc kv => putK acc kv.1 kv.2) ws).map (·.1) = (kmerge kvs more).map (·.1) ∧ Prs K F H ((kmerge kvs more).map (·.2)) ((more'.foldl (fun acc kv => putK acc kv.1 kv.2) ws).map (·.2))
  | [], [], ws, kvs, K, F, H, _, _, e, q => ⟨e, q⟩
  | [], _ :: _, ws, kvs, K, F, H, e, _, _, _ => by simp at e
  | _ :: _, [], ws, kvs, K, F, H, e, _, _, _ => by simp at e
  | a :: r', b :: r, ws, kvs, K, F, H, e, q, e2, q2 => by
    simp only [List.map_cons, List.cons.injEq] at e
    simp only [List.map_cons] at q
    cases q with
    | cons p qr =>
      have h := merge_keys (more' := r') (more := r) (ws := putK ws a.1 a.2) (kvs := kput kvs b.1 b.2) e.2 qr (by rw [e.1]; exact put_keys e2) (by rw [e.1]; exact put_vals p e2 q2)
      exact h
theorem s_dup (h : XC w X N sc W L) {o a : Ex} {e : Expr} (hc : ckE n N sc (.dup o a) e = true) (ho : ∀ l, ckE n N sc o l = true → PE X l (tAr w W fun S => argOf w.n.sg S o (evE w.n.sg cf o S)))
    (ha : ∀ l, ckE n N sc a l = true → PE X l (tAr w W fun S => argOf w.n.sg S a (evE w.n.sg cf a S))) : PE X e (tE w W (evE w.n.sg cf (.dup o a))) := by
  unfold ckE at hc
  split at hc
  · rename_i r m ap l1 cp
    simp only [Bool.and_eq_true, decide_eq_true_eq] at hc
    obtain ⟨⟨⟨⟨⟨rfl, h2⟩, h3⟩, h4⟩, h5⟩, h6⟩ := hc
    refine PE.weak (pe_dupd (ho r h5) (ha l1 h6) (m1_of h3 h5 h4 h2)) fun σ H Q ⟨F, S, T, A, rl, q⟩ => ?_
    simp only [evE] at q
    refine ⟨F, S, T, A, rl, q.first fun x S1 v U H1 A1 e1 hv r1 s1 q1 => ?_⟩
    split at q1
    · rename_i hd
      obtain ⟨p, rfl, isd⟩ := isDk_at hd fun d hd' => argMx rfl r1 (fun _ h => h) hv hd'
      refine ⟨p, rfl, isd, F, S1, U ++ T, A1, r1, EV.next s1 q1 fun y S2 yv U2 H2 A2 e2 hy r2 s2 s2' q2 => ?_⟩
      have hv' := hv.step s2'
      unfold dupU at q2
      cases x with
      | val _ => exact q2.elim
      | pl i pp =>
        cases y with
        | val _ => exact q2.elim
        | pl j qq =>
          cases hv' with
          | pl pv =>
          cases hy with
          | pl pw =>
            simp only at q2
            split at q2
            · rename_i kvs S3 er ew0
              split at q2
              · rename_i more S4 er2 ew2
                split at q2
                · rename_i hlen
                  split at q2
                  · rename_i S5 ew
                    have r2' : Rl w F H2 S2 σ T A2 := by simpa using r2
                    -- apart
                    obtain ⟨u, B1, pu, t1, p1⟩ := r2'.takeP er ew0 rfl
                    have eu := pv.inj pu
                    subst eu
                    obtain ⟨u2, B2, pu2, t2, p2⟩ := t1.takeP er2 ew2 rfl
                    have eu2 := pw.inj pu2
                    subst eu2
                    obtain ⟨Lz, lz, oz⟩ := t2
                    obtain ⟨C, pz, oz2⟩ := oz.perm (show (Lz ++ ((D.dk more, yv) :: (D.dk kvs, V.ref p) :: T)).Perm ((D.dk more, yv) :: (D.dk kvs, V.ref p) :: (Lz ++ T)) from (List.perm_middle).trans (List.Perm.cons _ List.perm_middle))
                    have ndC := oz2.nd
                    cases oz2.ml with
                    | cons m1 mr =>
                      cases mr with
                      | cons m2 mr2 =>
                        cases m1 with
                        | pr m => cases m
                        | @dk b _ ws2 g1 g2 g3 =>
                          cases m2 with
                          | pr m => cases m
                          | @dk _ _ ws f1 f2 f3 =>
                            have hab : p ≠ b := by
                              rintro rfl
                              simp at ndC
                            have l1' : ws.length = kvs.length := by have := congrArg List.length f2; simpa using this
                            have l2' : ws2.length = more.length := by have := congrArg List.length g2; simpa using this
                            refine ⟨b, ws, ws2, rfl, f1, .inl g1, hab, by rw [l1', l2']; exact lim_le hlen, ?_⟩
                            obtain ⟨a', ob, ea, ha', aF, m0, ht, kk⟩ := sub_upd r2' er (.inr (.inl ⟨kvs, rfl⟩)) ew pv
                            cases ea
                            rw [f1] at ha'
                            cases ha'
                            obtain ⟨k1, k2⟩ := merge_keys g2 (prs_upd f1 ht aF g3) f2 (prs_upd f1 ht aF f3)
                            obtain ⟨A4, r4, s4⟩ := kk (.dK (mergeK ws ws2)) (by intro _ z; cases z) (.dk upd_same k1 k2)
                            have r4' : Rl w F (upd H2 p (.dK (mergeK ws ws2))) S5 σ ([] ++ T) A4 := r4
                            exact q2.pr r4' (s2.trans s4) .non
                  · exact q2.elim
                · exact q2.elim
              · exact q2.elim
            · exact q2.elim
    · exact q1.elim
  · cases hc
/-- a display's pairs -/
def trsOf (w : Wd) (cf : Nat → List D → FR) (W : WX) : Exs → List (TE × TE)
  | .cons a (.cons b es) => (tE w W (evE w.n.sg cf a), tE w W (evE w.n.sg cf b)) :: trsOf w cf W es
  | _ => []
def pairUp : List V → List (V × V)
  | a :: b :: r => (a, b) :: pairUp r
  | _ => []
/-- .. made one behind another -/
theorem pairs_x {F : List Addr} {σ : L2.St} {T U0 : List (D × V)} {A A1 : List Addr} {H H1 : Hp} {Q : VK} {P : List (V × V) → Hp → Prop} : ∀ (es : Exs) (ks : List (Option Expr)) (vs : List Expr) {S : Sl} {k : List D → Sl → R D}, ckP n N sc es ks vs = true →
    EV w W DV F σ T A H Q ((evX w.n.sg cf es S).bind k) → Rl w F H1 S σ (U0 ++ T) A1 → Step A H A1 H1 →
    (∀ ds S' us U2 H2 A2, (∀ x ∈ ds.zip us, x ∈ U2) → ds.length = us.length → Rl w F H2 S' σ (U2 ++ (U0 ++ T)) A2 → Step A H A2 H2 → Step A1 H1 A2 H2 → EV w W DV F σ T A H Q (k ds S') → P (pairUp us) H2) → tPairs (trsOf w cf W es) σ H1 P
  | .nil, ks, vs, S, k, hc, q, r, st, fin => by
    simp only [evX, R.bind] at q
    exact fin [] S [] [] H1 A1 (by simp) rfl r st .refl q
  | .cons a .nil, ks, vs, S, k, hc, q, r, st, fin => by
    exfalso
    cases ks with
    | nil => simp [ckP] at hc
    | cons o ks =>
      cases o with
      | none => simp [ckP] at hc
      | some l =>
        simp only [ckP, Bool.and_eq_true] at hc
        obtain ⟨_, hc⟩ := hc
        cases vs <;> simp [ckV] at hc
  | .cons a (.cons b es), ks, vs, S, k, hc, q, r, st, fin => by
    cases ks with
    | nil => simp [ckP] at hc
    | cons o ks =>
      cases o with
      | none => simp [ckP] at hc
      | some l =>
        simp only [ckP, Bool.and_eq_true] at hc
        obtain ⟨h1, hc⟩ := hc
        cases vs with
        | nil => simp [ckV] at hc
        | cons rr vs =>
          simp only [ckV, Bool.and_eq_true] at hc
          obtain ⟨h2, hc⟩ := hc
          have q' : EV w W DV F σ T A H Q ((evE w.n.sg cf a S).bind fun d S1 => (evE w.n.sg cf b S1).bind fun e S2 => (evX w.n.sg cf es S2).bind fun ds S3 => k (d :: e :: ds) S3) := by
            simp only [evX] at q
            cases ea : evE w.n.sg cf a S with
            | no => simp only [ea, R.bind] at q ⊢; exact q
            | er c S1 => simp only [ea, R.bind] at q ⊢; exact q
            | ok d S1 =>
              simp only [ea, R.bind] at q ⊢
              cases eb : evE w.n.sg cf b S1 with
              | no => simp only [eb] at q ⊢; exact q
              | er c S2 => simp only [eb] at q ⊢; exact q
              | ok e S2 =>
                simp only [eb] at q ⊢
                cases ex : evX w.n.sg cf es S2 with
                | no => simp only [ex] at q ⊢; exact q
                | er c S3 => simp only [ex] at q ⊢; exact q
                | ok ds S3 => simp only [ex] at q ⊢; exact q
          refine ⟨F, S, U0 ++ T, A1, r, EV.next st q' fun d S1 u U1 H2 A2 e1 hu r1 s1 s1' q1 => ?_⟩
          refine ⟨F, S1, U1 ++ (U0 ++ T), A2, r1, ?_⟩
          rw [← List.append_assoc]
          refine EV.next s1 q1 fun e S2 v U2 H3 A3 e2 hv r2 s2 s2' q2 => ?_
          rw [List.append_assoc] at r2
          obtain rfl : U1 = [(d, u)] := hu
          obtain rfl : U2 = [(e, v)] := hv
          refine pairs_x (U0 := [(e, v)] ++ ([(d, u)] ++ U0)) es ks vs hc q2 (by simpa using r2) s2 fun ds S' us U4 H4 A4 hin hl r4 s4 s4' q4 => ?_
          refine fin (d :: e :: ds) S' (u :: v :: us) (U4 ++ [(e, v), (d, u)]) H4 A4 (fun x hx => ?_) (by simp [hl]) (by simpa using r4) s4 ((s1'.trans s2').trans s4') q4
          simp only [List.zip_cons_cons, List.mem_cons] at hx
          rcases hx with rfl | rfl | hx
          · simp
          · simp
          · exact List.mem_append_left _ (hin x hx)
def AllE (w : Wd) (cf : Nat → List D → FR) (W : WX) (X : Cx) (n : Nm) (N : List Str) (sc : Scope) : Exs → Prop
  | .nil => True
  | .cons e es => (∀ l, ckE n N sc e l = true → PE X l (tE w W (evE w.n.sg cf e))) ∧ AllE w cf W X n N sc es
theorem pps_of {pos : Pos} : ∀ (es : Exs) (ks : List (Option Expr)) (vs : List Expr), AllE w cf W X n N sc es → ckP n N sc es ks vs = true → PPs X pos ks vs (trsOf w cf W es) ∧ ks.all (·.isSome) = true ∧ ks.length = vs.length
  | .nil, ks, vs, _, hc => by
    cases ks with
    | nil => cases vs with
      | nil => exact ⟨pps_nil, rfl, rfl⟩
      | cons _ _ => simp [ckP] at hc
    | cons _ _ => simp [ckP] at hc
  | .cons a .nil, ks, vs, _, hc => by
    exfalso
    cases ks with
    | nil => simp [ckP] at hc
    | cons o ks =>
      cases o with
      | none => simp [ckP] at hc
      | some l =>
        simp only [ckP, Bool.and_eq_true] at hc
        obtain ⟨_, hc⟩ := hc
        cases vs <;> simp [ckV] at hc
  | .cons a (.cons b es), ks, vs, hE, hc => by
    cases ks with
    | nil => simp [ckP] at hc
    | cons o ks =>
      cases o with
      | none => simp [ckP] at hc
      | some l =>
        simp only [ckP, Bool.and_eq_true] at hc
        obtain ⟨h1, hc⟩ := hc
        cases vs with
        | nil => simp [ckV] at hc
        | cons rr vs =>
          simp only [ckV, Bool.and_eq_true] at hc
          obtain ⟨h2, hc⟩ := hc
          obtain ⟨a1, a2, a3⟩ := pps_of (pos := pos) es ks vs hE.2.2 hc
          exact ⟨pps_cons (hE.1 l h1) (hE.2.1 rr h2) a1, by simpa using a2, by simpa using a3⟩
/-- what the pairs say -/
theorem prsK_of {F : List Addr} {H : Hp} : ∀ {ds : List D} {l : List (Ky × D)} {us : List V}, prsK ds = some l → ds.length = us.length → (∀ x ∈ ds.zip us, Mx w F H x.1 x.2) →
    ∃ kvs : List (Key × V), pairUp us = kvs.map (fun kv => (kV kv.1, kv.2)) ∧ kvs.map (·.1) = l.map (·.1) ∧ Prs w.K F H (l.map (·.2)) (kvs.map (·.2))
  | [], l, us, e, hl, _ => by
    cases e
    cases us with
    | nil => exact ⟨[], rfl, rfl, .nil⟩
    | cons _ _ => simp at hl
  | [_], l, us, e, hl, _ => by simp [prsK] at e
  | k :: v :: r, l, us, e, hl, hm => by
    match us, hl with
    | u1 :: u2 :: us, hl =>
      simp only [prsK] at e
      split at e
      · rename_i q l' e1 e2
        split at e
        · rename_i hp
          cases e
          obtain ⟨kvs, a1, a2, a3⟩ := prsK_of (us := us) e2 (by simpa using hl) fun x hx => hm x (by simp only [List.zip_cons_cons, List.mem_cons]; exact .inr (.inr hx))
          have ek : u1 = kV q := kyOf_v (hm (k, u1) (by simp)) e1
          obtain ⟨B, mv⟩ := hm (v, u2) (by simp)
          refine ⟨(q, u2) :: kvs, ?_, by simp [a2], .cons (mv.ofPure hp).1 a3⟩
          simp only [pairUp, List.map_cons, a1, ek]
        · cases e
      · cases e
theorem prsT_of {F : List Addr} {H : Hp} : ∀ {ds : List D} {l : List (List Ky × D)} {us : List V}, prsT ds = some l → ds.length = us.length → (∀ x ∈ ds.zip us, Mx w F H x.1 x.2) →
    ∃ kvs : List (List Key × V), PKT H kvs (pairUp us) ∧ kvs.map (·.1) = l.map (·.1) ∧ Prs w.K F H (l.map (·.2)) (kvs.map (·.2))
  | [], l, us, e, hl, _ => by
    cases e
    cases us with
    | nil => exact ⟨[], .nil, rfl, .nil⟩
    | cons _ _ => simp at hl
  | [_], l, us, e, hl, _ => by simp [prsT] at e
  | k :: v :: r, l, us, e, hl, hm => by
    match us, hl with
    | u1 :: u2 :: us, hl =>
      simp only [prsT] at e
      split at e
      · rename_i q l' e1 e2
        split at e
        · rename_i hp
          cases e
          obtain ⟨kvs, a1, a2, a3⟩ := prsT_of (us := us) e2 (by simpa using hl) fun x hx => hm x (by simp only [List.zip_cons_cons, List.mem_cons]; exact .inr (.inr hx))
          obtain ⟨kp, ek, hk⟩ := tkOf_v (hm (k, u1) (by simp)) e1
          obtain ⟨B, mv⟩ := hm (v, u2) (by simp)
          refine ⟨(q, u2) :: kvs, ?_, by simp [a2], .cons (mv.ofPure hp).1 a3⟩
          simp only [pairUp]
          exact .cons ⟨kp, ek, hk, rfl⟩ a1
        · cases e
      · cases e
/-- a new dict, filled -/
theorem Rl.fillK {F : List Addr} {H : Hp} {S : Sl} {σ : L2.St} {T : List (D × V)} {A : List Addr} {p : Addr} {l : List (Ky × D)} {kvs : List (Key × V)} (r : Rl w F H S σ ((.dk [], .ref p) :: T) A) (e : kvs.map (·.1) = l.map (·.1)) (q : Prs w.K F H (l.map (·.2)) (kvs.map (·.2))) :
    H p = some (.dK []) ∧ ∃ A', Rl w F (upd H p (.dK (mergeK [] kvs))) S σ ((.dk (kmerge [] l), .ref p) :: T) A' ∧ Step A H A' (upd H p (.dK (mergeK [] kvs))) := by
  obtain ⟨B, oB, k⟩ := Rl.frame2 (U := [(.dk [], .ref p)]) r
  have mB : Mr w F H (.dk []) (.ref p) B := by
    cases oB.ml with
    | cons m t => cases t; rw [List.append_nil]; exact m
  cases mB with
  | pr m => cases m
  | @dk _ _ ws h1 g1 g2 =>
    have hw : ws = [] := by cases ws with
      | nil => rfl
      | cons _ _ => simp at g1
    subst hw
    have t1 : ∀ ws, HO.dK [] ≠ .tup ws := by intro ws z; cases z
    have pF : ∀ ob x, HO.dK [] ≠ .frz ob x := by intro ob x z; cases z
    obtain ⟨k1, k2⟩ := merge_keys (kvs := []) (ws := []) e (prs_upd (u := .dK (mergeK [] kvs)) h1 t1 pF q) rfl .nil
    have ml : Ml w F (upd H p (.dK (mergeK [] kvs))) [(.dk (kmerge [] l), .ref p)] [p] := by
      have := Ml.cons (.dk (w := w) (F := F) (H := upd H p (.dK (mergeK [] kvs))) (p := p) upd_same k1 k2) .nil
      simpa using this
    obtain ⟨A2, r2, s2⟩ := k _ _ [p] ⟨ml, by simp, fr_upd oB.fr h1 pF⟩ (step_upd h1 t1 (by intro _ _ _ z; cases z) (by intro _ z; cases z) (by intro _ _ z; cases z))
    exact ⟨h1, A2, r2, s2⟩
theorem s_dkd {es : Exs} {e : Expr} (hc : ckE n N sc (.dkd es) e = true) (hE : AllE w cf W X n N sc es) : PE X e (tE w W (evE w.n.sg cf (.dkd es))) := by
  unfold ckE at hc
  split at hc
  · rename_i ks vs pos
    simp only [Bool.and_eq_true, decide_eq_true_eq, Bool.not_eq_true'] at hc
    obtain ⟨⟨h1, h2⟩, h3⟩ := hc
    obtain ⟨pp, a2, a3⟩ := pps_of (pos := pos) es ks vs hE h3
    refine PE.weak (pe_disp pp a2 a3 (by rintro rfl; simp at h1) h2) fun σ H Q ⟨F, S, T, A, rl, q⟩ p np => ?_
    simp only [evE] at q
    obtain ⟨A1, r1, s1⟩ := rl.push (same_ext np) (B := [p]) (fun b hb => by rw [List.mem_singleton.mp hb]; exact np) (by simp) (Mr.dk (w := w) (F := F) (kvs := []) (ws := []) (p := p) (H := upd H p (.dK [])) upd_same rfl .nil)
    refine pairs_x (U0 := [(.dk [], .ref p)]) es ks vs h3 q r1 s1 fun ds S' us U2 H2 A2 hin hl r2 s2 s2' q2 => ?_
    cases el : prsK ds with
    | none => simp only [el] at q2; exact q2.elim
    | some l =>
      simp only [el] at q2
      split at q2
      · rename_i hlen
        obtain ⟨kvs, b1, b2, b3⟩ := prsK_of (w := w) (F := F) (H := H2) el hl fun x hx => by
          obtain ⟨B, m, _⟩ := r2.mem (x := x) (List.mem_append_left _ (hin x hx))
          exact ⟨B, m⟩
        obtain ⟨A3, r3, s3⟩ := r2.tdrop
        obtain ⟨h4, A4, r4, s4⟩ := Rl.fillK r3 b2 b3
        have hk : kvs.length = l.length := by have := congrArg List.length b2; simpa using this
        exact ⟨h4, kvs, b1, by rw [hk]; exact hlen, q2 (.ref p) [(.dk (kmerge [] l), .ref p)] _ A4 rfl r4 ((s2.trans s3).trans s4)⟩
      · exact q2.elim
  · cases hc
theorem Rl.fillT {F : List Addr} {H : Hp} {S : Sl} {σ : L2.St} {T : List (D × V)} {A : List Addr} {p : Addr} {l : List (List Ky × D)} {kvs : List (List Key × V)} (r : Rl w F H S σ ((.dt [], .ref p) :: T) A) (e : kvs.map (·.1) = l.map (·.1)) (q : Prs w.K F H (l.map (·.2)) (kvs.map (·.2))) :
    H p = some (.dT []) ∧ ∃ A', Rl w F (upd H p (.dT (mergeT [] kvs))) S σ ((.dt (kmerge [] l), .ref p) :: T) A' ∧ Step A H A' (upd H p (.dT (mergeT [] kvs))) := by
  obtain ⟨B, oB, k⟩ := Rl.frame2 (U := [(.dt [], .ref p)]) r
  have mB : Mr w F H (.dt []) (.ref p) B := by
    cases oB.ml with
    | cons m t => cases t; rw [List.append_nil]; exact m
  cases mB with
  | pr m => cases m
  | @dt _ _ ws h1 g1 g2 =>
    have hw : ws = [] := by cases ws with
      | nil => rfl
      | cons _ _ => simp at g1
    subst hw
    have t1 : ∀ ws, HO.dT [] ≠ .tup ws := by intro ws z; cases z
    have pF : ∀ ob x, HO.dT [] ≠ .frz ob x := by intro ob x z; cases z
    obtain ⟨k1, k2⟩ := merge_keys (kvs := []) (ws := []) e (prs_upd (u := .dT (mergeT [] kvs)) h1 t1 pF q) rfl .nil
    have ml : Ml w F (upd H p (.dT (mergeT [] kvs))) [(.dt (kmerge [] l), .ref p)] [p] := by
      have := Ml.cons (.dt (w := w) (F := F) (H := upd H p (.dT (mergeT [] kvs))) (p := p) upd_same k1 k2) .nil
      simpa using this
    obtain ⟨A2, r2, s2⟩ := k _ _ [p] ⟨ml, by simp, fr_upd oB.fr h1 pF⟩ (step_upd h1 t1 (by intro _ _ _ z; cases z) (by intro _ z; cases z) (by intro _ _ z; cases z))
    exact ⟨h1, A2, r2, s2⟩
theorem s_dtd (h : XC w X N sc W L) {es : Exs} {e : Expr} (hc : ckE n N sc (.dtd es) e = true) (hE : AllE w cf W X n N sc es) : PE X e (tE w W (evE w.n.sg cf (.dtd es))) := by
  unfold ckE at hc
  split at hc
  · rename_i ks vs pos
    simp only [Bool.and_eq_true, decide_eq_true_eq, Bool.not_eq_true'] at hc
    obtain ⟨⟨h1, h2⟩, h3⟩ := hc
    obtain ⟨pp, a2, a3⟩ := pps_of (pos := pos) es ks vs hE h3
    refine PE.weak (pe_dispT (by have := units_of h; omega) pp a2 a3 (by rintro rfl; simp at h1) h2) fun σ H Q ⟨F, S, T, A, rl, q⟩ p np => ?_
    simp only [evE] at q
    obtain ⟨A1, r1, s1⟩ := rl.push (same_ext np) (B := [p]) (fun b hb => by rw [List.mem_singleton.mp hb]; exact np) (by simp) (Mr.dt (w := w) (F := F) (kvs := []) (ws := []) (p := p) (H := upd H p (.dT [])) upd_same rfl .nil)
    refine pairs_x (U0 := [(.dt [], .ref p)]) es ks vs h3 q r1 s1 fun ds S' us U2 H2 A2 hin hl r2 s2 s2' q2 => ?_
    cases el : prsT ds with
    | none => simp only [el] at q2; exact q2.elim
    | some l =>
      simp only [el] at q2
      split at q2
      · rename_i hlen
        obtain ⟨kvs, b1, b2, b3⟩ := prsT_of (w := w) (F := F) (H := H2) el hl fun x hx => by
          obtain ⟨B, m, _⟩ := r2.mem (x := x) (List.mem_append_left _ (hin x hx))
          exact ⟨B, m⟩
        obtain ⟨A3, r3, s3⟩ := r2.tdrop
        obtain ⟨h4, A4, r4, s4⟩ := Rl.fillT r3 b2 b3
        have hk : kvs.length = l.length := by have := congrArg List.length b2; simpa using this
        exact ⟨h4, kvs, b1, by rw [hk]; exact hlen, q2 (.ref p) [(.dt (kmerge [] l), .ref p)] _ A4 rfl r4 ((s2.trans s3).trans s4)⟩
      · exact q2.elim
  · cases hc
end
end Q
end
section
set_option Elab.async false
set_option linter.all false
set_option maxRecDepth 100000
namespace Q
open PySem PySem.Spec PyProof.Rows L2
/-! x in ([..], [..]): lists of ints, made for it -/
def tIs : List Int → TA
  | [] => tNil
  | i :: is => tCons (tC (.int i)) (tIs is)
def tLs : List (List Int) → TA
  | [] => tNil
  | l :: ls => tCons (tLst (tIs l)) (tLs ls)
section
variable {X : Cx}
theorem pa_is : ∀ (is : List Int) (es : List Expr), isIs is es = true → PA X es (tIs is)
  | [], [], _ => pa_nil
  | i :: is, e :: es, h => by
    cases e with
    | Constant c k p =>
      cases c with
      | int j =>
        simp only [isIs, Bool.and_eq_true, decide_eq_true_eq] at h
        obtain ⟨rfl, h⟩ := h
        exact pa_cons pe_int (pa_is is es h) rfl
      | _ => simp [isIs] at h
    | _ => simp [isIs] at h
  | [], _ :: _, h => by simp [isIs] at h
  | _ :: _, [], h => by simp [isIs] at h
theorem pa_ls : ∀ (ls : List (List Int)) (es : List Expr), isLs ls es = true → PA X es (tLs ls)
  | [], [], _ => pa_nil
  | l :: ls, e :: es, h => by
    cases e with
    | List r p =>
      simp only [isLs, Bool.and_eq_true] at h
      exact pa_cons (pe_lst (pa_is l r h.1)) (pa_ls ls es h.2) rfl
    | _ => simp [isLs] at h
  | [], _ :: _, h => by simp [isLs] at h
  | _ :: _, [], h => by simp [isLs] at h
/-- the new lists -/
inductive LsAt (H : Hp) : List V → List (List Int) → Prop
  | nil : LsAt H [] []
  | cons {p : Addr} {l : List Int} {vs : List V} {ls : List (List Int)} : H p = some (.lst (l.map V.int)) → LsAt H vs ls → LsAt H (.ref p :: vs) (l :: ls)
theorem LsAt.ext {H H' : Hp} (k : ∀ b o, H b = some o → H' b = some o) {vs : List V} {ls : List (List Int)} (h : LsAt H vs ls) : LsAt H' vs ls := by
  induction h with
  | nil => exact .nil
  | cons e _ ih => exact .cons (k _ _ e) ih
theorem LsAt.len {H : Hp} {vs : List V} {ls : List (List Int)} (h : LsAt H vs ls) : vs.length = ls.length := by
  induction h with
  | nil => rfl
  | cons _ _ ih => simp [ih]
theorem tIs_e : ∀ (is : List Int) (σ : L2.St) (H : Hp) (R : List V → Hp → Prop), R (is.map V.int) H → tIs is σ H R
  | [], σ, H, R, h => h
  | i :: is, σ, H, R, h => tIs_e is σ H (fun xs H2 => R (.int i :: xs) H2) h
theorem tLs_e : ∀ (ls : List (List Int)) (σ : L2.St) (H : Hp) (R : List V → Hp → Prop), (ls.all fun l => decide (l.length ≤ 100)) = true → (∀ vs H', (∀ b o, H b = some o → H' b = some o) → LsAt H' vs ls → R vs H') → tLs ls σ H R
  | [], σ, H, R, _, h => h [] H (fun _ _ e => e) .nil
  | l :: ls, σ, H, R, hl, h => by
    simp only [List.all_cons, Bool.and_eq_true, decide_eq_true_eq] at hl
    refine tIs_e l σ H _ ⟨?_, fun p np => ?_⟩
    · rw [List.length_map]
      exact Nat.le_trans hl.1 (by decide)
    · have k : ∀ b o, H b = some o → upd H p (.lst (l.map V.int)) b = some o := fun b o e => by rw [upd_ne (ne_of_none e np)]; exact e
      refine tLs_e ls σ _ _ hl.2 fun vs H' k' at_ => ?_
      exact h (.ref p :: vs) H' (fun b o e => k' b o (k b o e)) (.cons (k' _ _ upd_same) at_)
theorem dp_ints {K : PySem.W.Frag} {H : Hp} : ∀ l : List Int, DpAll K H (l.map V.int) (toPs (l.map D.int))
  | [] => .nil
  | i :: l => .cons (.int i) (dp_ints l)
theorem dp_ls {K : PySem.W.Frag} {H : Hp} {vs : List V} {ls : List (List Int)} (h : LsAt H vs ls) : DpAll K H vs (toPs (ls.map fun l => D.lst (l.map D.int))) := by
  induction h with
  | nil => exact .nil
  | cons e _ ih => exact .cons (.lst (SqL.of e) (dp_ints _)) ih
theorem shps_ints (k : Nat) : ∀ l : List Int, shps k (l.map D.int) = true
  | [] => rfl
  | i :: l => by simp [shps, shp, shps_ints k l]
theorem shps_ls {k : Nat} (hk : 0 < k) : ∀ ls : List (List Int), shps k (ls.map fun l => D.lst (l.map D.int)) = true
  | [] => rfl
  | l :: ls => by simp [shps, shp, shps_ints, shps_ls hk ls, hk]
end
section
variable {w : Wd} {X : Cx} {N : List Str} {sc : Scope} {W : WX} {L : Nat} {cf : Nat → List D → FR} {n : Nm}
theorem s_inc (hn : n = w.n) (h : XC w X N sc W L) {a : Ex} {ls : List (List Int)} {e : Expr} (hc : ckE n N sc (.inc a ls) e = true)
    (ha : ∀ l, ckE n N sc a l = true → PE X l (tAr w W fun S => argOf w.n.sg S a (evE w.n.sg cf a S))) :
    PE X e (tE w W (evE w.n.sg cf (.inc a ls))) ∧ PT X e (tT w W (evE w.n.sg cf (.inc a ls))) := by
  unfold ckE at hc
  split at hc
  · rename_i l es k p pos
    simp only [Bool.and_eq_true] at hc
    obtain ⟨h1, h2⟩ := hc
    have two : ∀ {σ : L2.St} {H : Hp} {Q : VK}, tE w W (evE w.n.sg cf (.inc a ls)) σ H Q → tOp (rInTD w.K false) (tAr w W fun S => argOf w.n.sg S a (evE w.n.sg cf a S)) (tTup (tLs ls)) σ H Q := by
      rintro σ H Q ⟨F, S, T, A, r, q⟩
      simp only [evE] at q
      refine ⟨F, S, T, A, r, q.first fun x S1 v U H1 A1 e1 hv r1 s1 q1 => ?_⟩
      split at q1
      · rename_i d ed
        split at q1
        · rename_i hok
          simp only [Bool.and_eq_true, decide_eq_true_eq] at hok
          obtain ⟨sd, short, each⟩ := hok
          have m := argMx rfl r1 (fun _ h => h) hv ed
          refine tLs_e ls σ H1 _ each fun vs H2 k2 at_ => ⟨?_, fun p np => ?_⟩
          · rw [at_.len]
            exact Nat.le_trans short (by decide)
          · have k3 : ∀ b o, H2 b = some o → upd H2 p (.tup vs) b = some o := fun b o e => by rw [upd_ne (ne_of_none e np)]; exact e
            have k : ∀ b o, H1 b = some o → upd H2 p (.tup vs) b = some o := fun b o e => k3 b o (k2 b o e)
            obtain ⟨B, mr⟩ := m
            have m3 : Mx w F (upd H2 p (.tup vs)) d v := ⟨B, Mr.keep _ _ _ (fun b o e _ => k b o e) mr⟩
            refine ⟨toP d, toPs (ls.map fun l => D.lst (l.map D.int)), m3.dp sd, .tup (SqT.of upd_same) (dp_ls (at_.ext k3)), shp_shaped sd, ?_, ?_⟩
            · have := shps_ls (k := 59) (by decide) ls
              exact shp_shaped (d := .lst (ls.map fun l => D.lst (l.map D.int))) (by
                show (decide (0 < 60) && shps 59 _) = true
                rw [this]; rfl)
            · rw [← any_eqv d sd _ (shps_ls (by decide) ls)]
              have ea : ((ls.map fun l => D.lst (l.map D.int)).any fun z => deq z d) = ls.any fun l => deq (.lst (l.map .int)) d := by
                rw [List.any_map]; rfl
              rw [ea]
              exact q1.fresh r1 s1 k (fun _ h => by simp at h) .nil (.pr (.bl _))
        · exact q1.elim
      · exact q1.elim
    refine ⟨PE.weak (pe_cmpR (op_inTD (units_of h)) (ha l h2) (pe_tup (pa_ls ls es h1)) (notMark rfl _)) fun σ H Q q => ?_, PT.weak (pt_cmpR (op_inTD (units_of h)) (ha l h2) (pe_tup (pa_ls ls es h1)) (notMark rfl _)) fun σ H Q q => ?_⟩
    · rw [h.hK]; exact two q
    · rw [h.hK]
      refine two ?_
      obtain ⟨F, S, T, A, rl, q⟩ := q
      refine ⟨F, S, T, A, rl, EV.first (k := fun d S => match d with | .bl b => R.ok b S | _ => .no) (show EV w W BV F σ T A H Q ((evE w.n.sg cf (.inc a ls) S).bind _) from q) fun d S1 v U H1 A1 e1 hv r1 s1 q1 => ?_⟩
      have hU : U = [(d, v)] := hv
      subst hU
      cases d <;> (try simp only at q1) <;> try exact q1.elim
      rename_i b
      obtain ⟨B, m, _⟩ := Rl.top r1
      obtain ⟨A2, r2, s2⟩ := r1.tdrop1
      exact ⟨b, Mx.bl ⟨B, m⟩, q1 b [] H1 A2 ⟨rfl, rfl⟩ r2 (s1.trans s2)⟩
  · cases hc
end
end Q
end
section
set_option Elab.async false
set_option linter.all false
set_option maxRecDepth 100000
set_option maxHeartbeats 2000000
/-! list(zip(a, b)) of two tuples -/
namespace QZ
open PySem PySem.Spec PyProof.Rows L2 RZ
open PySem.Sem (wp)
section
variable {prog : Program} {w : World} {A : Around} {E : Value → Shared → Prop} {s : Shared}
/-- next while the tuple that was given out before is there -/
theorem next_item_held {z TI TO T i1 i2 l1 l2 : Addr} {f : Bool} {oT : Obj} {k1 k2 : Nat} {xs ys : Array Value} {x y : Value} {Q : Value → Shared → Prop} (D : ZipApart z TI TO i1 i2 l1 l2)
    (hz : IsZipHeld s.heap z TI TO T f) (hT : s.heap.get? T = some oT) (hTI : IsPair s.heap TI (.ref i1) (.ref i2))
    (h1 : s.heap.IsTupleIter i1 l1 k1) (h2 : s.heap.IsTupleIter i2 l2 k2) (hl1 : s.heap.IsTuple l1 xs) (hl2 : s.heap.IsTuple l2 ys) (hx : xs[k1]? = some x) (hy : ys[k2]? = some y)
    (hQ : ∀ h', IsZipHeld h' z TI TO T true → h'.IsTupleIter i1 l1 (k1 + 1) → h'.IsTupleIter i2 l2 (k2 + 1) → IsPair h' s.heap.objs.size x y → h'.objs.size = s.heap.objs.size + 1 →
      (∀ c o, c ≠ z → c ≠ i1 → c ≠ i2 → s.heap.get? c = some o → h'.get? c = some o) → Q (.ref s.heap.objs.size) { s with heap := h' }) :
    wpAny (model prog w) A (Builtin.«zip.__next__» ⟨[.ref z], []⟩) (fun fin s' => ∃ v, fin = .done (.ret v) ∧ Q v s') E s := by
  show wpAny _ _ (field (.ref z) 2 >>= _) _ _ _
  refine wpAny_bind (wpAny_field hz rfl (x := .bool false) rfl ?_)
  show wpAny _ _ (field (.ref z) 3 >>= _) _ _ _
  refine wpAny_bind (wpAny_field hz rfl (x := .ref TI) rfl ?_)
  refine wpAny_bind (wpAny_seqItems hTI rfl ?_)
  show wpAny _ _ (Builtin.SmallTypes.ownedTupleIsFree (.ref z) >>= _) _ _ _
  refine wpAny_bind (wpAny_tupleHeld_zip hz hT fun h₁ hz₁ hs₁ => ?_)
  simp only [Bool.false_eq_true, if_false]
  refine wpAny_bind ?_
  rw [← Array.forIn_toList]
  simp only [List.forIn_cons, List.forIn_nil]
  refine wpAny_bind (wpAny_bind (wpAny_holding ?_))
  show wpAny _ _ (Builtin.SmallTypes.nextOf (.ref i1) >>= _) _ _ _
  refine wpAny_bind (nextOf_tuple_item (s := { s with heap := h₁ }) (h1.extBut hs₁.extBut D.i1z) (hl1.extBut hs₁.extBut D.l1z) hx fun h₂ h1₂ hs₂ => wpAny_pure ?_)
  refine wpAny_pure ?_
  refine wpAny_bind (wpAny_bind (wpAny_holding ?_))
  show wpAny _ _ (Builtin.SmallTypes.nextOf (.ref i2) >>= _) _ _ _
  refine wpAny_bind (nextOf_tuple_item (s := { s with heap := h₂ }) ((h2.extBut hs₁.extBut D.i2z).extBut hs₂.extBut D.i12.symm) ((hl2.extBut hs₁.extBut D.l2z).extBut hs₂.extBut D.l2i1) hy fun h₃ h2₃ hs₃ => wpAny_pure ?_)
  refine wpAny_pure (wpAny_pure ?_)
  show wpAny _ _ (newTuple [x, y] >>= _) _ _ _
  refine wpAny_bind (wpAny_newTuple ?_)
  have hsz : h₃.objs.size = s.heap.objs.size := by rw [hs₃.1, hs₂.1, hs₁.1]
  have hz₃ : IsZipHeld h₃ z TI TO T true := hs₃.extBut _ _ D.i2z.symm (hs₂.extBut _ _ D.i1z.symm hz₁)
  have hk : ∀ c o, c ≠ z → c ≠ i1 → c ≠ i2 → s.heap.get? c = some o → h₃.get? c = some o := fun c o c1 c2 c3 e => hs₃.extBut _ _ c3 (hs₂.extBut _ _ c2 (hs₁.extBut _ _ c1 e))
  have h1₃ : h₃.IsTupleIter i1 l1 (k1 + 1) := h1₂.extBut hs₃.extBut D.i12
  refine wpAny_pure ⟨_, rfl, ?_⟩
  show Q (.ref h₃.objs.size) _
  have hp : IsPair (h₃.push { cls := .type "tuple", data := .seq #[x, y] }) h₃.objs.size x y := Heap.get?_push_size _ rfl
  have hz4 : (h₃.push { cls := .type "tuple", data := .seq #[x, y] }).objs.size = h₃.objs.size + 1 := Heap.size_push ..
  rw [hsz] at hp hz4 ⊢
  exact hQ _ (Heap.get?_push_of_some _ hz₃) (h1₃.at fun o e => Heap.get?_push_of_some _ e) (h2₃.at fun o e => Heap.get?_push_of_some _ e) hp hz4 fun c o c1 c2 c3 e => Heap.get?_push_of_some _ (hk c o c1 c2 c3 e)
theorem next_end_held {z TI TO T i1 i2 l1 l2 : Addr} {f : Bool} {oT : Obj} {k1 k2 : Nat} {xs ys : Array Value} {Q : Fin → Shared → Prop} (hh : A.handled = none) (D : ZipApart z TI TO i1 i2 l1 l2)
    (hz : IsZipHeld s.heap z TI TO T f) (hT : s.heap.get? T = some oT) (hTI : IsPair s.heap TI (.ref i1) (.ref i2))
    (h1 : s.heap.IsTupleIter i1 l1 k1) (h2 : s.heap.IsTupleIter i2 l2 k2) (hl1 : s.heap.IsTuple l1 xs) (hl2 : s.heap.IsTuple l2 ys) (hend : xs[k1]? = none ∨ ys[k2]? = none)
    (hE : ∀ h' e, (∀ c o, c ≠ z → c ≠ i1 → c ≠ i2 → s.heap.get? c = some o → h'.get? c = some o) → (∃ o, h'.get? e = some o ∧ o.cls = .type "StopIteration") → E (.ref e) { s with heap := h' }) :
    wpAny (model prog w) A (Builtin.«zip.__next__» ⟨[.ref z], []⟩) Q E s := by
  show wpAny _ _ (field (.ref z) 2 >>= _) _ _ _
  refine wpAny_bind (wpAny_field hz rfl (x := .bool false) rfl ?_)
  show wpAny _ _ (field (.ref z) 3 >>= _) _ _ _
  refine wpAny_bind (wpAny_field hz rfl (x := .ref TI) rfl ?_)
  refine wpAny_bind (wpAny_seqItems hTI rfl ?_)
  show wpAny _ _ (Builtin.SmallTypes.ownedTupleIsFree (.ref z) >>= _) _ _ _
  refine wpAny_bind (wpAny_tupleHeld_zip hz hT fun h₁ hz₁ hs₁ => ?_)
  simp only [Bool.false_eq_true, if_false]
  refine wpAny_bind ?_
  rw [← Array.forIn_toList]
  simp only [List.forIn_cons, List.forIn_nil]
  refine wpAny_bind (wpAny_bind (wpAny_holding ?_))
  show wpAny _ _ (Builtin.SmallTypes.nextOf (.ref i1) >>= _) _ _ _
  cases hx : xs[k1]? with
  | none =>
    refine wpAny_bind (nextOf_tuple_end (s := { s with heap := h₁ }) hh (h1.extBut hs₁.extBut D.i1z) (hl1.extBut hs₁.extBut D.l1z) hx fun h₂ e hs₂ he => ?_)
    exact hE h₂ e (fun c o c1 c2 _ x => hs₂ _ _ c2 (hs₁.extBut _ _ c1 x)) he
  | some x =>
    have hy : ys[k2]? = none := by rcases hend with h | h; rw [hx] at h; cases h; exact h
    refine wpAny_bind (nextOf_tuple_item (s := { s with heap := h₁ }) (h1.extBut hs₁.extBut D.i1z) (hl1.extBut hs₁.extBut D.l1z) hx fun h₂ h1₂ hs₂ => wpAny_pure ?_)
    refine wpAny_pure ?_
    refine wpAny_bind (wpAny_bind (wpAny_holding ?_))
    show wpAny _ _ (Builtin.SmallTypes.nextOf (.ref i2) >>= _) _ _ _
    refine wpAny_bind (nextOf_tuple_end (s := { s with heap := h₂ }) hh ((h2.extBut hs₁.extBut D.i2z).extBut hs₂.extBut D.i12.symm) ((hl2.extBut hs₁.extBut D.l2z).extBut hs₂.extBut D.l2i1) hy fun h₃ e hs₃ he => ?_)
    exact hE h₃ e (fun c o c1 c2 c3 x => hs₃ _ _ c3 (hs₂.extBut _ _ c2 (hs₁.extBut _ _ c1 x))) he
theorem pyNext_item_held {z TI TO T i1 i2 l1 l2 : Addr} {f : Bool} {oT : Obj} {k1 k2 : Nat} {xs ys : Array Value} {x y : Value} {Q : Option Value → Shared → Prop} (D : ZipApart z TI TO i1 i2 l1 l2)
    (hz : IsZipHeld s.heap z TI TO T f) (hT : s.heap.get? T = some oT) (hTI : IsPair s.heap TI (.ref i1) (.ref i2))
    (h1 : s.heap.IsTupleIter i1 l1 k1) (h2 : s.heap.IsTupleIter i2 l2 k2) (hl1 : s.heap.IsTuple l1 xs) (hl2 : s.heap.IsTuple l2 ys) (hx : xs[k1]? = some x) (hy : ys[k2]? = some y)
    (hQ : ∀ h', IsZipHeld h' z TI TO T true → h'.IsTupleIter i1 l1 (k1 + 1) → h'.IsTupleIter i2 l2 (k2 + 1) → IsPair h' s.heap.objs.size x y → h'.objs.size = s.heap.objs.size + 1 →
      (∀ c o, c ≠ z → c ≠ i1 → c ≠ i2 → s.heap.get? c = some o → h'.get? c = some o) → Q (some (.ref s.heap.objs.size)) { s with heap := h' }) :
    wpAny (model prog w) A (pyNext (.ref z)) Q E s := by
  have hTy : s.TypeIs (.ref z) "zip" := ⟨_, hz, rfl⟩
  unfold pyNext
  exact wpAny_bind (wpAny_attempt (wpAny_callSpecial?_slot (name := Str.ofString "__next__") hTy F.slot_zip_next
    (wpAny_call_entry F.slot_zip_next hTy F.entry_zip_next
      (next_item_held D hz hT hTI h1 h2 hl1 hl2 hx hy fun h' a1 a3 a4 a5 a6 a7 => wpAny_pure (hQ h' a1 a3 a4 a5 a6 a7)) (F.args_zip_next_1 _))))
theorem pyNext_end_held {z TI TO T i1 i2 l1 l2 : Addr} {f : Bool} {oT : Obj} {k1 k2 : Nat} {xs ys : Array Value} {Q : Option Value → Shared → Prop} (hh : A.handled = none) (D : ZipApart z TI TO i1 i2 l1 l2)
    (hz : IsZipHeld s.heap z TI TO T f) (hT : s.heap.get? T = some oT) (hTI : IsPair s.heap TI (.ref i1) (.ref i2))
    (h1 : s.heap.IsTupleIter i1 l1 k1) (h2 : s.heap.IsTupleIter i2 l2 k2) (hl1 : s.heap.IsTuple l1 xs) (hl2 : s.heap.IsTuple l2 ys) (hend : xs[k1]? = none ∨ ys[k2]? = none)
    (hQ : ∀ h', (∀ c o, c ≠ z → c ≠ i1 → c ≠ i2 → s.heap.get? c = some o → h'.get? c = some o) → Q none { s with heap := h' }) : wpAny (model prog w) A (pyNext (.ref z)) Q E s := by
  have hTy : s.TypeIs (.ref z) "zip" := ⟨_, hz, rfl⟩
  unfold pyNext
  refine wpAny_bind (wpAny_attempt (wpAny_callSpecial?_slot (name := Str.ofString "__next__") hTy F.slot_zip_next
    (wpAny_call_entry F.slot_zip_next hTy F.entry_zip_next (next_end_held hh D hz hT hTI h1 h2 hl1 hl2 hend fun h' e hk he => ?_) (F.args_zip_next_1 _))))
  obtain ⟨o, ho, hc⟩ := he
  refine wpAny_bind (wpAny_isInstance (T := "StopIteration") (b := true) ⟨o, ho, hc⟩ isSubtype_stop ?_)
  exact wpAny_pure (hQ _ hk)
/-- a zip that has given i pairs out, all of them held; S: the list that holds them -/
structure ZSt (h : Heap) (z TI TO i1 i2 l1 l2 S : Addr) (xs ys : Array Value) (i : Nat) : Prop where
  ti : IsPair h TI (.ref i1) (.ref i2)
  it1 : h.IsTupleIter i1 l1 i
  it2 : h.IsTupleIter i2 l2 i
  t1 : h.IsTuple l1 xs
  t2 : h.IsTuple l2 ys
  st : (IsZip h z TI TO .none ∧ ∃ a b, IsPair h TO a b) ∨ ∃ T f oT, IsZipHeld h z TI TO T f ∧ h.get? T = some oT ∧ T ≠ z ∧ T ≠ i1 ∧ T ≠ i2 ∧ T ≠ S
/-- S apart from all -/
structure SAp (z TI TO i1 i2 l1 l2 S : Addr) : Prop where
  z : z ≠ S
  TI : TI ≠ S
  TO : TO ≠ S
  i1 : i1 ≠ S
  i2 : i2 ≠ S
  l1 : l1 ≠ S
  l2 : l2 ≠ S
theorem ZSt.keep {h h' : Heap} {z TI TO i1 i2 l1 l2 S : Addr} {xs ys : Array Value} {i : Nat} (x : ZSt h z TI TO i1 i2 l1 l2 S xs ys i) (P : SAp z TI TO i1 i2 l1 l2 S) (hk : ∀ b o, b ≠ S → h.get? b = some o → h'.get? b = some o) : ZSt h' z TI TO i1 i2 l1 l2 S xs ys i := by
  refine ⟨hk _ _ P.TI x.ti, x.it1.at fun o e => hk _ o P.i1 e, x.it2.at fun o e => hk _ o P.i2 e, x.t1.at fun o e => hk _ o P.l1 e, x.t2.at fun o e => hk _ o P.l2 e, ?_⟩
  rcases x.st with ⟨hz, a, b, hTO⟩ | ⟨T, f, oT, hz, hT, r1, r2, r3, r4⟩
  · exact .inl ⟨hk _ _ P.z hz, a, b, hk _ _ P.TO hTO⟩
  · exact .inr ⟨T, f, oT, hk _ _ P.z hz, hk _ _ r4 hT, r1, r2, r3, r4⟩
theorem zs_item {z TI TO i1 i2 l1 l2 S : Addr} {xs ys : Array Value} {i : Nat} {x y : Value} {Q : Option Value → Shared → Prop} (D : ZipApart z TI TO i1 i2 l1 l2) (st : ZSt s.heap z TI TO i1 i2 l1 l2 S xs ys i) (hS : S < s.heap.objs.size) (ex : xs[i]? = some x) (ey : ys[i]? = some y)
    (hQ : ∀ h', ZSt h' z TI TO i1 i2 l1 l2 S xs ys (i + 1) → h'.get? s.heap.objs.size = some { cls := .type "tuple", data := .seq #[x, y] } → h'.objs.size = s.heap.objs.size + 1 →
      (∀ c o, c ≠ z → c ≠ TO → c ≠ i1 → c ≠ i2 → s.heap.get? c = some o → h'.get? c = some o) → Q (some (.ref s.heap.objs.size)) { s with heap := h' }) :
    wpAny (model prog w) A (pyNext (.ref z)) Q E s := by
  have lt : ∀ {c o}, s.heap.get? c = some o → s.heap.objs.size ≠ c := fun e => Nat.ne_of_gt (Heap.lt_size e)
  have n1 : s.heap.objs.size ≠ i1 := let ⟨_, e, _⟩ := st.it1; lt e
  have n2 : s.heap.objs.size ≠ i2 := let ⟨_, e, _⟩ := st.it2; lt e
  rcases st.st with ⟨hz, a, b, hTO⟩ | ⟨T, f, oT, hz, hT, r1, r2, r3, r4⟩
  · refine pyNext_zipT_item D hz st.ti hTO st.it1 st.it2 st.t1 st.t2 ex ey fun h' a1 a2 a3 a4 a5 a6 hk => ?_
    exact hQ h' ⟨hk _ _ D.TIz D.TITO D.TIi1 D.TIi2 st.ti, a3, a4, st.t1.at fun o e => hk _ o D.l1z D.l1TO D.l1i1 D.l1i2 e, st.t2.at fun o e => hk _ o D.l2z D.l2TO D.l2i1 D.l2i2 e,
      .inr ⟨s.heap.objs.size, false, _, a1, a5, lt hz, n1, n2, Nat.ne_of_gt hS⟩⟩ a5 a6 hk
  · refine pyNext_item_held D hz hT st.ti st.it1 st.it2 st.t1 st.t2 ex ey fun h' a1 a3 a4 a5 a6 hk => ?_
    exact hQ h' ⟨hk _ _ D.TIz D.TIi1 D.TIi2 st.ti, a3, a4, st.t1.at fun o e => hk _ o D.l1z D.l1i1 D.l1i2 e, st.t2.at fun o e => hk _ o D.l2z D.l2i1 D.l2i2 e,
      .inr ⟨T, true, oT, a1, hk _ _ r1 r2 r3 hT, r1, r2, r3, r4⟩⟩ a5 a6 fun c o c1 _ c3 c4 e => hk c o c1 c3 c4 e
theorem zs_done {z TI TO i1 i2 l1 l2 S : Addr} {xs ys : Array Value} {i : Nat} {Q : Option Value → Shared → Prop} (hh : A.handled = none) (D : ZipApart z TI TO i1 i2 l1 l2) (st : ZSt s.heap z TI TO i1 i2 l1 l2 S xs ys i) (hend : xs[i]? = none ∨ ys[i]? = none)
    (hQ : ∀ h', (∀ c o, c ≠ z → c ≠ TO → c ≠ i1 → c ≠ i2 → s.heap.get? c = some o → h'.get? c = some o) → Q none { s with heap := h' }) : wpAny (model prog w) A (pyNext (.ref z)) Q E s := by
  rcases st.st with ⟨hz, a, b, hTO⟩ | ⟨T, f, oT, hz, hT, r1, r2, r3, r4⟩
  · exact pyNext_zipT_end hh D hz st.ti hTO st.it1 st.it2 st.t1 st.t2 hend fun h' hk => hQ h' hk
  · exact pyNext_end_held hh D hz hT st.ti st.it1 st.it2 st.t1 st.t2 hend fun h' hk => hQ h' fun c o c1 _ c3 c4 e => hk c o c1 c3 c4 e
/-- the pairs that are given out -/
structure ZG (xs ys : Array Value) (lo : Addr) (h : Heap) (as : List Addr) : Prop where
  rise : as.Pairwise (· < ·)
  above : ∀ a ∈ as, lo < a
  pairs : ∀ (j : Nat) (a : Addr), as[j]? = some a → ∃ x y, xs[j]? = some x ∧ ys[j]? = some y ∧ h.get? a = some { cls := .type "tuple", data := .seq #[x, y] }
theorem ZG.there {xs ys : Array Value} {lo : Addr} {h : Heap} {as : List Addr} (g : ZG xs ys lo h as) {a : Addr} (ha : a ∈ as) : a < h.objs.size := by
  obtain ⟨j, hj⟩ := List.mem_iff_getElem?.mp ha
  obtain ⟨_, _, _, _, e⟩ := g.pairs j a hj
  exact Heap.lt_size e
end
section
variable {prog : Program} {w : World} {A : Around} {s : Shared} {R : Result → Shared → Prop} {xs ys : Array Value}
theorem ne_up {b S a : Addr} (h : b < S) (h2 : S < a) : a ≠ b := Nat.ne_of_gt (Nat.lt_trans h h2)
theorem zs_loop {z TI TO i1 i2 l1 l2 S : Addr} (hh : A.handled = none) (D : ZipApart z TI TO i1 i2 l1 l2) (P : SAp z TI TO i1 i2 l1 l2 S) (hlt : z < S ∧ TO < S ∧ i1 < S ∧ i2 < S) (hn : min xs.size ys.size ≤ sizeLine) (res : Value) {h₁ : Heap}
    (hR : ∀ h' tk acc c as, (∀ b o, b ≠ S → b ≠ z → b ≠ TO → b ≠ i1 → b ≠ i2 → h₁.get? b = some o → h'.get? b = some o) → h'.get? S = some { cls := .type "list", dict := none, data := .seq acc c, slots := #[] } → as.length = min xs.size ys.size → ZG xs ys S h' as →
      acc.toList = as.map Value.ref → R (.ok (.ret res)) { s with heap := h', toks := tk }) :
    ∀ (k i : Nat) (h : Heap) (tk c : Nat) (acc : Array Value) (as : List Addr), min xs.size ys.size - i = k → i ≤ min xs.size ys.size → ZSt h z TI TO i1 i2 l1 l2 S xs ys i → (∀ b o, b ≠ S → b ≠ z → b ≠ TO → b ≠ i1 → b ≠ i2 → h₁.get? b = some o → h.get? b = some o) →
      h.get? S = some { cls := .type "list", dict := none, data := .seq acc c, slots := #[] } → acc.toList = as.map Value.ref → as.length = i → ZG xs ys S h as →
      codeAny (model prog w) A (.builtin "list.extend.loop" ⟨[.ref S, .ref z, res], []⟩) R { s with heap := h, toks := tk } := by
  intro k
  induction k with
  | zero =>
    intro i h tk c acc as hk hi hst hkeep hS hacc hal hG
    have hin : i = min xs.size ys.size := by omega
    refine codeAny_builtin PySem.F.entry_extend_loop ?_
    rw [Around.under_plainId PySem.F.plain_extend_loop _]
    show wpAny _ A.in1 (pyNext (.ref z) >>= _) _ _ _
    have hend : xs[i]? = none ∨ ys[i]? = none := by
      rcases Nat.le_total xs.size ys.size with h | h
      · exact .inl (Array.getElem?_eq_none (by rw [hin, Nat.min_eq_left h]; exact Nat.le_refl _))
      · exact .inr (Array.getElem?_eq_none (by rw [hin, Nat.min_eq_right h]; exact Nat.le_refl _))
    refine wpAny_bind (zs_done (s := { s with heap := h, toks := tk }) (A := A.in1) hh D hst hend fun h' he => ?_)
    refine wpAny_pure (hR h' tk acc c as (fun b o h1 h2 h3 h4 h5 e => he b o h2 h3 h4 h5 (hkeep b o h1 h2 h3 h4 h5 e)) (he S _ P.z.symm P.TO.symm P.i1.symm P.i2.symm hS) (by omega) ⟨hG.rise, hG.above, fun j a hj => ?_⟩ hacc)
    obtain ⟨x, y, e1, e2, e3⟩ := hG.pairs j a hj
    have ha := hG.above a (List.mem_of_getElem? hj)
    exact ⟨x, y, e1, e2, he a _ (ne_up hlt.1 ha) (ne_up hlt.2.1 ha) (ne_up hlt.2.2.1 ha) (ne_up hlt.2.2.2 ha) e3⟩
  | succ k ih =>
    intro i h tk c acc as hk hi hst hkeep hS hacc hal hG
    have hlx : i < xs.size := by omega
    have hly : i < ys.size := by omega
    have ex := Array.getElem?_eq_getElem hlx
    have ey := Array.getElem?_eq_getElem hly
    have hsz : acc.size = i := by rw [← Array.length_toList, hacc, List.length_map, hal]
    refine codeAny_builtin PySem.F.entry_extend_loop ?_
    rw [Around.under_plainId PySem.F.plain_extend_loop _]
    show wpAny _ A.in1 (pyNext (.ref z) >>= _) _ _ _
    refine wpAny_bind (zs_item (s := { s with heap := h, toks := tk }) (S := S) D hst (Heap.lt_size hS) ex ey fun h' hst' ht hz hkp => ?_)
    dsimp only at ht hz hkp ⊢
    have hS' := hkp S _ P.z.symm P.TO.symm P.i1.symm P.i2.symm hS
    have up : ∀ b o, b ≠ S → h'.get? b = some o → (h'.update S (Obj.mapSeq (·.push (Value.ref h.objs.size)))).get? b = some o := fun b o hb e => (Heap.get?_update_other _ _ (Ne.symm hb)).trans e
    have hSl : S < h.objs.size := Heap.lt_size hS
    show wpAny _ A.in1 (updateSeq S (·.push (Value.ref h.objs.size)) >>= _) _ _ _
    refine wpAny_bind ?_
    refine wpAny_updateSeq hS' rfl (wpAny_pure ⟨plainId_quiet PySem.F.plain_extend_loop _, ih (i + 1) _ tk _ (acc.push (Value.ref h.objs.size)) (as ++ [h.objs.size]) (by omega) (by omega) (hst'.keep P up)
      (fun b o h1 h2 h3 h4 h5 e => up b o h1 (hkp b o h2 h3 h4 h5 (hkeep b o h1 h2 h3 h4 h5 e))) (Heap.get?_update_self _ hS' rfl) (by rw [Array.toList_push, hacc, List.map_append]; rfl) (by rw [List.length_append, hal]; rfl) ⟨?_, ?_, ?_⟩⟩) (by rw [hsz]; omega) (by show (acc.push (Value.ref h.objs.size)).size ≤ sizeLine + 1; rw [Array.size_push, hsz]; omega)
    · refine List.pairwise_append.mpr ⟨hG.rise, List.pairwise_singleton _ _, fun a ha b hb => ?_⟩
      rw [List.mem_singleton.mp hb]
      exact hG.there ha
    · intro a ha
      rcases List.mem_append.mp ha with ha | ha
      · exact hG.above a ha
      · rw [List.mem_singleton.mp ha]; exact hSl
    · intro j b hj
      rcases Nat.lt_trichotomy j as.length with h1 | h1 | h1
      · rw [List.getElem?_append_left h1] at hj
        obtain ⟨x', y', e1, e2, e3⟩ := hG.pairs j b hj
        have hb := hG.above b (List.mem_of_getElem? hj)
        exact ⟨x', y', e1, e2, up b _ (Nat.ne_of_gt hb) (hkp b _ (ne_up hlt.1 hb) (ne_up hlt.2.1 hb) (ne_up hlt.2.2.1 hb) (ne_up hlt.2.2.2 hb) e3)⟩
      · subst h1
        have hb : h.objs.size = b := by simpa using hj
        subst hb
        exact ⟨_, _, by rw [hal]; exact ex, by rw [hal]; exact ey, up _ _ (Nat.ne_of_gt hSl) ht⟩
      · have hnone : (as ++ [h.objs.size])[j]? = none := List.getElem?_eq_none (by rw [List.length_append, List.length_singleton]; omega)
        rw [hnone] at hj; cases hj
theorem zip_no_len : typeLookup (.type "zip") "__len__" = pure none := by rw [typeLookup_type, builtinLookup_eq_fast]; kernel_rfl
theorem zip_no_hint : typeLookup (.type "zip") "__length_hint__" = pure none := by rw [typeLookup_type, builtinLookup_eq_fast]; kernel_rfl
theorem zs_extend {z TI TO i1 i2 l1 l2 S : Addr} (hh : A.handled = none) (D : ZipApart z TI TO i1 i2 l1 l2) (P : SAp z TI TO i1 i2 l1 l2 S) (hlt : z < S ∧ TO < S ∧ i1 < S ∧ i2 < S) (hn : min xs.size ys.size ≤ sizeLine) (res : Value) (c₀ : Nat)
    (hst : ZSt s.heap z TI TO i1 i2 l1 l2 S xs ys 0) (hz0 : IsZip s.heap z TI TO .none) (hS : s.heap.get? S = some { cls := .type "list", data := .seq #[] c₀ })
    (hR : ∀ h' tk acc c as, (∀ b o, b ≠ S → b ≠ z → b ≠ TO → b ≠ i1 → b ≠ i2 → s.heap.get? b = some o → h'.get? b = some o) → h'.get? S = some { cls := .type "list", dict := none, data := .seq acc c, slots := #[] } → as.length = min xs.size ys.size → ZG xs ys S h' as →
      acc.toList = as.map Value.ref → R (.ok (.ret res)) { s with heap := h', toks := tk }) :
    wpAny (model prog w) A.in1 (Builtin.List.listExtendWith (.ref S) (.ref z) res)
      (fun fin s' => match fin with | .done f => R (.ok f) s' | .again c' => c'.quiet = true ∧ codeAny (model prog w) A c' R s') (fun e s' => R (.error e) s') s := by
  have hT : s.TypeIs (.ref z) "zip" := ⟨_, hz0, rfl⟩
  unfold Builtin.List.listExtendWith
  refine wpAny_bind (wpAny_typeOf hT ?_)
  have h1 : Builtin.List.listSameRef (.ref S) (.ref z) = false := by simp [Builtin.List.listSameRef, P.z.symm]
  have h2 : (Value.type "zip" == Value.type "list") = false := by decide
  have h3 : (Value.type "zip" == Value.type "tuple") = false := by decide
  simp only [h1, h2, h3, Bool.or_false, Bool.false_eq_true, if_false]
  refine wpAny_bind (wpAny_pyIter_zip hz0 ?_)
  refine wpAny_bind (wpAny_holding ?_)
  unfold Builtin.List.listLengthHint
  refine wpAny_bind (wpAny_specialOf hT zip_no_len ?_)
  show wpAny _ A.in1 (specialOf (Value.ref z) (Str.ofString "__length_hint__") >>= _) _ _ _
  refine wpAny_bind (wpAny_specialOf hT zip_no_hint ?_)
  refine wpAny_pure ?_
  show wpAny _ A.in1 (rule "list.extend.makes-room" >>= fun _ => Builtin.List.listTouch (.ref S) >>= fun _ =>
    again (.builtin "list.extend.loop" ⟨[.ref S, .ref z, res], []⟩)) _ _ _
  refine wpAny_bind (wpAny_rule ?_)
  refine wpAny_bind ?_
  show wpAny _ A.in1 (updateSeq S (·.push .none) >>= fun _ => updateSeq S (·.pop)) _ _ _
  refine wpAny_bind (wpAny_updateSeq hS rfl ?_)
  have hS₂ := Heap.get?_update_self (Obj.mapSeq (·.push Value.none)) hS rfl
  refine wpAny_updateSeq (hz := by seq_fits) hS₂ rfl ?_
  have hS₃ := Heap.get?_update_self (Obj.mapSeq (·.pop)) hS₂ rfl
  have oth : ∀ b o, b ≠ S → s.heap.get? b = some o → ((s.heap.update S (Obj.mapSeq (·.push Value.none))).update S (Obj.mapSeq (·.pop))).get? b = some o :=
    fun b o hb e => (Heap.get?_update_other _ _ (Ne.symm hb)).trans ((Heap.get?_update_other _ _ (Ne.symm hb)).trans e)
  refine wpAny_pure ⟨plainId_quiet F.plain_extend_loop _, zs_loop (s := s) (h₁ := s.heap) hh D P hlt hn res hR _ 0 _ s.toks _ #[] [] rfl (Nat.zero_le _) (hst.keep P oth) (fun b o hb _ _ _ _ e => oth b o hb e) hS₃ rfl rfl ⟨List.Pairwise.nil, (fun _ ha => nomatch ha), (fun j a hj => by simp at hj)⟩⟩
theorem zs_init {z TI TO i1 i2 l1 l2 S : Addr} (hh : A.handled = none) (D : ZipApart z TI TO i1 i2 l1 l2) (P : SAp z TI TO i1 i2 l1 l2 S) (hlt : z < S ∧ TO < S ∧ i1 < S ∧ i2 < S) (hn : min xs.size ys.size ≤ sizeLine)
    (hst : ZSt s.heap z TI TO i1 i2 l1 l2 S xs ys 0) (hz0 : IsZip s.heap z TI TO .none) (hS : s.heap.get? S = some { cls := .type "list", data := .seq #[] })
    (hR : ∀ h' tk acc c as, (∀ b o, b ≠ S → b ≠ z → b ≠ TO → b ≠ i1 → b ≠ i2 → s.heap.get? b = some o → h'.get? b = some o) → h'.get? S = some { cls := .type "list", dict := none, data := .seq acc c, slots := #[] } → as.length = min xs.size ys.size → ZG xs ys S h' as →
      acc.toList = as.map Value.ref → R (.ok (.ret .none)) { s with heap := h', toks := tk }) :
    wpAny (model prog w) A.in1 (Builtin.«list.__init__» ⟨[.ref S, .ref z], []⟩)
      (fun fin s' => match fin with | .done f => R (.ok f) s' | .again c' => c'.quiet = true ∧ codeAny (model prog w) A c' R s') (fun e s' => R (.error e) s') s := by
  show wpAny _ A.in1 (do let old ← Builtin.List.listItems (.ref S); Builtin.List.listUpdate (.ref S) (fun _ => #[]); letGo old.toList.reverse; Builtin.List.listExtendWith (.ref S) (.ref z) .none) _ _ s
  refine wpAny_bind ?_
  unfold Builtin.List.listItems
  refine wpAny_bind (wpAny_seqItems hS rfl (wpAny_pure ?_))
  show wpAny _ A.in1 (updateSeq S (fun _ => #[]) >>= fun _ => letGo (#[] : Array Value).toList.reverse >>= fun _ => Builtin.List.listExtendWith (.ref S) (.ref z) .none) _ _ s
  refine wpAny_bind (wpAny_updateSeq hS rfl ?_)
  have hS₂ := Heap.get?_update_self (Obj.mapSeq (fun _ => (#[] : Array Value))) hS rfl
  have oth : ∀ b o, b ≠ S → s.heap.get? b = some o → (s.heap.update S (Obj.mapSeq (fun _ => (#[] : Array Value)))).get? b = some o :=
    fun b o hb e => (Heap.get?_update_other _ _ (Ne.symm hb)).trans e
  refine wpAny_bind (wpAny_letGo ?_)
  refine zs_extend (s := { s with heap := s.heap.update S (Obj.mapSeq (fun _ => (#[] : Array Value))) }) hh D P hlt hn .none _ (hst.keep P oth) (oth _ _ P.z hz0) hS₂ fun h' tk acc c as hk hS' hl hG hacc => ?_
  exact hR h' tk acc c as (fun b o h1 h2 h3 h4 h5 e => hk b o h1 h2 h3 h4 h5 (oth b o h1 e)) hS' hl hG hacc
end
section
variable {prog : Program} {w : World} {A : Around} {E : Value → Shared → Prop} {s : Shared} {xs ys : Array Value}
theorem zs_call {z TI TO i1 i2 l1 l2 : Addr} {Q : Value → Shared → Prop} (hh : A.handled = none) (D : ZipApart z TI TO i1 i2 l1 l2) (P : SAp z TI TO i1 i2 l1 l2 s.heap.objs.size) (hlt : z < s.heap.objs.size ∧ TO < s.heap.objs.size ∧ i1 < s.heap.objs.size ∧ i2 < s.heap.objs.size) (hn : min xs.size ys.size ≤ sizeLine)
    (hst : ZSt s.heap z TI TO i1 i2 l1 l2 s.heap.objs.size xs ys 0) (hz0 : IsZip s.heap z TI TO .none)
    (hQ : ∀ h' tk acc c as, (∀ b o, b ≠ z → b ≠ TO → b ≠ i1 → b ≠ i2 → s.heap.get? b = some o → h'.get? b = some o) → h'.get? s.heap.objs.size = some { cls := .type "list", dict := none, data := .seq acc c, slots := #[] } → as.length = min xs.size ys.size → ZG xs ys s.heap.objs.size h' as →
      acc.toList = as.map Value.ref → Q (.ref s.heap.objs.size) { s with heap := h', toks := tk }) :
    wpAny (model prog w) A (call (.type "list") [.ref z]) Q E s := by
  refine callType_codes (Q₁ := fun obj s₁ => obj = .ref s.heap.objs.size ∧ s₁ = { s with heap := s.heap.push { cls := .type "list", data := .seq #[] } }) PySem.F.called_list (PySem.F.typeCall_list_1 _) PySem.F.entry_list_init
    (code_list_new _ ⟨rfl, rfl⟩) fun obj s₁ h₁ => ?_
  obtain ⟨rfl, rfl⟩ := h₁
  have hS : (s.heap.push { cls := .type "list", data := .seq #[] }).get? s.heap.objs.size = some { cls := .type "list", data := .seq #[] } := Heap.get?_push_size _ rfl
  have pk : ∀ b o, s.heap.get? b = some o → (s.heap.push { cls := .type "list", data := .seq #[] }).get? b = some o := fun b o e => Heap.get?_push_of_some _ e
  refine ⟨⟨_, hS, rfl⟩, PySem.F.args_list_init_2 _ _, zs_init (s := { s with heap := s.heap.push { cls := .type "list", data := .seq #[] } }) (A := A.in1) hh D P hlt hn (hst.keep P fun b o _ e => pk b o e) (pk _ _ hz0) hS fun h' tk acc c as hk hS' hl hG hacc => ?_⟩
  exact ⟨rfl, hQ h' tk acc c as (fun b o h2 h3 h4 h5 e => hk b o (Nat.ne_of_lt (Heap.lt_size e)) h2 h3 h4 h5 (pk b o e)) hS' hl hG hacc⟩
end
end QZ
end
section
set_option Elab.async false
set_option linter.all false
set_option maxRecDepth 100000
set_option maxHeartbeats 2000000
/-! list(zip(a, b)) of two tuples: the hand layer's rule -/
namespace QZ
open PySem PySem.Spec PyProof.Rows L2 RZ
/-- the pairs at their addresses -/
def putP : Hp → List Addr → List (V × V) → Hp
  | H, a :: as, p :: ps => putP (upd H a (.tup [p.1, p.2])) as ps
  | H, _, _ => H
theorem putP_off {b : Addr} : ∀ (as : List Addr) (ps : List (V × V)) (H : Hp), b ∉ as → putP H as ps b = H b
  | [], _, _, _ => rfl
  | _ :: _, [], _, _ => rfl
  | a :: as, p :: ps, H, h => by
    show putP (upd H a (.tup [p.1, p.2])) as ps b = H b
    rw [putP_off as ps _ (fun z => h (List.mem_cons_of_mem _ z)), upd_ne (fun z => h (by rw [z]; exact List.mem_cons_self))]
theorem putP_at : ∀ (as : List Addr) (ps : List (V × V)) (H : Hp), as.length = ps.length → as.Nodup → Paired (fun (t : Addr) (p : V × V) => putP H as ps t = some (.tup [p.1, p.2])) as ps
  | [], [], _, _, _ => .nil
  | [], _ :: _, _, h, _ => by cases h
  | _ :: _, [], _, h, _ => by cases h
  | a :: as, p :: ps, H, h, hn => by
    have hn' := List.nodup_cons.mp hn
    have ih := putP_at as ps (upd H a (.tup [p.1, p.2])) (Nat.succ.inj h) hn'.2
    refine .cons ?_ ih
    show putP (upd H a (.tup [p.1, p.2])) as ps a = some (.tup [p.1, p.2])
    rw [putP_off as ps _ hn'.1, upd_same]
def rLz (K : PySem.W.Frag) : List V → Hp → VK → Prop := fun vs H Q => ∃ (a b : Addr) (xs ys : List V), vs = [.ref a, .ref b] ∧ SqT K H a xs ∧ SqT K H b ys ∧
  ∀ (H' : Hp) (p : Addr) (ts : List Addr), (∀ b o, H b = some o → H' b = some o) → H p = none → (∀ t ∈ ts, H t = none) → p ∉ ts → H' p = some (.lst (ts.map V.ref)) → Paired (fun (t : Addr) (q : V × V) => H' t = some (.tup [q.1, q.2])) ts (xs.zip ys) → Q (.ref p) H'
def tLz (K : PySem.W.Frag) (ta : TA) : TE := fun σ H Q => ta σ H fun vs H1 => rLz K vs H1 Q
theorem vget : ∀ {xs : List V} {us : List Value} {j : Nat} {u : Value}, Vals xs us → us[j]? = some u → ∃ x, xs[j]? = some x ∧ RelV x u
  | _, _, _, _, .nil, e => by simp at e
  | _, _, 0, _, .cons r _, e => by simp at e; subst e; exact ⟨_, rfl, r⟩
  | _, _, j + 1, u, .cons _ t, e => by
    obtain ⟨x, h1, h2⟩ := vget (j := j) (u := u) t (by simpa using e)
    exact ⟨x, by simpa using h1, h2⟩
section
variable {X : Cx}
theorem laid {pins : List (Addr × Obj)} {σ : L2.St} {H : Hp} {s : Shared} {h' : Heap} {tk : Nat} {xs ys : List V} {us vs : List Value} {acc : Array Value} {c : Nat} {as : List Addr} {S : Addr} (I : Inv X pins σ H s) (hz : min us.length vs.length ≤ sizeLine) (r1 : Vals xs us) (r2 : Vals ys vs) (hS0 : s.heap.objs.size ≤ S)
    (hk : ∀ b o, s.heap.get? b = some o → h'.get? b = some o) (hS : h'.get? S = some { cls := .type "list", dict := none, data := .seq acc c, slots := #[] }) (hl : as.length = min us.toArray.size vs.toArray.size) (hG : ZG us.toArray vs.toArray S h' as) (hacc : acc.toList = as.map Value.ref) :
    ∃ H' : Hp, (∀ b o, H b = some o → H' b = some o) ∧ H S = none ∧ (∀ t ∈ as, H t = none) ∧ S ∉ as ∧ H' S = some (.lst (as.map V.ref)) ∧ Paired (fun (t : Addr) (q : V × V) => H' t = some (.tup [q.1, q.2])) as (xs.zip ys) ∧ Inv X pins σ H' { s with heap := h', toks := tk } := by
  have l1 := r1.length
  have l2 := r2.length
  have hl2 : as.length = (xs.zip ys).length := by rw [hl, List.length_zip, l1, l2]; simp
  have hSn : S ∉ as := fun z => Nat.lt_irrefl _ (hG.above _ z)
  have nd : as.Nodup := List.Pairwise.imp (fun {a b} (h : a < b) => Nat.ne_of_lt h) hG.rise
  have ge : ∀ t ∈ as, s.heap.objs.size ≤ t := fun t ht => Nat.le_trans hS0 (Nat.le_of_lt (hG.above t ht))
  have new : ∀ t ∈ as, H t = none := fun t ht => I.hok.fresh (ge t ht)
  have newS : H S = none := I.hok.fresh hS0
  have atP := putP_at as (xs.zip ys) (upd H S (.lst (as.map V.ref))) hl2 nd
  have off : ∀ b, b ∉ as → b ≠ S → putP (upd H S (.lst (as.map V.ref))) as (xs.zip ys) b = H b := fun b h1 h2 => by rw [putP_off as _ _ h1, upd_ne h2]
  have low : ∀ b o, s.heap.get? b = some o → b ∉ as ∧ b ≠ S := fun b o e => ⟨fun z => absurd (Heap.lt_size e) (Nat.not_lt.mpr (ge b z)), fun z => absurd (Heap.lt_size e) (Nat.not_lt.mpr (by rw [z]; exact hS0))⟩
  have kp : ∀ b u, H b = some u → (putP (upd H S (.lst (as.map V.ref))) as (xs.zip ys)) b = some u := fun b u e => by
    rw [off b (fun z => by rw [new b z] at e; cases e) (fun z => by rw [z, newS] at e; cases e)]
    exact e
  have eS : putP (upd H S (.lst (as.map V.ref))) as (xs.zip ys) S = some (.lst (as.map V.ref)) := by rw [putP_off as _ _ hSn, upd_same]
  refine ⟨putP (upd H S (.lst (as.map V.ref))) as (xs.zip ys), kp, newS, new, hSn, eS, atP, ?_⟩
  refine I.call' (ch := []) rfl ⟨fun b o q _ _ _ => hk b o q, fun b o q _ _ _ => ⟨o.slots, hk b o q⟩, fun b o q n _ => ?_, fun b o q _ => ⟨o, hk b o q⟩, fun b xs q => kp b _ q, fun b o u q => kp b _ q, fun b ps q => ⟨#[], by rw [kp b _ q]; simp⟩⟩ (fun b u q => ?_) I.bare fun b z => by simp at z
  · obtain ⟨z1, z2⟩ := low b o q
    rw [off b z1 z2]
    exact n
  · by_cases hb : b ∈ as
    · obtain ⟨j, pk, e1, e2, e3⟩ := LiI.paired_ix atP hb
      rw [e3] at q
      cases q
      obtain ⟨x, y, f1, f2, f3⟩ := hG.pairs j b e1
      rw [List.getElem?_toArray] at f1 f2
      obtain ⟨x0, g1, rx⟩ := vget r1 f1
      obtain ⟨y0, g2, ry⟩ := vget r2 f2
      have e4 : (xs.zip ys)[j]? = some (x0, y0) := by rw [List.getElem?_zip_eq_some]; exact ⟨g1, g2⟩
      rw [e2] at e4
      cases e4
      exact ⟨by show 2 ≤ sizeLine; decide, [x, y], .cons rx (.cons ry .nil), ⟨_, f3, rfl, _, rfl⟩⟩
    · by_cases hb2 : b = S
      · rw [hb2] at q ⊢
        rw [eS] at q
        cases q
        refine ⟨by rw [List.length_map, hl]; simpa using hz, acc.toList, c, by rw [hacc]; exact LiI.vals_refs as, ?_⟩
        rw [Array.toArray_toList]
        exact hS
      · rw [off b hb hb2] at q
        exact (I.hok b u q).stay (fun d v _ y => hk d v y) (fun d y => kp d _ y) fun d xs y => kp d _ y
/-- list(zip(e, e2)) -/
theorem pe_listZip {e e2 : Expr} {ta : TA} {p p2 pos pos2 : Pos} (hc : X.calm = true) (hg : Gl X "list") (hm : X.mg "list" = none) (hv : bootBuiltins "list" = some (.type "list")) (hgz : Gl X "zip") (hmz : X.mg "zip" = none) (ha : PA X [e, e2] ta)
    (hs : starEach [e, e2] X.env = (false, eval e X.env) :: starEach [e2] X.env) (hpl : (backTo pos2 (starEach [e2] X.env)).any (·.1) = false)
    (hs2 : starEach [.Call (.Name "zip" p2) [e, e2] [] pos2] X.env = (false, eval (.Call (.Name "zip" p2) [e, e2] [] pos2) X.env) :: starEach [] X.env := by rfl) :
    PE X (.Call (.Name "list" p) [.Call (.Name "zip" p2) [e, e2] [] pos2] [] pos) (tLz X.K ta) := by
  refine ⟨fun pins s σ H Q I hq => ?_⟩
  refine wpAny_Call_Name_kw (ld_blt I hg hm hv ?_)
  refine PyProof.Rows.callWith_type1 ?_ hs2 rfl
  rw [hs2]
  show wpAny _ _ (spliced ((false, eval (.Call (.Name "zip" p2) [e, e2] [] pos2) X.env) :: backTo pos (starEach [] X.env))) _ _ s
  refine Calls.spliced_cons ?_
  refine wpAny_Call_Name_kw (ld_blt I hgz hmz PyProof.Rows.boot_zip ?_)
  refine PyProof.Rows.callWith_type1 (thn (ha.run pos2 pins s σ H _ I hq) fun us s1 ⟨vs, H1, I1, r1, a, b, xs, ys, ex, hqx, hqy, q⟩ => ?_) hs hpl
  subst ex
  cases r1 with
  | cons r rr =>
    cases rr with
    | cons r' rr =>
      cases rr
      cases r
      cases r'
      obtain ⟨its, rv, p1, z1⟩ := I1.tuple hqx
      obtain ⟨its2, rv2, p2, z2⟩ := I1.tuple hqy
      obtain ⟨o1, ho1, _⟩ := id p1
      obtain ⟨o2, ho2, _⟩ := id p2
      have la := Heap.lt_size ho1
      have lb := Heap.lt_size ho2
      refine call_zipT (show s1.heap.IsTuple a its.toArray from p1) (show s1.heap.IsTuple b its2.toArray from p2) fun h' hz hTI hTO h1 h2 hsz hk => ?_
      have len1 := rv.length
      have len2 := rv2.length
      refine Calls.spliced_nil ?_
      have D := PySem.W.ktu_apart s1.heap.objs.size a b la lb
      have hn : min its.toArray.size its2.toArray.size ≤ sizeLine := by simp; omega
      have P : SAp (s1.heap.objs.size + 4) (s1.heap.objs.size + 2) (s1.heap.objs.size + 3) s1.heap.objs.size (s1.heap.objs.size + 1) a b h'.objs.size := by
        rw [hsz]
        exact ⟨Nat.ne_of_lt (by omega), Nat.ne_of_lt (by omega), Nat.ne_of_lt (by omega), Nat.ne_of_lt (by omega), Nat.ne_of_lt (by omega), Nat.ne_of_lt (Nat.lt_add_right 5 la), Nat.ne_of_lt (Nat.lt_add_right 5 lb)⟩
      refine zs_call (s := { s1 with heap := h' }) (I1.ok.hd hc) D P (by show _ < h'.objs.size ∧ _ < h'.objs.size ∧ _ < h'.objs.size ∧ _ < h'.objs.size; rw [hsz]; refine ⟨?_, ?_, ?_, ?_⟩ <;> omega) hn
        ⟨hTI, h1, h2, Heap.IsTuple.at (show s1.heap.IsTuple a its.toArray from p1) fun o e => hk _ o e, Heap.IsTuple.at (show s1.heap.IsTuple b its2.toArray from p2) fun o e => hk _ o e, .inl ⟨hz, _, _, hTO⟩⟩ hz fun h'' tk acc c as hk2 hS hl hG hacc => ?_
      have hkk : ∀ b o, s1.heap.get? b = some o → h''.get? b = some o := fun b o e => by
        have hb := Heap.lt_size e
        exact hk2 b o (Nat.ne_of_lt (Nat.lt_add_right 4 hb)) (Nat.ne_of_lt (Nat.lt_add_right 3 hb)) (Nat.ne_of_lt hb) (Nat.ne_of_lt (Nat.lt_add_right 1 hb)) (hk b o e)
      obtain ⟨H', k1, k2, k3, k4, k5, k6, J⟩ := laid (tk := tk) (S := h'.objs.size) I1 (by simp at hn; simpa using hn) rv rv2 (by rw [hsz]; omega) hkk hS hl hG hacc
      exact ⟨.ref _, H', J, rfl, q H' _ as k1 k2 k3 k4 k5 k6⟩
end
end QZ
end
section
set_option Elab.async false
set_option linter.all false
set_option maxRecDepth 100000
namespace Q
open PySem PySem.Spec PyProof.Rows L2
/-! list(zip(a, b)) of two tuples -/
theorem Mx.tupI {w : Wd} {F : List Addr} {H : Hp} {d : D} {xs : List D} {v : V} (h : Mx w F H d v) (e : Q.tupI d = some xs) : ∃ p vs, v = .ref p ∧ SqT w.K H p vs ∧ Prs w.K F H xs vs := by
  cases d with
  | tup ys => cases e; obtain ⟨p, vs, a, b, c⟩ := h.tup; exact ⟨p, vs, a, SqT.of b, c⟩
  | ktup ys => cases e; obtain ⟨p, vs, a, b, c⟩ := h.ktup; exact ⟨p, vs, a, .inr b, c⟩
  | _ => simp [Q.tupI] at e
theorem zip_prs {w : Wd} {F : List Addr} {H' : Hp} : ∀ {xs ys : List D} {us vs : List V} {ts : List Addr}, Prs w.K F H' xs us → Prs w.K F H' ys vs → Paired (fun (t : Addr) (q : V × V) => H' t = some (.tup [q.1, q.2])) ts (us.zip vs) →
    Prs w.K F H' ((xs.zip ys).map fun p => .tup [p.1, p.2]) (ts.map V.ref)
  | _, _, _, _, _, .nil, _, h => by cases h; exact .nil
  | _, _, _, _, _, .cons _ _, .nil, h => by cases h; exact .nil
  | _, _, _, _, _, .cons a p, .cons b q, h => by
    cases h with
    | cons h t => exact .cons (.tup h (.cons a (.cons b .nil))) (zip_prs p q t)
section
variable {w : Wd} {X : Cx} {N : List Str} {sc : Scope} {W : WX} {L : Nat} {cf : Nat → List D → FR} {n : Nm}
theorem s_lz (E : EnvOk w cf L X.prog X.w X.mg X.base) (h : XC w X N sc W L) {es : Exs} {e : Expr} (hc : ckE n N sc (.lz es) e = true) (ha : ∀ l, ckX n N sc es l = true → PA X l (tAs w W (evA w.n.sg cf es))) :
    PE X e (tE w W (evE w.n.sg cf (.lz es))) := by
  unfold ckE at hc
  split at hc
  · rename_i x p y p2 l1 l2 pos2 pos
    simp only [Bool.and_eq_true, decide_eq_true_eq] at hc
    obtain ⟨⟨⟨⟨rfl, rfl⟩, hg⟩, hg2⟩, hl⟩ := hc
    obtain ⟨g1, _, _⟩ := gl_of h hg
    obtain ⟨g2, _, _⟩ := gl_of h hg2
    have ns := nsX hl
    simp only [allNS, Bool.and_eq_true] at ns
    have s1 := star_cons (es := [l2]) (env := X.env) ns.1
    have s2 := star_none (env := X.env) (pos := pos2) (es := [l2]) (by simp only [allNS, Bool.and_eq_true]; exact ns.2)
    refine PE.weak (QZ.pe_listZip h.calm g1 (E.bi _ (by simp)) (by decide +kernel) g2 (E.bi _ (by simp)) (ha _ hl) s1 s2) fun σ H Q ⟨F, S, T, A, r, q⟩ => ?_
    simp only [evE] at q
    refine ⟨F, S, T, A, r, q.first fun as S1 vs U H1 A1 e1 hv r1 s1 q1 => ?_⟩
    rw [h.hK]
    have ms := fun ds ed => argsMs (ds := ds) rfl r1 (fun _ h => h) hv ed
    split at q1
    · rename_i d e ed
      split at q1
      · rename_i xs ys ex ey
        obtain ⟨v, u, rfl, m1, m2⟩ := (ms _ ed).two
        obtain ⟨a, us, rfl, ha1, hp1⟩ := m1.tupI ex
        obtain ⟨b, vs', rfl, ha2, hp2⟩ := m2.tupI ey
        refine ⟨a, b, us, vs', rfl, ha1, ha2, fun H' p ts k1 k2 k3 k4 k5 k6 => ?_⟩
        refine q1.fresh r1 s1 k1 (B := [p]) (fun c hc => by rw [List.mem_singleton.mp hc]; exact k2) (by simp) (.lst k5 (zip_prs (hp1.keepE k1) (hp2.keepE k1) k6))
      · exact q1.elim
    · exact q1.elim
  · cases hc
end
end Q
end
section
set_option Elab.async false
set_option linter.all false
set_option maxRecDepth 100000
namespace Q
open PySem PySem.Spec PyProof.Rows L2
/-! a list is frozen for good -/
def tFrz (t : TE) : TE := fun σ H Q => t σ H fun v H' => ∃ a u, v = .ref a ∧ H' a = some u ∧ Mut (some u) ∧ ∀ od, Q v (upd H' a (.frz od u))
theorem pe_frz {X : Cx} {e : Expr} {t : TE} (h : PE X e t) : PE X e (tFrz t) := by
  refine ⟨fun pins s σ H Q I hw => ?_⟩
  refine thn (h.run pins s σ _ _ I hw) fun v s1 ⟨x, H1, I2, r, q⟩ => ?_
  obtain ⟨a, u, rfl, hd, mu, q⟩ := q
  obtain ⟨od, I3⟩ := I2.lock hd mu
  exact ⟨_, _, I3, r, q od⟩
section
variable {w : Wd} {X : Cx} {N : List Str} {sc : Scope} {W : WX} {L : Nat} {cf : Nat → List D → FR} {n : Nm}
theorem Rl.freeze {F : List Addr} {H : Hp} {S : Sl} {σ : L2.St} {T : List (D × V)} {A : List Addr} {xs : List D} {v : V} (r : Rl w F H S σ ((.lst xs, v) :: T) A) :
    ∃ p vs, v = .ref p ∧ H p = some (.lst vs) ∧ ∀ od, ∃ A', Rl w F (upd H p (.frz od (.lst vs))) S σ ((.fls xs, .ref p) :: T) A' ∧ Step A H A' (upd H p (.frz od (.lst vs))) := by
  obtain ⟨B, oB, k⟩ := Rl.frame2 (U := [(.lst xs, v)]) r
  have mB : Mr w F H (.lst xs) v B := by
    cases oB.ml with
    | cons m t => cases t; rw [List.append_nil]; exact m
  cases mB with
  | pr m => cases m
  | @lst p _ vs h1 q1 =>
    refine ⟨p, vs, rfl, h1, fun od => ?_⟩
    have t1 : ∀ ws, HO.lst vs ≠ .tup ws := by intro ws z; cases z
    have t2 : ∀ ob x, HO.lst vs ≠ .frz ob x := by intro ob x z; cases z
    have pF : p ∉ F := fun z => by obtain ⟨ob, u, e⟩ := oB.fr p z; rw [h1] at e; cases e
    have m : Ml w F (upd H p (.frz od (.lst vs))) [(.fls xs, .ref p)] [] := .cons (.pr (.fls (.inl ⟨pF, od, upd_same⟩) (prs_upd h1 t1 t2 q1))) .nil
    exact k _ _ _ ⟨m, List.nodup_nil, fr_upd oB.fr h1 t2⟩ ((step_upd h1 t1 (by intro _ _ _ z; cases z) (by intro _ z; cases z) t2).trans (Step.sub fun b hb => by simp at hb))
theorem s_frz {a : Ex} {e : Expr} (ha : PE X e (tE w W (evE w.n.sg cf a))) : PE X e (tE w W fun S => (evE w.n.sg cf a S).bind frzR) := by
  refine PE.weak (pe_frz ha) fun σ H Q ⟨F, S, T, A, r, q⟩ => ⟨F, S, T, A, r, q.first fun d S1 v U H1 A1 e1 hv r1 s1 q1 => ?_⟩
  obtain rfl : U = [(d, v)] := hv
  cases d <;> (try exact q1.elim)
  rename_i xs
  obtain ⟨p, vs, rfl, h1, k⟩ := Rl.freeze (T := T) r1
  refine ⟨p, _, rfl, h1, trivial, fun od => ?_⟩
  obtain ⟨A2, r2, s2⟩ := k od
  exact q1 _ [(.fls xs, .ref p)] _ A2 rfl r2 (s1.trans s2)
end
end Q
end
section
set_option Elab.async false
set_option linter.all false
set_option maxRecDepth 100000
namespace Q
open PySem PySem.Spec PyProof.Rows L2
/-! methods that read: str.index -/
theorem ab_plain {r : Expr} {m : Str} {env : Env} (h : notCall r = true) : attributeBase r m env (eval r env) = eval r env := by
  cases r <;> first | rfl | cases h
def rSidx (x : V) (xs : List V) (H : Hp) (Q : VK) : Prop := ∃ a b i rest, x = .str a ∧ xs = [.str b] ∧ Builtin.Str.occurrences a b 0 a.length 1 = i :: rest ∧ Q (.int (i : Nat)) H
def rJoin (K : PySem.W.Frag) (x : V) (xs : List V) (H : Hp) (Q : VK) : Prop := ∃ a p, ∃ ys : List Str, x = .str a ∧ xs = [.ref p] ∧ (SqL K H p (ys.map V.str) ∨ SqT K H p (ys.map V.str)) ∧
    (ys.map (·.length)).sum + ys.length * a.length ≤ 16777216 ∧ Q (.str (Txt.join a ys)) H
def rSplit (x : V) (xs : List V) (H : Hp) (Q : VK) : Prop := ∃ a b, x = .str a ∧ xs = [.str b] ∧ (b.length == 0) = false ∧ a.length + 2 ≤ sizeLine ∧ rNewStrs (Txt.split a b) H Q
theorem strs_v {K : PySem.W.Frag} {F : List Addr} {H : Hp} : ∀ {xs : List D} {ns : List Str} {vs : List V}, Prs K F H xs vs → strsOf xs = some ns → vs = ns.map V.str
  | _, _, _, .nil, e => by cases e; rfl
  | x :: xs, ns, _, .cons h q, e => by
    cases h <;> simp only [strsOf] at e <;> try (cases e; done)
    obtain ⟨ns', e1, e2⟩ := Option.map_eq_some_iff.mp e
    subst e2
    rw [strs_v q e1]
    rfl
theorem strs_prs {K : PySem.W.Frag} {F : List Addr} {H : Hp} : ∀ ys : List Str, Prs K F H (ys.map D.str) (ys.map V.str)
  | [] => .nil
  | y :: ys => .cons (.str y) (strs_prs ys)
/-- by what shows whose method it is -/
theorem pe_bmG {X : Cx} {o e : Expr} {es : List Expr} {to : TE} {t : TA} {name : Str} {apos cpos : Pos} {T id : String} {r : V → List V → Hp → VK → Prop} {Ty : V → Hp → Prop}
    (hTy : ∀ (pins : List (Addr × Obj)) (σ : L2.St) (H : Hp) (s : Shared) (x : V) (v : Value), Inv X pins σ H s → RelV x v → Ty x H → s.TypeIs v T ∧ ∀ a, v = .ref a → ∃ ob, s.heap.get? a = some ob ∧ ob.dict = none)
    (pa : PlainAttrs T) (slot : Slot T name id) (hty : typeOf (.builtin id) = pure (.type "method_descriptor")) (hm : MtR X id r) (ho : PE X o to) (ha : PA X (e :: es) t)
    (hbase : attributeBase o name X.env (eval o X.env) = eval o X.env)
    (hfew : ((backTo cpos (starEach (e :: es) X.env)).all (fun x => !x.1) && (backToKw cpos (keywordEach [] X.env)).all (fun x => x.1.isSome)
      && decide ((e :: es).length + ([] : List Keyword).length + (if ([] : List Keyword).isEmpty then 0 else 1) < 30)) = true)
    (hline : (apos.endLine == cpos.line) = true) (hs : starEach (e :: es) X.env = (false, eval e X.env) :: starEach es X.env) (hplain : (backTo cpos (starEach es X.env)).any (·.1) = false) :
    PE X (.Call (.Attribute o name apos) (e :: es) [] cpos) (fun σ H Q => to σ H fun x H1 => Ty x H1 ∧ t σ H1 fun xs H2 => r x xs H2 Q) := by
  refine ⟨fun pins s σ H Q I h => ?_⟩
  refine wpAny_Call_method_late hbase hfew hline rfl (thn (ho.run pins s σ H _ I h) fun v s1 ⟨x, H1, I1, r1, ty, q1⟩ => ?_)
  obtain ⟨h1, h2⟩ := hTy _ _ _ _ _ _ I1 r1 ty
  refine ⟨T, id, pa, slot, hty, h1, h2, ?_⟩
  have hA := ha.run cpos pins s1 σ H1 _ I1 q1
  rw [hs] at hA ⊢
  refine Calls.callWith_builtin (by show (false || (backTo cpos (starEach es X.env)).any (·.1)) = false; rw [hplain] <;> rfl) (Calls.evalArgs_plain ?_)
  exact thn hA fun us s2 ⟨vs, H2, I2, r2, q2⟩ => hm pins s2 σ H2 x vs v us Q I2 r1 r2 q2
def tyB (K : PySem.W.Frag) : Bm → V → Hp → Prop
  | _, x, _ => ∃ a, x = .str a
def rBm (K : PySem.W.Frag) : Bm → V → List V → Hp → VK → Prop
  | .sidx => rSidx
  | .join => rJoin K
  | .split => rSplit
section
variable {w : Wd} {X : Cx} {N : List Str} {sc : Scope} {W : WX} {L : Nat} {cf : Nat → List D → FR} {n : Nm}
theorem bm_pe {o e : Expr} {to : TE} {t : TA} {apos cpos : Pos} (b : Bm) (ho : PE X o to) (ha : PA X [e] t) (ns : allNS [e] = true) (hbase : attributeBase o (bmN b) X.env (eval o X.env) = eval o X.env) (hline : (apos.endLine == cpos.line) = true) :
    PE X (.Call (.Attribute o (bmN b) apos) [e] [] cpos) (fun σ H Q => to σ H fun x H1 => tyB X.K b x H1 ∧ t σ H1 fun xs H2 => rBm X.K b x xs H2 Q) := by
  have ns' := ns
  simp only [allNS, Bool.and_eq_true] at ns'
  have s1 := star_cons (es := []) (env := X.env) ns'.1
  have s2 := star_none (env := X.env) (pos := cpos) (es := []) (by rfl)
  have hf : ((backTo cpos (starEach [e] X.env)).all (fun x => !x.1) && (backToKw cpos (keywordEach [] X.env)).all (fun x => x.1.isSome)
    && decide ([e].length + ([] : List Keyword).length + (if ([] : List Keyword).isEmpty then 0 else 1) < 30)) = true := by
    rw [star_all ns]; rfl
  have hT : ∀ (b : Bm) (pins : List (Addr × Obj)) (σ : L2.St) (H : Hp) (s : Shared) (x : V) (v : Value), Inv X pins σ H s → RelV x v → tyB X.K b x H → s.TypeIs v "str" ∧ ∀ a, v = .ref a → ∃ ob, s.heap.get? a = some ob ∧ ob.dict = none := fun b pins σ H s x v I rx ty => by
    obtain ⟨a, rfl⟩ : ∃ a, x = .str a := by cases b <;> exact ty
    obtain ⟨t, rfl⟩ := rx
    exact ⟨typeIs_str s a t, fun _ e => nomatch e⟩
  cases b with
  | sidx => exact pe_bmG (Ty := tyB X.K .sidx) (hT .sidx) PySem.F.plainAttrs_str PySem.F.slot_str_index PySem.F.type_str_index mt_sindex ho ha hbase hf hline s1 s2
  | join => exact pe_bmG (Ty := tyB X.K .join) (hT .join) PySem.F.plainAttrs_str PySem.F.slot_str_join PySem.F.type_str_join mt_join ho ha hbase hf hline s1 s2
  | split => exact pe_bmG (Ty := tyB X.K .split) (hT .split) PySem.F.plainAttrs_str PySem.F.slot_str_split PySem.F.type_str_split mt_split ho ha hbase hf hline s1 s2
theorem s_bm (h : XC w X N sc W L) {b : Bm} {o : Ex} {es : Exs} {e : Expr} (hc : ckE n N sc (.bm b o es) e = true)
    (ho : ∀ l, ckE n N sc o l = true → PE X l (tAr w W fun S => argOf w.n.sg S o (evE w.n.sg cf o S))) (ha : ∀ l, ckX n N sc es l = true → PA X l (tAs w W (evA w.n.sg cf es))) :
    PE X e (tE w W (evE w.n.sg cf (.bm b o es))) := by
  unfold ckE at hc
  split at hc
  · rename_i r0 mm ap l1 cp
    simp only [Bool.and_eq_true, decide_eq_true_eq] at hc
    obtain ⟨⟨⟨⟨rfl, hline⟩, hnc⟩, hr0⟩, hl⟩ := hc
    refine PE.weak (bm_pe b (ho r0 hr0) (ha _ hl) (nsX hl) (ab_plain hnc) hline) fun σ H Q ⟨F, S, T, A, r, q⟩ => ?_
    simp only [evE] at q
    rw [h.hK]
    refine ⟨F, S, T, A, r, q.first fun x S1 v U H1 A1 e1 hv r1 s1 q1 => ?_⟩
    split at q1
    · rename_i hb
      refine ⟨?_, F, S1, U ++ T, A1, r1, EV.next s1 q1 fun as S2 vs U2 H2 A2 e2 hv2 r2 s2 s2' q2 => ?_⟩
      · have mx := fun d ed => argMx (d := d) rfl r1 (fun _ h => h) hv ed
        unfold bmOf at hb
        cases ea : argD w.n.sg S1 x with
        | none => rw [ea] at hb; cases hb
        | some d =>
          rw [ea] at hb
          obtain ⟨a, rfl⟩ : ∃ a, d = .str a := by cases b <;> cases d <;> first | exact ⟨_, rfl⟩ | cases hb
          cases b <;> exact ⟨_, (mx _ ea).str⟩
      · split at q2
        · rename_i d ds ed eds
          have r2' : Rl w F H2 S2 σ ((U2 ++ U) ++ T) A2 := by rw [List.append_assoc]; exact r2
          have md := argMx rfl r2' (fun x hx => List.mem_append_right _ hx) (hv.step s2') ed
          have ms := argsMs rfl r2' (fun x hx => List.mem_append_left _ hx) hv2 eds
          cases eo : opBm b (d :: ds) with
          | none => simp only [eo] at q2; exact q2.elim
          | some z =>
            simp only [eo] at q2
            cases b with
            | sidx =>
              cases d with
              | str a =>
                match ds, eo, ms with
                | [.str b'], eo, ms =>
                  obtain ⟨u, rfl, mk⟩ := ms.one
                  have hk := mk.str
                  subst hk
                  have hv' := md.str
                  subst hv'
                  unfold opBm at eo
                  simp only at eo
                  split at eo
                  · rename_i i rest ho'
                    cases eo
                    exact ⟨a, b', i, rest, rfl, rfl, ho', q2.pr r2' s2 (.int _)⟩
                  · cases eo
              | _ => cases eo
            | join =>
              cases d with
              | str a =>
                match ds, eo, ms with
                | [d2], eo, ms =>
                  obtain ⟨u, rfl, mk⟩ := ms.one
                  have hv' := md.str
                  subst hv'
                  unfold opBm at eo
                  simp only at eo
                  cases hi : d2.items.bind strsOf with
                  | none => rw [hi] at eo; cases eo
                  | some ys =>
                    rw [hi] at eo
                    simp only at eo
                    split at eo
                    · rename_i hz
                      cases eo
                      obtain ⟨xs, hx, hs⟩ := Option.bind_eq_some_iff.mp hi
                      cases hl : d2.litems with
                      | some xs2 =>
                        have := litems_items hl
                        rw [hx] at this; cases this
                        obtain ⟨p, vs, rfl, hq, hp⟩ := mk.litems hl
                        have ev := strs_v hp hs
                        subst ev
                        exact ⟨a, p, ys, rfl, rfl, .inl hq, hz, q2.pr r2' s2 (.str _)⟩
                      | none =>
                        obtain ⟨p, vs, rfl, hq, hp⟩ := SqT.ofItems mk hx hl
                        have ev := strs_v hp hs
                        subst ev
                        exact ⟨a, p, ys, rfl, rfl, .inr hq, hz, q2.pr r2' s2 (.str _)⟩
                    · cases eo
              | _ => cases eo
            | split =>
              cases d with
              | str a =>
                match ds, eo, ms with
                | [.str b'], eo, ms =>
                  obtain ⟨u, rfl, mk⟩ := ms.one
                  have hk := mk.str
                  subst hk
                  have hv' := md.str
                  subst hv'
                  unfold opBm at eo
                  simp only at eo
                  split at eo
                  · rename_i hz
                    cases eo
                    refine ⟨a, b', rfl, rfl, by simpa using hz.1, hz.2, fun p np => ?_⟩
                    refine q2.fresh r2' s2 (fun c o h => by rw [upd_ne (ne_of_none h np)]; exact h) (B := [p]) (fun c hc => by rw [List.mem_singleton.mp hc]; exact np) (by simp) (.lst upd_same (strs_prs _))
                  · cases eo
              | _ => cases eo
        · exact q2.elim
    · exact q1.elim
  · cases hc
end
end Q
end
section
set_option Elab.async false
set_option linter.all false
set_option maxRecDepth 100000
namespace Q
open PySem PySem.Spec PyProof.Rows L2
/-! a checked text does what its core does -/
def plainE : Expr → Bool
  | .UnaryOp .Not _ _ => false
  | .BoolOp .. => false
  | .IfExp .. => false
  | .Compare .. => false
  | _ => true
theorem plain_t {e : Expr} {env : Env} (h : plainE e = true) (whole : Sem Value) : isTrue e env whole = (do let v ← whole; standAt e.pos; holding [v] (truthy v)) := by
  cases e <;> first | rfl | (cases h; done) | skip
  rename_i op x p
  cases op <;> first | rfl | (cases h; done)
section
variable {X : Cx}
theorem one_v {op : PySem.BoolOp} {r : Expr} {pos : Pos} {t : TE} (h : PE X r t) : PE X (.BoolOp op [r] pos) t := ⟨fun pins s σ H Q I q => by
  have := h.run pins s σ H Q I q
  exact this⟩
theorem one_t {op : PySem.BoolOp} {r : Expr} {pos : Pos} {t : TT} (h : PT X r t) : PT X (.BoolOp op [r] pos) t := ⟨fun pins s σ H Q I q => by
  have h1 := h.run pins s σ H Q I q
  show wpAny _ _ (allTrue op [r] X.env) _ _ _
  unfold allTrue
  refine wpAny_bind (thn h1 fun b s1 hb => ?_)
  cases op <;> cases b <;> exact wpAny_pure hb⟩
end
section
variable {w : Wd} {X : Cx} {N : List Str} {sc : Scope} {W : WX} {L : Nat} {cf : Nat → List D → FR} {n : Nm}
theorem xc_blk (h : XC w X N sc W L) (s : Shared) (H : Hp) (scope : Scope) (cl : List (Str × Addr)) (C : Addr) (fp : List Addr) : XC w (X.blk s H scope (compEnvC scope cl C X.env) fp) N (relS scope sc) WF L where
  hN := h.hN
  nd := h.nd
  hsc := by show relS scope X.env.scope = _; rw [h.hsc]
  hK := h.hK
  calm := h.calm
  room := h.room
  gd := h.gd
  tk := fun u s' ⟨_, _, _, _, _, _, _, _, _, _, _, _, _, _, _, _, z⟩ => z.elim
theorem loc_blk (h : XC w X N sc W L) {s : Shared} {H : Hp} {scope : Scope} {cl : List (Str × Addr)} {C : Addr} {fp : List Addr} : ∀ {ts : List Nat}, blkAll N scope (relS scope sc) ts = true → LocOk (X.blk s H scope (compEnvC scope cl C X.env) fp) N ts
  | [], _ => fun i hi => by simp at hi
  | j :: r, hb => fun i hi x hx => by
    simp only [blkAll, Bool.and_eq_true] at hb
    rcases List.mem_cons.mp hi with rfl | hi
    · have e : (X.blk s H scope (compEnvC scope cl C X.env) fp).env.scope = relS scope sc := (xc_blk h s H scope cl C fp).hsc
      rw [hx] at hb
      simp only [Bool.or_eq_true, Bool.and_eq_true, decide_eq_true_eq] at hb
      unfold L2.Loc
      rw [e]
      rcases hb.1 with z | ⟨z1, z2⟩
      · exact ⟨.inl z, .inr z⟩
      · refine ⟨.inr z1, .inl ?_⟩
        show (scope.names.lookup x == some .cell) = true
        rw [z2]; rfl
    · exact loc_blk h hb.2 i hi x hx
theorem loc_fn (h : XC w X N sc W L) (hf : ∀ x, X.fn x = true) : ∀ {ts : List Nat}, locAll N sc ts = true → LocOk X N ts
  | [], _ => fun i hi => by simp at hi
  | j :: r, hb => fun i hi x hx => by
    simp only [locAll, Bool.and_eq_true] at hb
    rcases List.mem_cons.mp hi with rfl | hi
    · rw [hx] at hb
      exact ⟨loc_of h hb.1, .inl (hf x)⟩
    · exact loc_fn h hf hb.2 i hi x hx
theorem notSet_fold {it : Expr} {env : Env} (h : notSet it = true) : ∀ x, foldedSetIterable it env x = pure x := by
  intro x
  cases it <;> first | (cases h; done) | rfl
/-- what soundness says of an expression -/
def SE (w : Wd) (cf : Nat → List D → FR) (N : List Str) (L : Nat) (ex : Ex) : Prop := ∀ (X : Cx) (sc : Scope) (W : WX) (e : Expr), XC w X N sc W L → EnvOk w cf L X.prog X.w X.mg X.base → ckE w.n N sc ex e = true →
  PE X e (tE w W (evE w.n.sg cf ex)) ∧ (tstX ex = true → PT X e (tT w W (evE w.n.sg cf ex)))
def SX (w : Wd) (cf : Nat → List D → FR) (N : List Str) (L : Nat) (es : Exs) : Prop := ∀ (X : Cx) (sc : Scope) (W : WX) (ls : List Expr), XC w X N sc W L → EnvOk w cf L X.prog X.w X.mg X.base → ckX w.n N sc es ls = true →
  PA X ls (tXs w W (evX w.n.sg cf es)) ∧ PA X ls (tAs w W (evA w.n.sg cf es))
/-- the parts of a comprehension -/
theorem comp_parts {ts own : List Nat} {k : IK} {es : Exs} {c e : Ex} {v : Expr} (ie : ∀ e', es = .cons e' .nil → SE w cf N L e') (ix : SX w cf N L es) (ic : SE w cf N L c) (iel : SE w cf N L e) (h : XC w X N sc W L) (E : EnvOk w cf L X.prog X.w X.mg X.base)
    (hc : ckE w.n N sc (.comp ts k es own c e) v = true) : ∃ elt tg it ifs scope pos, v = .ListComp elt [⟨tg, it, ifs, 0⟩] scope pos ∧ (∀ i ∈ ts, i ∈ own) ∧ PI X tg it (tI w W k (evA w.n.sg cf es)) ∧ BlkOk X.N X.env.scope scope (ownL N own) ∧
      (∀ (s : Shared) (H : Hp) (C : Addr) (cl : List (Str × Addr)) (fp : List Addr), PG (X.blk s H scope (compEnvC scope cl C X.env) fp) tg (gT w [] ts)) ∧
      (∀ (s : Shared) (H : Hp) (C : Addr) (cl : List (Str × Addr)) (fp : List Addr), PTs (X.blk s H scope (compEnvC scope cl C X.env) fp) ifs (tT w WF (evE w.n.sg cf c))) ∧
      (∀ (s : Shared) (H : Hp) (C : Addr) (cl : List (Str × Addr)) (fp : List Addr), PE (X.blk s H scope (compEnvC scope cl C X.env) fp) elt (tE w WF (evE w.n.sg cf e))) ∧ (∀ x, foldedSetIterable it X.env x = pure x) := by
  unfold ckE at hc
  split at hc
  · rename_i elt tg it ifs scope pos
    simp only [Bool.and_eq_true, decide_eq_true_eq] at hc
    obtain ⟨⟨⟨⟨⟨⟨⟨⟨⟨⟨h1, h2⟩, h3⟩, h4⟩, h5⟩, h6⟩, h7⟩, h8⟩, h8b⟩, h9⟩, h10⟩ := hc
    refine ⟨elt, tg, it, ifs, scope, pos, rfl, h2, ?_, ?_, fun s H C cl fp => ?_, fun s H C cl fp => ?_, fun s H C cl fp => ?_, notSet_fold h5⟩
    · exact s_it rfl h E h8 h8b h6 h7 (fun e' he l hl => sa_of rfl E h hl (ie e' he X sc W l h E hl).1) fun ls hl => (ix X sc W ls h E hl).2
    · rw [h.hN, h.hsc]; exact blkOk_by h1
    · exact pg_T (xc_blk h s H scope cl C fp) h4 (loc_blk h h3)
    · split at h9
      · refine ⟨fun pins s' σ H' Q I ⟨F, S, T, A, r, q⟩ => (pts_nil).run pins s' σ H' Q I ?_⟩
        simp only [evE, asT, R.bind] at q
        exact q true [] H' A ⟨rfl, rfl⟩ r .refl
      · rename_i t
        simp only [Bool.and_eq_true] at h9
        exact pts_one ((ic _ _ WF t (xc_blk h s H scope cl C fp) E h9.2).2 h9.1)
      · cases h9
    · exact (iel _ _ WF elt (xc_blk h s H scope cl C fp) E h10).1
  · cases hc
theorem own_snd {own : List Nat} : (ownL N own).map (·.2) = own := by
  unfold ownL
  rw [List.map_map]
  simp [Function.comp_def]
theorem comp_pe {ts own : List Nat} {k : IK} {es : Exs} {c e : Ex} {v : Expr} (ie : ∀ e', es = .cons e' .nil → SE w cf N L e') (ix : SX w cf N L es) (ic : SE w cf N L c) (iel : SE w cf N L e) (h : XC w X N sc W L) (E : EnvOk w cf L X.prog X.w X.mg X.base)
    (hc : ckE w.n N sc (.comp ts k es own c e) v = true) : PE X v (tE w W (evE w.n.sg cf (.comp ts k es own c e))) := by
  obtain ⟨elt, tg, it, ifs, scope, pos, rfl, h1, h2, h3, h4, h5, h6, h7⟩ := comp_parts ie ix ic iel h E hc
  have p := pe_lc (pos := pos) h.calm (by rw [h.hN]; exact h.nd) h2 h3 h4 h5 h6 h7
  rw [own_snd] at p
  refine PE.weak (PE.or p (pe_lock p)) fun σ H Q q => ?_
  rcases comp_lock q with q | ⟨d, u, hd, mu, q⟩
  · exact .inl (comp_core h1 q)
  · exact .inr ⟨d, u, hd, mu, fun od => comp_core h1 (q od)⟩
theorem comp_set {ts own : List Nat} {k : IK} {es : Exs} {c e : Ex} {v : Expr} {i : Nat} {x : Str} {px pos : Pos} (ie : ∀ e', es = .cons e' .nil → SE w cf N L e') (ix : SX w cf N L es) (ic : SE w cf N L c) (iel : SE w cf N L e) (h : XC w X N sc W L) (E : EnvOk w cf L X.prog X.w X.mg X.base)
    (hc : ckE w.n N sc (.comp ts k es own c e) v = true) (hi : N[i]? = some x) (hx : sc.names.lookup x = some .local) (hk : sc.kind = .function) (hs : ∀ elt gs s p, v = .ListComp elt gs s p → (px.line == p.line) = true ∧ (s.names.any fun (n, k) => n == x && (k == .local || k == .cell)) = false) :
    PS X (.Assign [.Name x px] v pos) (tSet w W i (evE w.n.sg cf (.comp ts k es own c e))) := by
  obtain ⟨elt, tg, it, ifs, scope, pos', rfl, h1, h2, h3, h4, h5, h6, h7⟩ := comp_parts ie ix ic iel h E hc
  obtain ⟨a1, a2⟩ := hs _ _ _ _ rfl
  have hx' : X.env.scope.names.lookup x = some .local := by rw [h.hsc]; exact hx
  have p := ps_setLc (pos := pos') (spos := pos) (py := px) h.calm (by rw [h.hN]; exact h.nd) (by rw [h.hN]; exact hi) hx' (sw_true (by rw [h.hsc]; exact hk) hx' a1 a2) h2 h3 h4 h5 h6 h7
  rw [own_snd] at p
  refine PS.weak (PS.or p (ps_lock p)) fun En σ H q => ?_
  rcases comp_lock q with q | ⟨d, u, hd, mu, q⟩
  · exact .inl (comp_core h1 q)
  · exact .inr ⟨d, u, hd, mu, fun od => comp_core h1 (q od)⟩
end
end Q
end
section
set_option Elab.async false
set_option linter.all false
set_option maxRecDepth 100000
namespace Q
open PySem PySem.Spec PyProof.Rows L2
section
variable {w : Wd} {cf : Nat → List D → FR} {N : List Str} {L : Nat}
theorem SE.ar {ex : Ex} (s : SE w cf N L ex) {X : Cx} {sc : Scope} {W : WX} (h : XC w X N sc W L) (E : EnvOk w cf L X.prog X.w X.mg X.base) : ∀ l, ckE w.n N sc ex l = true → PE X l (tAr w W fun S => argOf w.n.sg S ex (evE w.n.sg cf ex S)) :=
  fun l hl => sa_of rfl E h hl (s X sc W l h E hl).1
theorem SE.v {ex : Ex} (s : SE w cf N L ex) {X : Cx} {sc : Scope} {W : WX} (h : XC w X N sc W L) (E : EnvOk w cf L X.prog X.w X.mg X.base) : ∀ l, ckE w.n N sc ex l = true → PE X l (tE w W (evE w.n.sg cf ex)) :=
  fun l hl => (s X sc W l h E hl).1
theorem SX.a {es : Exs} (s : SX w cf N L es) {X : Cx} {sc : Scope} {W : WX} (h : XC w X N sc W L) (E : EnvOk w cf L X.prog X.w X.mg X.base) : ∀ l, ckX w.n N sc es l = true → PA X l (tAs w W (evA w.n.sg cf es)) :=
  fun l hl => (s X sc W l h E hl).2
theorem SX.x {es : Exs} (s : SX w cf N L es) {X : Cx} {sc : Scope} {W : WX} (h : XC w X N sc W L) (E : EnvOk w cf L X.prog X.w X.mg X.base) : ∀ l, ckX w.n N sc es l = true → PA X l (tXs w W (evX w.n.sg cf es)) :=
  fun l hl => (s X sc W l h E hl).1
/-- by its value alone -/
theorem SE.val {ex : Ex} (hp : ∀ n N sc e, ckE n N sc ex e = true → plainE e = true) (g : ∀ (X : Cx) (sc : Scope) (W : WX) (e : Expr), XC w X N sc W L → EnvOk w cf L X.prog X.w X.mg X.base → ckE w.n N sc ex e = true → PE X e (tE w W (evE w.n.sg cf ex))) : SE w cf N L ex :=
  fun X sc W e h E hc => ⟨g X sc W e h E hc, fun _ => t_val (g X sc W e h E hc) fun whole => plain_t (hp _ _ _ _ hc) whole⟩
theorem se_and {a b : Ex} (ia : SE w cf N L a) (ib : SE w cf N L b) : SE w cf N L (.and_ a b) := fun X sc W e h E hc => by
  unfold ckE at hc
  split at hc
  · rename_i l r p
    simp only [Bool.and_eq_true] at hc
    obtain ⟨a1, a2⟩ := ia X sc W l h E hc.1
    obtain ⟨b1, b2⟩ := ib X sc W r h E hc.2
    refine ⟨?_, fun ht => ?_⟩
    · simp only [evE]
      exact and_v (pos := p) a1 (one_v (pos := p) b1)
    · simp only [tstX, Bool.and_eq_true] at ht
      simp only [evE]
      exact and_t (pos := p) (a2 ht.1) (one_t (pos := p) (b2 ht.2))
  · rename_i l r t ts p
    simp only [Bool.and_eq_true] at hc
    obtain ⟨a1, a2⟩ := ia X sc W l h E hc.1
    obtain ⟨b1, b2⟩ := ib X sc W _ h E hc.2
    refine ⟨?_, fun ht => ?_⟩
    · simp only [evE]
      exact and_v (pos := p) a1 b1
    · simp only [tstX, Bool.and_eq_true] at ht
      simp only [evE]
      exact and_t (pos := p) (a2 ht.1) (b2 ht.2)
  · cases hc
theorem se_or {a b : Ex} (ia : SE w cf N L a) (ib : SE w cf N L b) : SE w cf N L (.or_ a b) := fun X sc W e h E hc => by
  unfold ckE at hc
  split at hc
  · rename_i l r p
    simp only [Bool.and_eq_true] at hc
    obtain ⟨a1, a2⟩ := ia X sc W l h E hc.1
    obtain ⟨b1, b2⟩ := ib X sc W r h E hc.2
    refine ⟨?_, fun ht => ?_⟩
    · simp only [evE]
      exact or_v (pos := p) a1 (one_v (pos := p) b1)
    · simp only [tstX, Bool.and_eq_true] at ht
      simp only [evE]
      exact or_t (pos := p) (a2 ht.1) (one_t (pos := p) (b2 ht.2))
  · rename_i l r t ts p
    simp only [Bool.and_eq_true] at hc
    obtain ⟨a1, a2⟩ := ia X sc W l h E hc.1
    obtain ⟨b1, b2⟩ := ib X sc W _ h E hc.2
    refine ⟨?_, fun ht => ?_⟩
    · simp only [evE]
      exact or_v (pos := p) a1 b1
    · simp only [tstX, Bool.and_eq_true] at ht
      simp only [evE]
      exact or_t (pos := p) (a2 ht.1) (b2 ht.2)
  · cases hc
theorem se_not {a : Ex} (ia : SE w cf N L a) : SE w cf N L (.not_ a) := fun X sc W e h E hc => by
  unfold ckE at hc
  split at hc
  · rename_i l p
    obtain ⟨a1, a2⟩ := ia X sc W l h E hc
    refine ⟨?_, fun ht => ?_⟩
    · simp only [evE]
      exact not_v (pos := p) a1
    · simp only [tstX] at ht
      simp only [evE]
      exact not_t (pos := p) (a2 ht)
  · cases hc
theorem se_ife {c a b : Ex} (ic : SE w cf N L c) (ia : SE w cf N L a) (ib : SE w cf N L b) : SE w cf N L (.ife c a b) := fun X sc W e h E hc => by
  unfold ckE at hc
  split at hc
  · rename_i t l r p
    simp only [Bool.and_eq_true] at hc
    obtain ⟨⟨⟨h1, h2⟩, h3⟩, h4⟩ := hc
    refine ⟨?_, fun ht => by cases ht⟩
    simp only [evE]
    exact ife_v (pos := p) ((ic X sc W t h E h2).2 h1) (ia X sc W l h E h3).1 (ib X sc W r h E h4).1
  · cases hc
mutual
theorem snd_E : ∀ ex : Ex, SE w cf N L ex
  | .var i => SE.val (fun n N sc e hc => by unfold ckE at hc; split at hc <;> first | rfl | cases hc) fun X sc W e h E hc => s_var h hc
  | .cst d => SE.val (fun n N sc e hc => by unfold ckE at hc; split at hc <;> first | rfl | cases hc) fun X sc W e h E hc => s_cst hc
  | .glb g => SE.val (fun n N sc e hc => by unfold ckE at hc; split at hc <;> first | rfl | cases hc) fun X sc W e h E hc => s_glb rfl E h hc
  | .nop => fun X sc W e h E hc => by simp [ckE] at hc
  | .bin o a b => SE.val (fun n N sc e hc => by unfold ckE at hc; split at hc <;> first | rfl | cases hc) fun X sc W e h E hc => s_bin rfl h hc ((snd_E a).ar h E) ((snd_E b).ar h E)
  | .un o a => SE.val (fun n N sc e hc => by cases o; unfold ckE at hc; split at hc <;> first | rfl | cases hc) fun X sc W e h E hc => s_un hc ((snd_E a).v h E)
  | .cmp o a b => fun X sc W e h E hc => let ⟨p, q⟩ := s_cmp rfl h hc ((snd_E a).ar h E) ((snd_E b).ar h E); ⟨p, fun _ => q⟩
  | .frz a => fun X sc W e h E hc => by
      have hc' : ckE w.n N sc a e = true := by
        unfold ckE at hc
        simp only [Bool.and_eq_true] at hc
        exact hc.2
      refine ⟨?_, fun ht => by cases ht⟩
      simp only [evE]
      exact s_frz (snd_E a X sc W e h E hc').1
  | .lz es => SE.val (fun n N sc e hc => by unfold ckE at hc; split at hc <;> first | rfl | cases hc) fun X sc W e h E hc => s_lz E h hc ((snd_X es).a h E)
  | .inc a ls => fun X sc W e h E hc => let ⟨p, q⟩ := s_inc rfl h hc ((snd_E a).ar h E); ⟨p, fun _ => q⟩
  | .chain o o2 a b c => fun X sc W e h E hc => let ⟨p, q⟩ := s_chain h hc ((snd_E a).v h E) ((snd_E b).v h E) ((snd_E c).v h E); ⟨p, fun _ => q⟩
  | .and_ a b => se_and (snd_E a) (snd_E b)
  | .or_ a b => se_or (snd_E a) (snd_E b)
  | .not_ a => se_not (snd_E a)
  | .ife c a b => se_ife (snd_E c) (snd_E a) (snd_E b)
  | .tup es => SE.val (fun n N sc e hc => by unfold ckE at hc; split at hc <;> first | rfl | cases hc) fun X sc W e h E hc => by
      unfold ckE at hc
      split at hc
      · simp only [evE]
        exact s_tup (w := w) (W := W) ((snd_X es).x h E _ hc)
      · cases hc
  | .lst es => SE.val (fun n N sc e hc => by unfold ckE at hc; split at hc <;> first | rfl | cases hc) fun X sc W e h E hc => by
      unfold ckE at hc
      split at hc
      · simp only [evE]
        exact s_lst (w := w) (W := W) ((snd_X es).x h E _ hc)
      · cases hc
  | .dk0 => SE.val (fun n N sc e hc => by unfold ckE at hc; split at hc <;> first | rfl | cases hc) fun X sc W e h E hc => by
      unfold ckE at hc
      split at hc
      · exact s_dk0
      · cases hc
  | .dt0 => SE.val (fun n N sc e hc => by unfold ckE at hc; split at hc <;> first | rfl | cases hc) fun X sc W e h E hc => by
      unfold ckE at hc
      split at hc
      · exact s_dt0
      · cases hc
  | .slc a lo hi => SE.val (fun n N sc e hc => by unfold ckE at hc; split at hc <;> first | rfl | cases hc) fun X sc W e h E hc => s_slc h hc ((snd_E a).ar h E) ((snd_E lo).v h E) ((snd_E hi).v h E)
  | .att a f => SE.val (fun n N sc e hc => by unfold ckE at hc; split at hc <;> first | rfl | cases hc) fun X sc W e h E hc => s_att rfl E h hc
  | .isi a ts => SE.val (fun n N sc e hc => by unfold ckE at hc; split at hc <;> first | rfl | cases hc) fun X sc W e h E hc => s_isi E h hc ((snd_E a).ar h E)
  | .call f es => SE.val (fun n N sc e hc => by unfold ckE at hc; split at hc <;> first | rfl | cases hc) fun X sc W e h E hc => s_call rfl E h hc ((snd_X es).a h E)
  | .meth c f o es => SE.val (fun n N sc e hc => by unfold ckE at hc; split at hc <;> first | rfl | cases hc) fun X sc W e h E hc => s_meth rfl E h hc ((snd_E o).ar h E) ((snd_X es).a h E)
  | .new c f es => SE.val (fun n N sc e hc => by unfold ckE at hc; split at hc <;> first | rfl | cases hc) fun X sc W e h E hc => s_new rfl E h hc ((snd_X es).x h E)
  | .bi b es => SE.val (fun n N sc e hc => by unfold ckE at hc; split at hc <;> first | rfl | cases hc) fun X sc W e h E hc => s_bi E h hc ((snd_X es).a h E)
  | .bm b o es => SE.val (fun n N sc e hc => by unfold ckE at hc; split at hc <;> first | rfl | cases hc) fun X sc W e h E hc => s_bm h hc ((snd_E o).ar h E) ((snd_X es).a h E)
  | .mut m o es => SE.val (fun n N sc e hc => by unfold ckE at hc; split at hc <;> first | rfl | cases hc) fun X sc W e h E hc => s_mut h hc ((snd_E o).ar h E) ((snd_X es).a h E)
  | .comp ts k es own c e => SE.val (fun n N sc e hc => by unfold ckE at hc; split at hc <;> first | rfl | cases hc) fun X sc W v h E hc => by
      have ie : ∀ e', es = .cons e' .nil → SE w cf N L e' := fun e' he => snd_1 es e' he
      exact comp_pe ie (snd_X es) (snd_E c) (snd_E e) h E hc
  | .sdf o a b => SE.val (fun n N sc e hc => by unfold ckE at hc; split at hc <;> first | rfl | cases hc) fun X sc W e h E hc => s_sdf h hc ((snd_E o).ar h E) ((snd_E a).v h E) ((snd_E b).v h E)
  | .dgt o a b => SE.val (fun n N sc e hc => by unfold ckE at hc; split at hc <;> first | rfl | cases hc) fun X sc W e h E hc => s_dgt h hc ((snd_E o).ar h E) ((snd_E a).v h E) ((snd_E b).v h E)
  | .dup o a => SE.val (fun n N sc e hc => by unfold ckE at hc; split at hc <;> first | rfl | cases hc) fun X sc W e h E hc => s_dup h hc ((snd_E o).ar h E) ((snd_E a).ar h E)
  | .dkd es => SE.val (fun n N sc e hc => by unfold ckE at hc; split at hc <;> first | rfl | cases hc) fun X sc W e h E hc => s_dkd hc (snd_L es X sc W h E)
  | .dtd es => SE.val (fun n N sc e hc => by unfold ckE at hc; split at hc <;> first | rfl | cases hc) fun X sc W e h E hc => s_dtd h hc (snd_L es X sc W h E)
theorem snd_L : ∀ (es : Exs) (X : Cx) (sc : Scope) (W : WX), XC w X N sc W L → EnvOk w cf L X.prog X.w X.mg X.base → AllE w cf W X w.n N sc es
  | .nil, X, sc, W, h, E => trivial
  | .cons e es, X, sc, W, h, E => ⟨(snd_E e).v h E, snd_L es X sc W h E⟩
theorem snd_1 : ∀ (es : Exs) (e' : Ex), es = .cons e' .nil → SE w cf N L e'
  | .nil, e', he => by cases he
  | .cons e es, e', he => by
    have := snd_E e
    cases he
    exact this
theorem snd_X : ∀ es : Exs, SX w cf N L es
  | .nil => fun X sc W ls h E hc => by
    cases ls with
    | nil => exact ⟨x_nil, a_nil⟩
    | cons _ _ => simp [ckX] at hc
  | .cons e es => fun X sc W ls h E hc => by
    cases ls with
    | nil => simp [ckX] at hc
    | cons l ls =>
      have i1 := snd_E e
      have i2 := snd_X es
      simp only [ckX, Bool.and_eq_true] at hc
      obtain ⟨⟨h1, h2⟩, h3⟩ := hc
      exact ⟨x_cons h1 ((i1 X sc W l h E h2).1) (i2.x h E ls h3), a_cons h1 (i1.ar h E l h2) (i2.a h E ls h3)⟩
end
end
end Q
end
section
set_option Elab.async false
set_option linter.all false
set_option maxRecDepth 100000
namespace Q
open PySem PySem.Spec PyProof.Rows L2
/-! statements; defs -/
/-- a def's own level -/
structure XS (w : Wd) (cf : Nat → List D → FR) (X : Cx) (N : List Str) (sc : Scope) (W : WX) (L : Nat) : Prop where
  xc : XC w X N sc W L
  E : EnvOk w cf L X.prog X.w X.mg X.base
  O : ExcOk w X.mg
  fn : ∀ x, X.fn x = true
  own : PassesOwn (model X.prog X.w) X.A X.env X.xe
def SC (w : Wd) (cf : Nat → List D → FR) (N : List Str) (L : Nat) (c : Cm) : Prop := ∀ (X : Cx) (sc : Scope) (W : WX) (pn : List Nat) (st : Stmt), XS w cf X N sc W L → ckC w.n N sc c st = true → PS X st (tS w W pn (evC w.n.sg cf pn c))
def SCs (w : Wd) (cf : Nat → List D → FR) (N : List Str) (L : Nat) (c : Cms) : Prop := ∀ (X : Cx) (sc : Scope) (W : WX) (pn : List Nat) (st : List Stmt), XS w cf X N sc W L → ckCs w.n N sc c st = true → PSs X st (tS w W pn (evCs w.n.sg cf pn c))
section
variable {w : Wd} {cf : Nat → List D → FR} {N : List Str} {L : Nat}
theorem set_any {i : Nat} {e : Ex} {X : Cx} {sc : Scope} {W : WX} {x : Str} {px pos : Pos} {v : Expr} (h : XS w cf X N sc W L) (hi : N[i]? = some x) (hl : locB sc x = true) (hsw : lcSw sc x px v = true) (hc : ckE w.n N sc e v = true) : PS X (.Assign [.Name x px] v pos) (tSet w W i (evE w.n.sg cf e)) := by
  have he := (snd_E (cf := cf) e X sc W v h.xc h.E hc).1
  have hx := loc_of h.xc hl
  by_cases hlc : ∃ elt gs s p, v = .ListComp elt gs s p
  · obtain ⟨elt, gs, s, p, rfl⟩ := hlc
    simp only [lcSw, Bool.or_eq_true] at hsw
    rcases hsw with z | z
    · simp only [Bool.and_eq_true, decide_eq_true_eq, Bool.not_eq_true'] at z
      obtain ⟨⟨⟨z1, z2⟩, z3⟩, z4⟩ := z
      have hk : sc.kind = .function := by split at z1 <;> first | assumption | cases z1
      cases e <;> first | (simp [ckE] at hc; done) | skip
      · rename_i ts k es own c e
        exact comp_set (fun e' he => snd_E e') (snd_X es) (snd_E c) (snd_E e) h.xc h.E hc hi z2 hk fun _ _ _ _ q => by cases q; exact ⟨z3, z4⟩
    · have z' : (decide (X.env.scope.names.lookup x = some .local) && (px.line == p.line)) = false := by rw [h.xc.hsc]; rw [Bool.not_eq_true'] at z; exact z
      exact ps_set (by rw [h.xc.hN]; exact h.xc.nd) (by rw [h.xc.hN]; exact hi) hx he (sw_off z') (.inl (h.fn x))
  · refine ps_set (by rw [h.xc.hN]; exact h.xc.nd) (by rw [h.xc.hN]; exact hi) hx he (sw_no ?_) (.inl (h.fn x))
    cases v <;> first | trivial | (cases hsw; done) | (exact hlc ⟨_, _, _, _, rfl⟩)
mutual
theorem snd_C : ∀ c : Cm, SC w cf N L c
  | .set i e => fun X sc W pn st h hc => by
    unfold ckC at hc
    split at hc
    · rename_i x px v pos
      simp only [Bool.and_eq_true, decide_eq_true_eq] at hc
      obtain ⟨⟨⟨h1, h2⟩, h3⟩, h4⟩ := hc
      exact s_set (set_any h h1 h2 h3 h4)
    · cases hc
  | .unp is e => fun X sc W pn st h hc => by
    unfold ckC at hc
    split at hc
    · rename_i l k p v pos
      simp only [Bool.and_eq_true, decide_eq_true_eq] at hc
      obtain ⟨⟨⟨⟨h1, h2⟩, h3⟩, h4⟩, h5⟩ := hc
      exact s_unp h.xc (by cases v <;> first | trivial | exact of_decide_eq_true h4 | (cases h4; done)) h1 h2 (loc_fn h.xc h.fn h3) (snd_E e X sc W v h.xc h.E h5).1
    · cases hc
  | .par i j a b => fun X sc W pn st h hc => by
    unfold ckC at hc
    split at hc
    · rename_i x px y py kt pt u v k2 p2 pos
      simp only [Bool.and_eq_true, decide_eq_true_eq, Bool.not_eq_true'] at hc
      obtain ⟨⟨⟨⟨⟨⟨⟨⟨⟨⟨⟨⟨h1, h2⟩, h3⟩, h4⟩, h5⟩, h6⟩, h7⟩, h8⟩, h9⟩, h10⟩, h11⟩, h12⟩, h13⟩ := hc
      have hk : sc.kind = .function := by split at h6 <;> first | assumption | cases h6
      exact s_par h.xc h1 h2 h3 h4 h5 hk h7 h8 h9 h10 h11 (x_cons h10 (snd_E a X sc W u h.xc h.E h12).1 (x_cons h11 (snd_E b X sc W v h.xc h.E h13).1 x_nil))
    · cases hc
  | .sts o i e => fun X sc W pn st h hc => by
    unfold ckC at hc
    split at hc
    · rename_i l r p v pos
      simp only [Bool.and_eq_true] at hc
      obtain ⟨⟨⟨⟨h1, h2⟩, h3⟩, h4⟩, h5⟩ := hc
      exact s_sts h.xc h1 ((snd_E o).ar h.xc h.E l h3) (snd_E i X sc W r h.xc h.E h4).1 (snd_E e X sc W v h.xc h.E h5).1
    · cases hc
  | .stf o f e => fun X sc W pn st h hc => by
    unfold ckC at hc
    split at hc
    · rename_i l g ap v pos
      simp only [Bool.and_eq_true, decide_eq_true_eq] at hc
      obtain ⟨⟨⟨⟨rfl, h2⟩, h3⟩, h4⟩, h5⟩ := hc
      obtain ⟨⟨i, p⟩, hp⟩ := Option.isSome_iff_exists.mp h2
      exact s_stf rfl h.E h.xc hp h3 (snd_E e X sc W v h.xc h.E h4).1
    · cases hc
  | .exp e => fun X sc W pn st h hc => by
    unfold ckC at hc
    split at hc
    · rename_i v pos
      simp only [Bool.and_eq_true] at hc
      exact s_exp (by cases v <;> first | trivial | (cases hc.1; done)) (snd_E e X sc W v h.xc h.E hc.2).1
    · cases hc
  | .ret e => fun X sc W pn st h hc => by
    unfold ckC at hc
    split at hc
    · rename_i v pos
      exact s_ret (snd_E e X sc W v h.xc h.E hc).1
    · cases hc
  | .retN => fun X sc W pn st h hc => by
    unfold ckC at hc
    split at hc
    · exact s_retN
    · cases hc
  | .pass => fun X sc W pn st h hc => by
    unfold ckC at hc
    split at hc
    · exact s_pass
    · cases hc
  | .brk => fun X sc W pn st h hc => by
    unfold ckC at hc
    split at hc
    · exact s_brk
    · cases hc
  | .cnt => fun X sc W pn st h hc => by
    unfold ckC at hc
    split at hc
    · exact s_cnt
    · cases hc
  | .ite c a b => fun X sc W pn st h hc => by
    unfold ckC at hc
    split at hc
    · rename_i t l r pos
      simp only [Bool.and_eq_true] at hc
      obtain ⟨⟨⟨h1, h2⟩, h3⟩, h4⟩ := hc
      exact s_ite ((snd_E c X sc W t h.xc h.E h2).2 h1) (snd_Cs a X sc W pn l h h3) (snd_Cs b X sc W pn r h h4)
    · cases hc
  | .for_ ts k es body => fun X sc W pn st h hc => by
    unfold ckC at hc
    split at hc
    · rename_i tg it l pos
      simp only [Bool.and_eq_true] at hc
      obtain ⟨⟨⟨⟨⟨⟨⟨h1, h2⟩, h3⟩, h4⟩, h5⟩, h6⟩, h6b⟩, h7⟩ := hc
      have hb := fun pn => snd_Cs body X sc W pn l h h7
      exact s_for h.xc h.own (s_it rfl h.xc h.E h6 h6b h4 h5 (fun e' he l hl => (snd_E e').ar h.xc h.E l hl) fun ls hl => (snd_X es).a h.xc h.E ls hl) (fun pn => pg_T h.xc h1 (loc_fn h.xc h.fn h2)) hb (notSet_fold h3)
    · cases hc
  | .while_ c body => fun X sc W pn st h hc => by
    unfold ckC at hc
    split at hc
    · rename_i t l pos
      simp only [Bool.and_eq_true] at hc
      obtain ⟨⟨h1, h2⟩, h3⟩ := hc
      exact s_while h.own ((snd_E c X sc W t h.xc h.E h2).2 h1) (snd_Cs body X sc W pn l h h3)
    · cases hc
  | .rais c => fun X sc W pn st h hc => by
    unfold ckC at hc
    split at hc
    · simp only [Bool.and_eq_true, decide_eq_true_eq] at hc
      obtain ⟨rfl, hg⟩ := hc
      exact s_rais rfl h.O h.xc hg
    · cases hc
  | .never => fun X sc W pn st h hc => s_never
theorem snd_Cs : ∀ c : Cms, SCs w cf N L c
  | .nil => fun X sc W pn st h hc => by
    cases st with
    | nil => exact s_nil
    | cons _ _ => simp [ckCs] at hc
  | .cons c cs => fun X sc W pn st h hc => by
    cases st with
    | nil => simp [ckCs] at hc
    | cons s ss =>
      have i1 := snd_C c
      have i2 := snd_Cs cs
      simp only [ckCs, Bool.and_eq_true] at hc
      exact s_seq (i1 X sc W pn s h hc.1) (i2 X sc W pn ss h hc.2)
end
end
end Q
end
section
set_option Elab.async false
set_option linter.all false
set_option maxRecDepth 100000
namespace Q
open PySem PySem.Spec PyProof.Rows L2
/-! defs -/
theorem lv_noneL {f : Nat → Option D} : ∀ (l : List Nat) (vs : List V), l.length = vs.length → (∀ i ∈ l, f i = none) → Lv (l.map f) (vs.map some) []
  | [], [], _, _ => .nil
  | [], _ :: _, h, _ => by simp at h
  | _ :: _, [], h, _ => by simp at h
  | i :: l, v :: vs, h, hf => by
    rw [List.map_cons, List.map_cons, hf i (by simp)]
    exact .no (lv_noneL l vs (by simpa using h) fun j hj => hf j (List.mem_cons_of_mem _ hj))
theorem outLv {io : List Nat} : ∀ {vs : List V} {k : Nat} {S : Sl} {σ : L2.St} {Ls : List (D × V)}, Lv S σ Ls → (∀ i v, vs[i]? = some v → k + i ∈ io → σ[i]? = some (some v)) →
    ∃ L' M, Lv ((List.range vs.length).map fun i => if k + i ∈ io then (S[i]?).getD none else none) (vs.map some) L' ∧ Ls.Perm (L' ++ M)
  | [], k, S, σ, Ls, l, _ => ⟨[], Ls, .nil, .refl _⟩
  | v :: vs, k, S, σ, Ls, l, hp => by
    cases l with
    | nil => exact ⟨[], [], lv_noneL _ _ (by simp) (fun i _ => by simp), .refl _⟩
    | @no S σ Ls x l =>
      obtain ⟨L', M, l', p⟩ := outLv (io := io) (vs := vs) (k := k + 1) l fun i u hi hk => by
        have := hp (i + 1) u (by simpa using hi) (by rw [show k + (i + 1) = k + 1 + i by omega]; exact hk)
        simpa using this
      refine ⟨L', M, ?_, p⟩
      rw [List.length_cons, List.range_succ_eq_map, List.map_cons, List.map_map, List.map_cons]
      have e : (if k + 0 ∈ io then (((none :: S : Sl))[0]?).getD none else none) = none := by split <;> rfl
      rw [e]
      refine .no ?_
      have e2 : ((fun i => if k + i ∈ io then ((none :: S : Sl)[i]?).getD none else none) ∘ Nat.succ) = fun i => if k + 1 + i ∈ io then (S[i]?).getD none else none := by
        funext i
        simp only [Function.comp, List.getElem?_cons_succ, Nat.succ_eq_add_one]
        rw [show k + (i + 1) = k + 1 + i by omega]
      rw [e2]; exact l'
    | @so S σ Ls d u l =>
      obtain ⟨L', M, l', p⟩ := outLv (io := io) (vs := vs) (k := k + 1) l fun i u hi hk => by
        have := hp (i + 1) u (by simpa using hi) (by rw [show k + (i + 1) = k + 1 + i by omega]; exact hk)
        simpa using this
      have e2 : ((fun i => if k + i ∈ io then ((some d :: S : Sl)[i]?).getD none else none) ∘ Nat.succ) = fun i => if k + 1 + i ∈ io then (S[i]?).getD none else none := by
        funext i
        simp only [Function.comp, List.getElem?_cons_succ, Nat.succ_eq_add_one]
        rw [show k + (i + 1) = k + 1 + i by omega]
      by_cases hk : k ∈ io
      · have hu := hp 0 v rfl (by simpa using hk)
        have hu' : u = v := by simpa using hu
        subst hu'
        refine ⟨(d, u) :: L', M, ?_, List.Perm.cons _ p⟩
        rw [List.length_cons, List.range_succ_eq_map, List.map_cons, List.map_map, List.map_cons]
        have e : (if k + 0 ∈ io then (((some d :: S : Sl))[0]?).getD none else none) = some d := by rw [if_pos (by simpa using hk)]; rfl
        rw [e, e2]
        exact .so l'
      · refine ⟨L', (d, u) :: M, ?_, (List.Perm.cons _ p).trans List.perm_middle.symm⟩
        rw [List.length_cons, List.range_succ_eq_map, List.map_cons, List.map_map, List.map_cons]
        have e : (if k + 0 ∈ io then (((some d :: S : Sl))[0]?).getD none else none) = none := if_neg (by simpa using hk)
        rw [e, e2]
        exact .no l'
theorem lv_rep : ∀ (k : Nat), Lv (List.replicate k none) (List.replicate k none) []
  | 0 => .nil
  | k + 1 => .no (lv_rep k)
theorem lv_start : ∀ (Ls : List (D × V)) (k : Nat), Lv ((Ls.map (·.1)).map some ++ List.replicate k none) ((Ls.map (·.2)).map some ++ List.replicate k none) Ls
  | [], k => lv_rep k
  | _ :: r, k => .so (lv_start r k)
section
variable {w : Wd} {cf : Nat → List D → FR} {L : Nat} {P : Program} {wo : World} {mg : Str → Option Value} {base : Heap}
theorem spF_len {g : List D → FR} {k : Nat} (hg : ∀ ds, ds.length ≠ k → g ds = .no) {vs : List V} {H : Hp} {Q : VK} {E : XK} (h : spF w g vs H Q E) : vs.length = k := by
  obtain ⟨F, Ls, A, rfl, ow, q⟩ := h
  by_cases hl : (Ls.map (·.1)).length = k
  · simpa using hl
  · rw [hg _ hl] at q; exact q.elim
theorem fn_ok {x qual : Str} {st : Stmt} {a : Addr} {fd : FuncData} {N ps : List Str} {fn : Fn} (E : EnvOk w cf L P wo mg base) (O : ExcOk w mg) (Fu : L2.Fun w.K x qual st a fd) (S : FnScope N ps (defScope st)) (hc : ckCs w.n N (defScope st) fn.body (defBody st) = true) (hp : fn.np = ps.length) (hs : fn.ns = N.length) :
    FnG P wo w.K mg base (L2.CX P wo) (L + 2) a fd ps (spF w (runB w.n.sg cf fn)) := by
  obtain ⟨oc, od, kV, doc, pm, an, cdv, ct, osl, rfl, lk, hcd⟩ := Fu.ex
  refine fn_okG (k := L + 1) lk hcd S (fun vs H Q E' h => spF_len (fun ds hd => by unfold runB; rw [if_neg (by rw [hp]; exact hd)]) h) fun A outer s H vs Q En room gd sp => ?_
  obtain ⟨F, Ls, A0, hvs, ow, q⟩ := sp
  have hx : XS w cf (cxOf (L2.CX P wo) P wo w.K mg base N qual (defScope st) a cdv A outer s H En) N (defScope st) (fun cls d _ H => En cls d H) L :=
    ⟨⟨rfl, S.nd, rfl, rfl, rfl, room, takes_of rfl rfl rfl rfl, gd⟩, E, O, fun _ => rfl, passes_of rfl⟩
  refine ⟨_, snd_Cs fn.body _ _ _ fn.io _ hx hc, F, (Ls.map (·.1)).map some ++ List.replicate (fn.ns - fn.np) none, [], A0, ⟨Ls, ?_, by rw [List.append_nil]; exact ow⟩, ?_⟩
  · unfold L2.start
    rw [← hvs]
    by_cases hl : (Ls.map (·.1)).length = fn.np
    · have e : N.length - (Ls.map (·.2)).length = fn.ns - fn.np := by rw [hs, List.length_map, ← hl, List.length_map]
      rw [e]
      exact lv_start Ls _
    · unfold runB at q
      rw [if_neg hl] at q
      exact q.elim
  · by_cases hl : (Ls.map (·.1)).length = fn.np
    · unfold runB at q
      rw [if_pos hl] at q
      have hlv : vs.length = fn.np := by rw [← hvs, List.length_map, ← hl, List.length_map]
      -- what comes back
      have out : ∀ {S' : Sl} {σ' : L2.St} {T : List (D × V)} {H' : Hp} {A' : List Addr}, Pin fn.io (L2.start N vs) σ' → Rl w F H' S' σ' T A' → ∃ L' B, Lv (outP S' fn.io fn.np) (vs.map some) L' ∧ Ow w F H' (T ++ L') B ∧ ∀ b ∈ B, b ∈ A' := fun {S' σ' T H' A'} p r => by
        obtain ⟨Lz, l2, o2⟩ := r
        obtain ⟨L', M, l', pm⟩ := outLv (io := fn.io) (vs := vs) (k := 0) l2 fun i v hi hk => by
          rw [p i (by simpa using hk)]
          unfold L2.start
          rw [List.getElem?_append_left (by rw [List.length_map]; exact (List.getElem?_eq_some_iff.mp hi).1), List.getElem?_map, hi]
          rfl
        have pp : (Lz ++ T).Perm (M ++ (T ++ L')) := by
          refine (pm.append_right T).trans ?_
          refine List.Perm.trans List.perm_append_comm ?_
          rw [← List.append_assoc]
          exact List.perm_append_comm
        obtain ⟨B, q1, o3⟩ := o2.perm pp
        obtain ⟨B1, B2, e, _, o4⟩ := o3.right
        refine ⟨L', B2, ?_, o4, fun b hb => q1.mem_iff.mpr (by rw [e]; exact List.mem_append_right _ hb)⟩
        unfold outP
        rw [← hlv]
        simpa using l'
      cases er : evCs w.n.sg cf fn.io fn.body ((Ls.map (·.1)).map some ++ List.replicate (fn.ns - fn.np) none) with
      | no => simp only [er] at q
      | bk _ => simp only [er] at q
      | ct _ => simp only [er] at q
      | rt d S' =>
        simp only [er] at q
        intro v σ' H' A' p r s'
        obtain ⟨L', B, l', o', sub⟩ := out p r
        exact q v H' L' B l' o' (s'.trans (Step.sub sub))
      | nx S' =>
        simp only [er] at q
        intro σ' H' A' p r s'
        obtain ⟨A2, r2, s2⟩ := r.pushP .non
        obtain ⟨L', B, l', o', sub⟩ := out p r2
        exact q .non H' L' B l' o' ((s'.trans s2).trans (Step.sub sub))
      | er c S' =>
        simp only [er] at q
        intro C σ' H' A' hC p r s'
        obtain ⟨L', B, l', o', sub⟩ := out p r
        exact q C H' L' B hC l' o' (s'.trans (Step.sub sub))
    · unfold runB at q
      rw [if_neg hl] at q
      exact q.elim
end
/-- a def's facts -/
def FL (w : Wd) (tb : Nat → Option Fn) (f : Nat) (a : Addr) (fd : FuncData) (ps : List Str) : Prop :=
  ∃ (x qual : Str) (st : Stmt) (N : List Str) (fn : Fn), tb f = some fn ∧ L2.Fun w.K x qual st a fd ∧ FnScope N ps (defScope st) ∧ ckCs w.n N (defScope st) fn.body (defBody st) = true ∧ fn.np = ps.length ∧ fn.ns = N.length ∧ Binds w.K fd ps []
theorem FL.b {w : Wd} {tb : Nat → Option Fn} {f : Nat} {a : Addr} {fd : FuncData} {ps : List Str} (h : FL w tb f a fd ps) : Binds w.K fd ps [] := by
  obtain ⟨x, qual, st, N, fn, h1, h2, h3, h4, h5, h6, h7⟩ := h
  exact h7
structure EnvL (w : Wd) (tb : Nat → Option Fn) (mg : Str → Option Value) : Prop where
  bi : ∀ x : Str, x ∈ ([("len" : Str), "tuple", "list", "max", "min", "abs", "sum", "any", "all", "int", "str", "isinstance", "bool", "range", "enumerate", "zip", "sorted", "repr", "set", "dict", "reversed"] : List Str) → mg x = none
  glob : ∀ g d, w.n.sg.glob g = some d → ∃ u v, mg (w.n.gn g) = some u ∧ RelV v u ∧ ∀ F H, Pr w.K F H d v
  fn : ∀ f, isFn (w.n.kd f) = true → ∃ a fd ps, mg (w.n.fn f) = some (.ref a) ∧ PySem.W.keepIn w.K (.ref a) = true ∧ FL w tb f a fd ps
  met : ∀ f c C, isMe c (w.n.kd f) = true → w.cl c = some C → ∃ a fd ps, Meth w.K C (w.n.fn f) a ∧ FL w tb f a fd ps ∧ w.n.fn f ∉ (w.n.sg.flds c).map w.n.fld
  mak : ∀ f c, isMk c (w.n.kd f) = true → ∃ C a fd ps, w.cl c = some C ∧ mg (w.n.cn c) = some (.ref C) ∧ Mk w.K C a ∧ FL w tb f a fd ps
  cls : ∀ c C, w.cl c = some C → Cls w.K C ∧ ∀ f j, fieldIx (w.n.sg.flds c) f = some j → NoAttr w.K C (w.n.fld f)
section
variable {w : Wd} {tb : Nat → Option Fn} {P : Program} {wo : World} {mg : Str → Option Value} {base : Heap}
theorem run_one {n f : Nat} {a : Addr} {fd : FuncData} {ps : List Str} (E : EnvOk w (run w.n.sg tb n) (2 * n) P wo mg base) (O : ExcOk w mg) (h : FL w tb f a fd ps) : Binds w.K fd ps [] ∧ FnG P wo w.K mg base (L2.CX P wo) (2 * (n + 1)) a fd ps (spF w (run w.n.sg tb (n + 1) f)) := by
  obtain ⟨x, qual, st, N, fn, h1, h2, h3, h4, h5, h6, h7⟩ := h
  refine ⟨h7, ?_⟩
  have := fn_ok E O h2 h3 h4 h5 h6
  have e : run w.n.sg tb (n + 1) f = runB w.n.sg (run w.n.sg tb n) fn := by
    funext ds
    simp only [run, h1]
  rw [e]
  exact this
theorem run_zero {f : Nat} {a : Addr} {fd : FuncData} {ps : List Str} (h : FL w tb f a fd ps) : Binds w.K fd ps [] ∧ FnG P wo w.K mg base (L2.CX P wo) (2 * 0) a fd ps (spF w (run w.n.sg tb 0 f)) := by
  obtain ⟨x, qual, st, N, fn, h1, h2, h3, h4, h5, h6, h7⟩ := h
  have no : ∀ {vs : List V} {H : Hp} {Q : VK} {E : XK}, spF w (run w.n.sg tb 0 f) vs H Q E → False := fun ⟨F, Ls, A, _, _, q⟩ => q
  exact ⟨h7, ⟨fun vs H Q E h => (no h).elim, fun A outer s H args us vs Q E _ _ _ _ _ h => (no h).elim⟩⟩
theorem env_ok (G : EnvL w tb mg) (O : ExcOk w mg) : ∀ n, EnvOk w (run w.n.sg tb n) (2 * n) P wo mg base
  | 0 => ⟨G.bi, G.glob, fun f h => let ⟨a, fd, ps, h1, h2, h3⟩ := G.fn f h; ⟨a, fd, ps, h1, h2, h3.b, (run_zero h3).2⟩,
      fun f c C h hc => let ⟨a, fd, ps, h1, h2, h3⟩ := G.met f c C h hc; ⟨a, fd, ps, h1, h2.b, (run_zero h2).2, h3⟩,
      fun f c h => let ⟨C, a, fd, ps, h1, h2, h3, h4⟩ := G.mak f c h; ⟨C, a, fd, ps, h1, h2, h3, h4.b, (run_zero h4).2⟩, G.cls⟩
  | n + 1 => by
    have E := env_ok G O n
    exact ⟨G.bi, G.glob, fun f h => let ⟨a, fd, ps, h1, h2, h3⟩ := G.fn f h; ⟨a, fd, ps, h1, h2, h3.b, (run_one E O h3).2⟩,
      fun f c C h hc => let ⟨a, fd, ps, h1, h2, h3⟩ := G.met f c C h hc; ⟨a, fd, ps, h1, h2.b, (run_one E O h2).2, h3⟩,
      fun f c h => let ⟨C, a, fd, ps, h1, h2, h3, h4⟩ := G.mak f c h; ⟨C, a, fd, ps, h1, h2, h3, h4.b, (run_one E O h4).2⟩, G.cls⟩
/-- a def that is called from without -/
theorem run_ok (G : EnvL w tb mg) (O : ExcOk w mg) (n : Nat) {f : Nat} {a : Addr} {fd : FuncData} {ps : List Str} (h : FL w tb f a fd ps) : FnG P wo w.K mg base (L2.CX P wo) (2 * (n + 1)) a fd ps (spF w (run w.n.sg tb (n + 1) f)) :=
  (run_one (env_ok G O n) O h).2
end
end Q
end
section
set_option Elab.async false
set_option linter.all false
set_option maxRecDepth 100000
namespace Q
open PySem PySem.Spec PyProof.Rows L2
/-! what the top leaves, by tables -/
mutual
def conB (K : PySem.W.Frag) : D → Value → Bool
  | .int i, .int j _ => decide (i = j)
  | .str x, .str y _ => decide (x = y)
  | .ktup xs, .ref a => match K.lookup a with
    | some ⟨.type c, _, .seq its _, _⟩ => decide (c = "tuple") && decide (its.size ≤ sizeLine) && conBs K xs its.toList
    | _ => false
  | .fls xs, .ref a => match K.lookup a with
    | some ⟨.type c, none, .seq its _, _⟩ => decide (c = "list") && decide (its.size ≤ sizeLine) && conBs K xs its.toList
    | _ => false
  | _, _ => false
def conBs (K : PySem.W.Frag) : List D → List Value → Bool
  | [], [] => true
  | x :: xs, u :: us => conB K x u && conBs K xs us
  | _, _ => false
end
mutual
theorem conB_ok {K : PySem.W.Frag} : ∀ (d : D) (u : Value), conB K d u = true → ∃ v, RelV v u ∧ ∀ F H, Pr K F H d v := by
  intro d u h
  match d, u, h with
  | .int i, .int j t, h => exact ⟨.int i, ⟨t, by have : i = j := of_decide_eq_true h; rw [this]⟩, fun F H => .int i⟩
  | .str x, .str y t, h => exact ⟨.str x, ⟨t, by have : x = y := of_decide_eq_true h; rw [this]⟩, fun F H => .str x⟩
  | .ktup xs, .ref a, h =>
    unfold conB at h
    cases q : K.lookup a with
    | none => rw [q] at h; cases h
    | some o =>
      obtain ⟨oc, od, dt, osl⟩ := o
      rw [q] at h
      cases oc with
      | type c =>
        cases dt with
        | seq its n =>
          have h' : (decide (c = "tuple") && decide (its.size ≤ sizeLine) && conBs K xs its.toList) = true := h
          simp only [Bool.and_eq_true, decide_eq_true_eq] at h'
          obtain ⟨⟨h1, h2⟩, h3⟩ := h'
          obtain ⟨vs, r, p⟩ := conBs_ok xs its.toList h3
          exact ⟨.ref a, rfl, fun F H => .ktup ⟨_, its, n, q, congrArg Value.type h1, rfl, h2, r⟩ (p F H)⟩
        | _ => cases h
      | _ => cases dt <;> cases h
  | .fls xs, .ref a, h =>
    unfold conB at h
    cases q : K.lookup a with
    | none => rw [q] at h; cases h
    | some o =>
      obtain ⟨oc, od, dt, osl⟩ := o
      rw [q] at h
      cases oc with
      | type c =>
        cases od with
        | none =>
          cases dt with
          | seq its n =>
            have h' : (decide (c = "list") && decide (its.size ≤ sizeLine) && conBs K xs its.toList) = true := h
            simp only [Bool.and_eq_true, decide_eq_true_eq] at h'
            obtain ⟨⟨h1, h2⟩, h3⟩ := h'
            obtain ⟨vs, r, p⟩ := conBs_ok xs its.toList h3
            exact ⟨.ref a, rfl, fun F H => .fls (.inr ⟨_, its, n, q, congrArg Value.type h1, rfl, rfl, h2, r⟩) (p F H)⟩
          | _ => cases h
        | some _ => cases dt <;> cases h
      | _ => cases od <;> cases dt <;> cases h
theorem conBs_ok {K : PySem.W.Frag} : ∀ (xs : List D) (us : List Value), conBs K xs us = true → ∃ vs, Vals vs us ∧ ∀ F H, Prs K F H xs vs
  | [], [], _ => ⟨[], .nil, fun _ _ => .nil⟩
  | [], _ :: _, h => by cases h
  | _ :: _, [], h => by cases h
  | x :: xs, u :: us, h => by
    unfold conBs at h
    rw [Bool.and_eq_true] at h
    obtain ⟨v, r, p⟩ := conB_ok x u h.1
    obtain ⟨vs, rs, ps⟩ := conBs_ok xs us h.2
    exact ⟨v :: vs, .cons r rs, fun F H => .cons (p F H) (ps F H)⟩
end
inductive Fq where | he (f : He.Fa) | con (x : Str) (d : D)
def Fq.ok (K : PySem.W.Frag) : Fq → Bool
  | .he f => f.ok K
  | .con x d => match PySem.W.nsIn K mainGlobals x with
    | some (some u) => conB K d u
    | _ => false
/-! the Hook -/
def obsQ (fa : List Fq) (fn : List He.FnD) (K : PySem.W.Frag) : He.Al := ((fa.all fun f => f.ok K) && fn.all fun d => (He.Fa.code d.at_ d.qual).ok K, fn.map fun d => He.fnObs K d.at_)
def SaysQ (fa : List Fq) (fn : List He.FnD) (K : PySem.W.Frag) : Prop := obsQ fa fn K = He.valE fn
def obsQG (n : Nat) (fa : List Fq) (fn : List He.FnD) (g : Addr → Option Obj) : He.Al := obsQ fa fn (He.frG g (He.asG g n))
def hookQ (n : Nat) (fa : List Fq) (fn : List He.FnD) : PySem.W.Hook where
  α := He.Al
  obs := fun s => obsQG n fa fn s.heap.get?
  val := fun _ => He.valE fn
  says := fun _ h => ∃ K : PySem.W.Frag, K.In h ∧ SaysQ fa fn K
  of := fun _ _ e => ⟨_, He.frG_in, e⟩
  keeps := fun _ _ _ ⟨K, hK, c⟩ k => ⟨K, PySem.W.Frag.In.keeps hK k, c⟩
theorem obsQG_eq {n : Nat} {fa : List Fq} {fn : List He.FnD} {g : Addr → Option Obj} {s : Shared} (h : ∀ a, g a = s.heap.get? a) : obsQG n fa fn g = (hookQ n fa fn).obs s := by
  have e : g = s.heap.get? := funext h
  rw [e] <;> rfl
theorem SaysQ.fact {fa : List Fq} {fn : List He.FnD} {K : PySem.W.Frag} (c : SaysQ fa fn K) {f : Fq} (h : f ∈ fa) : f.ok K = true := by
  have c1 := (He.ba (show ((fa.all fun f => f.ok K) && fn.all fun d => (He.Fa.code d.at_ d.qual).ok K) = true from congrArg (fun z : He.Al => z.1) c)).1
  exact List.all_eq_true.mp c1 f h
theorem SaysQ.def_ {fa : List Fq} {fn : List He.FnD} {K : PySem.W.Frag} (c : SaysQ fa fn K) {d : He.FnD} (h : d ∈ fn) :
    ∃ oc od osl kV doc pm an cdv ct, K.lookup (He.fAd K d.at_) = some ⟨oc, od, .func (PySem.W.fnOf d.name d.qual d.params d.body d.scope .none kV doc pm an cdv ct), osl⟩ ∧ PySem.W.codeIn K cdv d.qual = true := by
  have c2 := (He.ba (show ((fa.all fun f => f.ok K) && fn.all fun d => (He.Fa.code d.at_ d.qual).ok K) = true from congrArg (fun z : He.Al => z.1) c)).2
  have e : fn.map (fun d => He.fnObs K d.at_) = fn.map He.FnD.val := congrArg (fun z : He.Al => z.2) c
  obtain ⟨i, hi⟩ := List.getElem?_of_mem h
  have e2 : (fn.map fun d => He.fnObs K d.at_)[i]? = (fn.map He.FnD.val)[i]? := by rw [e]
  rw [List.getElem?_map, List.getElem?_map, hi] at e2
  exact He.fn_ok (Option.some.inj e2) (List.all_eq_true.mp c2 d h)
/-! tables -/
structure DefI where
  id : Nat
  kd : Kd
  nm : Str
  at_ : Str × Option Str
  name : Str
  qual : Str
  st : Stmt
  N : List Str
  ps : List Str
  fn : Fn
def DefI.d (x : DefI) : He.FnD := ⟨x.at_, x.name, x.qual, defArgs x.st, defBody x.st, defScope x.st⟩
/-- its arguments bind -/
def DefI.bd (x : DefI) : Prop := ∀ (kV doc pm : Value) (an : Option Addr) (cdv ct : Value) (us : List Value), us.length = x.ps.length → bindArgs (PySem.W.fnOf x.name x.qual (defArgs x.st) (defBody x.st) (defScope x.st) .none kV doc pm an cdv ct) ⟨us, []⟩ = pure (x.ps.zip us)
structure Tab where
  defs : List DefI
  cls : List (Nat × Str)
  flds : List (Nat × List Nat)
  fldn : List (Nat × Str)
  gl : List (Nat × Str × D)
  exc : List (Nat × Str)
  exd : Str
def Tab.kd (t : Tab) (f : Nat) : Kd := match t.defs.find? fun x => x.id == f with
  | some x => x.kd
  | none => .no
def Tab.fnn (t : Tab) (f : Nat) : Str := match t.defs.find? fun x => x.id == f with
  | some x => x.nm
  | none => ""
def Tab.tb (t : Tab) (f : Nat) : Option Fn := (t.defs.find? fun x => x.id == f).map (·.fn)
def Tab.sg (t : Tab) : Sg := ⟨fun g => (t.gl.lookup g).map (·.2), fun c => (t.flds.lookup c).getD []⟩
def Tab.fld (t : Tab) (f : Nat) : Str := (t.fldn.lookup f).getD ""
def Tab.cn (t : Tab) (c : Nat) : Str := (t.cls.lookup c).getD ""
def Tab.en (t : Tab) (c : Nat) : Str := (t.exc.lookup c).getD t.exd
def Tab.nm (t : Tab) : Nm := ⟨t.sg, t.fld, t.fnn, t.cn, fun g => ((t.gl.lookup g).map (·.1)).getD "", t.en, t.kd⟩
def biNs : List Str := ["len", "tuple", "list", "max", "min", "abs", "sum", "any", "all", "int", "str", "isinstance", "bool", "range", "enumerate", "zip", "sorted", "repr", "set", "dict", "reversed"]
def DefI.fas (t : Tab) (x : DefI) : List Fq := match x.kd with
  | .no => []
  | .fn => [.he (.glo x.nm), .he (.keep x.nm)]
  | .me c => [.he (.meth (t.cn c) x.nm)]
  | .mk c => [.he (.glo (t.cn c)), .he (.mkr (t.cn c)), .he (.meth (t.cn c) "__init__")]
def Tab.fas (t : Tab) : List Fq := biNs.map (fun x => .he (.free x)) ++ t.gl.map (fun g => .con g.2.1 g.2.2) ++ t.defs.flatMap (DefI.fas t) ++
  t.cls.flatMap (fun c => .he (.cls c.2) :: ((t.flds.lookup c.1).getD []).map fun f => .he (.noat c.2 (t.fld f))) ++ (t.exd :: t.exc.map (·.2)).flatMap fun x => [.he (.exc x), .he (.glo x)]
def Tab.fns (t : Tab) : List He.FnD := t.defs.map DefI.d
/-- what is looked up by the kernel -/
def DefI.good (t : Tab) (x : DefI) : Bool := ckCs t.nm x.N (defScope x.st) x.fn.body (defBody x.st) && decide (x.fn.np = x.ps.length) && decide (x.fn.ns = x.N.length) &&
  (match x.kd with
  | .no => true
  | .fn => decide (x.at_ = (x.nm, none))
  | .me c => decide (x.at_ = (t.cn c, some x.nm)) && decide (x.nm ∉ ((t.flds.lookup c).getD []).map t.fld) && (t.cls.lookup c).isSome
  | .mk c => decide (x.at_ = (t.cn c, some ("__init__" : Str))) && (t.cls.lookup c).isSome)
def Tab.nd (t : Tab) : Bool := t.flds.all fun c => decide ((c.2.map t.fld).Nodup)
theorem lookup_mem {α : Type} {l : List (Nat × α)} {c : Nat} {x : α} (h : l.lookup c = some x) : (c, x) ∈ l := by
  induction l with
  | nil => simp at h
  | cons y r ih =>
    obtain ⟨k, v⟩ := y
    rw [List.lookup_cons] at h
    cases q : c == k with
    | true =>
      rw [q] at h
      simp at h
      rw [show c = k from by simpa using q, h]
      exact List.mem_cons_self
    | false =>
      rw [q] at h
      exact List.mem_cons_of_mem _ (ih h)
theorem Tab.ndp {t : Tab} (h : t.nd = true) (c : Nat) : ((t.nm.sg.flds c).map t.nm.fld).Nodup := by
  show ((((t.flds.lookup c).getD [])).map t.fld).Nodup
  cases q : t.flds.lookup c with
  | none => exact .nil
  | some x =>
    have := List.all_eq_true.mp h _ (lookup_mem q)
    exact of_decide_eq_true this
def Tab.wd (t : Tab) (h : t.nd = true) (K : PySem.W.Frag) : Wd := ⟨t.nm, K, fun c => (t.cls.lookup c).map (He.ga K), fun c => some (.ref (He.ga K (t.en c))), t.ndp h⟩
theorem find_id {l : List DefI} {f : Nat} {x : DefI} (h : l.find? (fun x => x.id == f) = some x) : x ∈ l ∧ x.id = f := ⟨List.mem_of_find?_eq_some h, by simpa using List.find?_some h⟩
section
variable {t : Tab} {K : PySem.W.Frag} {h : Heap} {mg : Str → Option Value}
theorem fl_of (hn : t.nd = true) (c : SaysQ t.fas t.fns K) (hb : ∀ x ∈ t.defs, x.bd) (hs : ∀ x ∈ t.defs, FnScope x.N x.ps (defScope x.st)) (hg : ∀ x ∈ t.defs, x.good t = true) {f : Nat} {x : DefI} (e : t.defs.find? (fun x => x.id == f) = some x) (kp : PySem.W.keepIn K (.ref (He.fAd K x.at_)) = true) :
    ∃ fd, FL (t.wd hn K) t.tb f (He.fAd K x.at_) fd x.ps := by
  obtain ⟨hm, hi⟩ := find_id e
  obtain ⟨oc, od, osl, kV, doc, pm, an, cdv, ct, l, hc⟩ := c.def_ (d := x.d) (List.mem_map_of_mem hm)
  have g := hg x hm
  unfold DefI.good at g
  simp only [Bool.and_eq_true, decide_eq_true_eq] at g
  obtain ⟨⟨⟨g1, g2⟩, g3⟩, g4⟩ := g
  have F : L2.Fun K x.name x.qual x.st (He.fAd K x.at_) _ := fun_mk l hc kp
  exact ⟨_, x.name, x.qual, x.st, x.N, x.fn, by unfold Tab.tb; rw [e]; rfl, F, hs x hm, g1, g2, g3, F.binds (hb x hm)⟩
theorem mem_fas {x : DefI} (hm : x ∈ t.defs) {f : Fq} (h : f ∈ x.fas t) : f ∈ t.fas := by
  unfold Tab.fas
  refine List.mem_append_left _ (List.mem_append_left _ (List.mem_append_right _ ?_))
  exact List.mem_flatMap.mpr ⟨x, hm, h⟩
theorem envL_of (hn : t.nd = true) (X : K.In h) (G : h.Ns mainGlobals mg) (c : SaysQ t.fas t.fns K) (hb : ∀ x ∈ t.defs, x.bd) (hs : ∀ x ∈ t.defs, FnScope x.N x.ps (defScope x.st)) (hg : ∀ x ∈ t.defs, x.good t = true) : EnvL (t.wd hn K) t.tb mg where
  bi := fun x hx => He.free_ok X G (c.fact (f := .he (.free x)) (by
    unfold Tab.fas
    refine List.mem_append_left _ (List.mem_append_left _ (List.mem_append_left _ (List.mem_append_left _ ?_)))
    exact List.mem_map_of_mem (f := fun x => Fq.he (.free x)) hx))
  glob := fun g d hd => by
    have hd' : (t.gl.lookup g).map (·.2) = some d := hd
    cases q : t.gl.lookup g with
    | none => rw [q] at hd'; simp at hd'
    | some y =>
      obtain ⟨x, d'⟩ := y
      rw [q] at hd'
      simp at hd'
      subst hd'
      have m : Fq.con x d' ∈ t.fas := by
        unfold Tab.fas
        refine List.mem_append_left _ (List.mem_append_left _ (List.mem_append_left _ (List.mem_append_right _ ?_)))
        exact List.mem_map.mpr ⟨_, lookup_mem q, rfl⟩
      have ok : (match PySem.W.nsIn K mainGlobals x with
        | some (some u) => conB K d' u
        | _ => false) = true := c.fact m
      have en : t.nm.gn g = x := by
        show ((t.gl.lookup g).map (·.1)).getD ("" : Str) = x
        rw [q]; rfl
      show ∃ u v, mg (t.nm.gn g) = some u ∧ _
      rw [en]
      cases qn : PySem.W.nsIn K mainGlobals x with
      | none => rw [qn] at ok; simp at ok
      | some o =>
        cases o with
        | none => rw [qn] at ok; simp at ok
        | some u =>
          rw [qn] at ok
          obtain ⟨v, r, p⟩ := conB_ok d' u ok
          exact ⟨u, v, PySem.W.mg_of X G qn, r, p⟩
  fn := fun f hf => by
    have hf' : isFn (t.kd f) = true := hf
    unfold Tab.kd at hf'
    cases q : t.defs.find? (fun x => x.id == f) with
    | none => rw [q] at hf'; cases hf'
    | some x =>
      rw [q] at hf'
      have hf2 : isFn x.kd = true := hf'
      obtain ⟨hm, hi⟩ := find_id q
      cases ek : x.kd with
      | fn =>
        have g := hg x hm
        unfold DefI.good at g
        simp only [Bool.and_eq_true, decide_eq_true_eq, ek] at g
        have at_ := g.2
        have e1 : He.fAd K x.at_ = He.ga K x.nm := by rw [at_]; rfl
        have kp := He.keep_ok (c.fact (f := .he (.keep x.nm)) (mem_fas hm (by unfold DefI.fas; rw [ek]; simp)))
        have gl := He.glo_ok X G (c.fact (f := .he (.glo x.nm)) (mem_fas hm (by unfold DefI.fas; rw [ek]; simp)))
        obtain ⟨fd, fl⟩ := fl_of hn c hb hs hg q (by rw [e1]; exact kp)
        have en : t.nm.fn f = x.nm := by
          show Tab.fnn t f = x.nm
          unfold Tab.fnn; rw [q]
        refine ⟨He.fAd K x.at_, fd, x.ps, ?_, by rw [e1]; exact kp, fl⟩
        show mg (t.nm.fn f) = _
        rw [en, e1]; exact gl
      | _ => rw [ek] at hf2; cases hf2
  met := fun f k C hf hC => by
    have hf' : isMe k (t.kd f) = true := hf
    unfold Tab.kd at hf'
    cases q : t.defs.find? (fun x => x.id == f) with
    | none => rw [q] at hf'; cases hf'
    | some x =>
      rw [q] at hf'
      have hf2 : isMe k x.kd = true := hf'
      obtain ⟨hm, hi⟩ := find_id q
      cases ek : x.kd with
      | me k' =>
        rw [ek] at hf2
        have ee : k = k' := by simpa [isMe] using hf2
        subst ee
        have g := hg x hm
        unfold DefI.good at g
        simp only [Bool.and_eq_true, decide_eq_true_eq, ek] at g
        obtain ⟨_, ⟨at_, nf⟩, hc⟩ := g
        obtain ⟨nmC, qc⟩ := Option.isSome_iff_exists.mp hc
        have ecn : t.cn k = nmC := by unfold Tab.cn; rw [qc]; rfl
        have eC : C = He.ga K (t.cn k) := by
          have : (t.cls.lookup k).map (He.ga K) = some C := hC
          rw [qc] at this
          simp at this
          rw [ecn, this]
        have mt := He.meth_ok (c.fact (f := .he (.meth (t.cn k) x.nm)) (mem_fas hm (by unfold DefI.fas; rw [ek]; simp)))
        have e1 : He.fAd K x.at_ = He.ma K (He.ga K (t.cn k)) x.nm := by rw [at_]; rfl
        obtain ⟨fd, fl⟩ := fl_of hn c hb hs hg q (by rw [e1]; exact mt.kp)
        have en : t.nm.fn f = x.nm := by
          show Tab.fnn t f = x.nm
          unfold Tab.fnn; rw [q]
        refine ⟨He.fAd K x.at_, fd, x.ps, ?_, fl, ?_⟩
        · show Meth K C (t.nm.fn f) _
          rw [en, e1, eC]; exact mt
        · show t.nm.fn f ∉ _
          rw [en]; exact nf
      | _ => rw [ek] at hf2; cases hf2
  mak := fun f k hf => by
    have hf' : isMk k (t.kd f) = true := hf
    unfold Tab.kd at hf'
    cases q : t.defs.find? (fun x => x.id == f) with
    | none => rw [q] at hf'; cases hf'
    | some x =>
      rw [q] at hf'
      have hf2 : isMk k x.kd = true := hf'
      obtain ⟨hm, hi⟩ := find_id q
      cases ek : x.kd with
      | mk k' =>
        rw [ek] at hf2
        have ee : k = k' := by simpa [isMk] using hf2
        subst ee
        have g := hg x hm
        unfold DefI.good at g
        simp only [Bool.and_eq_true, decide_eq_true_eq, ek] at g
        obtain ⟨_, at_, hc⟩ := g
        obtain ⟨nmC, qc⟩ := Option.isSome_iff_exists.mp hc
        have ecn : t.cn k = nmC := by unfold Tab.cn; rw [qc]; rfl
        have mt := He.meth_ok (c.fact (f := .he (.meth (t.cn k) "__init__")) (mem_fas hm (by unfold DefI.fas; rw [ek]; simp)))
        have mk := He.mkr_ok (c.fact (f := .he (.mkr (t.cn k))) (mem_fas hm (by unfold DefI.fas; rw [ek]; simp)))
        have gl := He.glo_ok X G (c.fact (f := .he (.glo (t.cn k))) (mem_fas hm (by unfold DefI.fas; rw [ek]; simp)))
        have e1 : He.fAd K x.at_ = He.ma K (He.ga K (t.cn k)) "__init__" := by rw [at_]; rfl
        obtain ⟨fd, fl⟩ := fl_of hn c hb hs hg q (by rw [e1]; exact mt.kp)
        refine ⟨He.ga K (t.cn k), He.fAd K x.at_, fd, x.ps, ?_, gl, ?_, fl⟩
        · show (t.cls.lookup k).map (He.ga K) = _
          rw [qc, ecn]; rfl
        · rw [e1]; exact mk
      | _ => rw [ek] at hf2; cases hf2
  cls := fun k C hC => by
    have hC' : (t.cls.lookup k).map (He.ga K) = some C := hC
    cases qc : t.cls.lookup k with
    | none => rw [qc] at hC'; simp at hC'
    | some x =>
      rw [qc] at hC'
      simp at hC'
      subst hC'
      have mm : ∀ f, f ∈ (Fq.he (.cls x) :: ((t.flds.lookup k).getD []).map fun f => Fq.he (.noat x (t.fld f))) → f ∈ t.fas := fun f hf => by
        unfold Tab.fas
        exact List.mem_append_left _ (List.mem_append_right _ (List.mem_flatMap.mpr ⟨_, lookup_mem qc, hf⟩))
      refine ⟨He.cls_ok (c.fact (mm _ List.mem_cons_self)), fun f j hj => ?_⟩
      have hfm : f ∈ (t.flds.lookup k).getD [] := by
        have : ∀ (l : List Nat) (j : Nat), fieldIx l f = some j → f ∈ l := by
          intro l
          induction l with
          | nil => intro j hj; simp [fieldIx] at hj
          | cons g r ih =>
            intro j hj
            unfold fieldIx at hj
            split at hj
            · rename_i e; rw [e]; exact List.mem_cons_self
            · cases q : fieldIx r f with
              | none => rw [q] at hj; simp at hj
              | some i => exact List.mem_cons_of_mem _ (ih i q)
        exact this _ j hj
      exact He.noat_ok (c.fact (mm _ (List.mem_cons_of_mem _ (List.mem_map_of_mem (f := fun f => Fq.he (.noat x (t.fld f))) hfm))))
theorem excOk_of (hn : t.nd = true) (X : K.In h) (G : h.Ns mainGlobals mg) (c : SaysQ t.fas t.fns K) : ExcOk (t.wd hn K) mg where
  ex := fun k => by
    have m : t.en k ∈ t.exd :: t.exc.map (·.2) := by
      unfold Tab.en
      cases q : t.exc.lookup k with
      | none => exact List.mem_cons_self
      | some x => exact List.mem_cons_of_mem _ (List.mem_map.mpr ⟨_, lookup_mem q, rfl⟩)
    have mm : ∀ f, f ∈ [Fq.he (.exc (t.en k)), Fq.he (.glo (t.en k))] → f ∈ t.fas := fun f hf => by
      unfold Tab.fas
      exact List.mem_append_right _ (List.mem_flatMap.mpr ⟨_, m, hf⟩)
    obtain ⟨e1, e2, e3, e4⟩ := He.exc_ok (c.fact (mm _ List.mem_cons_self))
    have gl := He.glo_ok X G (c.fact (mm _ (List.mem_cons_of_mem _ List.mem_cons_self)))
    exact ⟨He.ga K (t.en k), He.veBase, "ValueError", _, _, rfl, PySem.F.excBase_ValueError, e1, gl, e2, e3, e4⟩
end
end Q
end
section
set_option Elab.async false
set_option linter.all false
set_option maxRecDepth 100000
namespace Q
open PySem PySem.Spec PyProof.Rows L2
/-! a law's end -/
/-- a heap in which the script alone may be tracked -/
def scriptH (K : PySem.W.Frag) (a : Addr) (o : Obj) (vs : List V) : Hp := match K.lookup a with
  | some _ => fun _ => none
  | none => fun b => if b = a then some (.frz o (.lst vs)) else none
theorem scriptH_at {K : PySem.W.Frag} {a : Addr} {o : Obj} {vs : List V} {b : Addr} {u : HO} (h : scriptH K a o vs b = some u) : b = a ∧ K.lookup a = none ∧ u = .frz o (.lst vs) := by
  unfold scriptH at h
  cases q : K.lookup a with
  | some o =>
    simp only [q] at h
    cases h
  | none =>
    simp only [q] at h
    by_cases eb : b = a
    · rw [if_pos eb] at h
      exact ⟨eb, rfl, (Option.some.inj h).symm⟩
    · rw [if_neg eb] at h
      cases h
theorem law_callG {P : Program} {w : World} {K : PySem.W.Frag} {mg mb : Str → Option Value} {CX : CXT} {k : Nat} {fa a : Addr} {fd : FuncData} {x : Str} {sp : Sp} {s₁ : Shared} {vs : List Value} {ns : List Int}
    (inK : K.In s₁.heap) (glob : s₁.heap.Ns mainGlobals mg) (boot : s₁.heap.Ns builtinsNs mb) (bootIs : ∀ x : Str, x ≠ "__name__" → mb x = bootBuiltins x) (noLimit : s₁.heap.NoLimit) (noGens : s₁.gens = #[])
    (there : s₁.heap.get? a = some { cls := .type "list", data := .seq vs.toArray }) (whole : IntsAre vs ns) (short : ns.length ≤ sizeLine) (room : Room k callerA)
    (F : ∀ base : Heap, K.In base → base.Ns mainGlobals mg → FnG P w K mg base CX k fa fd [x] sp) (bnd : ∀ (s : Shared) (u : Value), BindsTo s fd ⟨[u], []⟩ [(x, u)])
    (start : ∀ H : Hp, Only H → SqL K H a (ns.map V.int) → sp [.ref a] H (fun v _ => v = .bl true) fun _ _ _ => False)
    (quiet : ∀ H e s', CX [] H s₁ (fun _ _ _ => False) e s' → False) :
    codeAny (model P w) callerA (.call (.ref fa) ⟨[.ref a], []⟩) (fun r s' => r = .ok (.ret (.bool true)) ∧ OldK s₁.heap s'.heap ∧ s'.os = s₁.os ∧ AllBare s'.gens) s₁ := by
  have vals : Vals (ns.map V.int) vs := vals_ints whole
  obtain ⟨ob, hob⟩ : ∃ ob : Obj, ob = { cls := .type "list", data := .seq vs.toArray } := ⟨_, rfl⟩
  obtain ⟨H, hH⟩ : ∃ H : Hp, H = scriptH K a ob (ns.map V.int) := ⟨_, rfl⟩
  have at_ : ∀ {b : Addr} {u : HO}, H b = some u → b = a ∧ K.lookup a = none ∧ u = .frz ob (.lst (ns.map V.int)) := fun {b u} h => scriptH_at (hH ▸ h)
  have only : Only H := fun b => by
    cases q : H b with
    | none => exact Or.inl rfl
    | some u => exact Or.inr ⟨ob, ns.map V.int, by rw [(at_ q).2.2]⟩
  have seq : SqL K H a (ns.map V.int) := by
    cases q : K.lookup a with
    | some o =>
      have same := inK a o q
      rw [there] at same
      cases same
      exact Or.inr ⟨_, vs.toArray, _, q, rfl, rfl, rfl, by rw [List.size_toArray, whole.length]; exact short, by simpa using vals⟩
    | none =>
      refine Or.inl (Or.inr ⟨ob, ?_⟩)
      rw [hH]
      unfold scriptH
      rw [q]
      exact if_pos rfl
  have ok : HOk P w H s₁.heap := fun b u h => by
    obtain ⟨eb, _, eu⟩ := at_ h
    subst eb
    subst eu
    subst hob
    exact ⟨there, by rw [List.length_map]; exact short, vs, _, vals, there⟩
  -- what isn't the script stands in what is hidden
  have stays : ∀ {b : Addr} {o : Obj}, s₁.heap.get? b = some o → H b = none → (hidT s₁.heap H).get? b = some o := fun h n => hidT_get h n
  have dicts : ∀ {b : Addr} {m : Str → Option Value}, s₁.heap.Ns b m → (hidT s₁.heap H).Ns b m := by
    rintro b m ⟨o, es, ep, h, d, r⟩
    refine ⟨o, es, ep, stays h ?_, d, r⟩
    cases q : H b with
    | none => rfl
    | some u =>
      have eb := (at_ q).1
      subst eb
      rw [there] at h
      cases h
      cases (show Data.seq vs.toArray _ = Data.dict es ep from d)
  have inB : K.In (hidT s₁.heap H) := fun b o h => stays (inK b o h) (by
    cases q : H b with
    | none => rfl
    | some u =>
      obtain ⟨eb, no, _⟩ := at_ q
      rw [eb, no] at h
      cases h)
  have mod : Mod K mg (hidT s₁.heap H) := ⟨inB, dicts glob, ⟨mb, dicts boot, bootIs⟩, by
    obtain ⟨mc, h1, h2⟩ := noLimit
    exact ⟨mc, dicts h1, h2⟩⟩
  have env : Env0 P w K mg (hidT s₁.heap H) callerA [] s₁ H := ⟨rfl, mod, fun b o h => of_hidT h, Nat.le_of_eq (hidT_size _ _), trivial, fun b h => (by cases (show b ∈ ([] : List Addr) from h)), ok, .of_eq noGens⟩
  refine codeAny_mono ((F _ inB (dicts glob)).run callerA [] s₁ H ⟨[.ref a], []⟩ [.ref a] [.ref a] _ _ room rfl env (bnd s₁ (.ref a)) (.cons rfl .nil) (start H only seq)) ?_
  intro r s' out
  match r with
  | .error e => exact (quiet H e s' out).elim
  | .ok .next => exact out.elim
  | .ok .brk => exact out.elim
  | .ok .cont => exact out.elim
  | .ok (.ret u) =>
    obtain ⟨v, H', os, bare, un, ok', ru, truth⟩ := out
    obtain rfl : v = V.bl true := truth
    obtain rfl : u = Value.bool true := ru
    refine ⟨rfl, OldK.of_keep ?_, os, bare⟩
    intro b o h
    cases q : H b with
    | none => exact un.keep b o h q (fun z => (by cases (show b ∈ ([] : List Addr) from z))) (by simp)
    | some u =>
      obtain ⟨_, _, eu⟩ := at_ q
      subst eu
      have h1 := (ok b _ q).1
      have h2 := (ok' b _ (un.frzs b ob _ q)).1
      rw [h] at h1
      cases h1
      exact h2
theorem walk_ofW {l : PySem.W.OpenLaw} {n k : Nat} {q : Program} {loose : List Str} {XP : (Str → Option Value) → Heap → Prop} {YP : World → Heap → Prop} {d : DefRec} {CX : World → CXT} {x : Str}
    (hn : l.most = some n) (hn2 : n ≤ sizeLine) (hdf : d.params.defaults = []) (hr : Room k callerA)
    (F : ∀ (w : World) (mg : Str → Option Value) (fa : Addr) (h : Heap), YP w h → h.Ns mainGlobals mg → mg d.name = some (.ref fa) →
      ∃ (K : PySem.W.Frag) (fd : FuncData) (sp : Sp), K.In h ∧ (∀ (s : Shared) (u : Value), BindsTo s fd ⟨[u], []⟩ [(x, u)]) ∧
        (∀ (H : Hp) (a : Addr) (ns : List Int), ns.length ≤ n → Only H → SqL K H a (ns.map V.int) → sp [.ref a] H (fun v _ => v = .bl true) fun _ _ _ => False) ∧
        ∀ base : Heap, K.In base → base.Ns mainGlobals mg → FnG l.prog w K mg base (CX w) k fa fd [x] sp)
    (hCX : ∀ (w : World) (H : Hp) (s : Shared) (e : Value) (s' : Shared), CX w [] H s (fun _ _ _ => False) e s' → False) :
    PySem.W.WalkO q loose XP YP l.row.toRowW d [] (fun f vs => PySem.call f vs) := by
  refine Att.attach_call hn hdf fun w s₀ s₁ mg mb fa o pm cd doc a vs ns G Y ho hd hcd hmg hobj hints hlen hg => ?_
  obtain ⟨K, fd, sp, KX, hb, hsp, hF⟩ := F w mg fa _ Y G.T.g hmg
  exact law_callG KX G.T.g G.T.b G.T.builtins G.T.nolimit hg hobj hints (Nat.le_trans hlen hn2) hr hF hb (fun H hO hS => hsp H a ns hlen hO hS) fun H e s' => hCX w H s₁ e s'
theorem prs_ints {K : PySem.W.Frag} {F : List Addr} {H : Hp} : ∀ ns : List Int, Prs K F H (ns.map D.int) (ns.map V.int)
  | [] => .nil
  | n :: ns => .cons (.int n) (prs_ints ns)
theorem law_sp {w : Wd} {g : List D → FR} (h : ∀ ns : List Int, ns.length ≤ 63 → ∃ ps, g [.fls (ns.map .int)] = .ok (.bl true) ps) (H : Hp) (a : Addr) (ns : List Int) (hl : ns.length ≤ 63) (hO : Only H) (hS : SqL w.K H a (ns.map V.int)) :
    spF w g [.ref a] H (fun v _ => v = .bl true) fun _ _ _ => False := by
  obtain ⟨ps, e⟩ := h ns hl
  have go : ∀ F : List Addr, ((a ∉ F ∧ ∃ o, H a = some (.frz o (.lst (ns.map V.int)))) ∨ KLs w.K a (ns.map V.int)) → (∀ p ∈ F, ∃ ob u, H p = some (.frz ob u)) → spF w g [.ref a] H (fun v _ => v = .bl true) fun _ _ _ => False := by
    intro F hp hF
    refine ⟨F, [(.fls (ns.map .int), .ref a)], [], rfl, ⟨.cons (.pr (.fls hp (prs_ints ns))) .nil, .nil, hF⟩, ?_⟩
    show match g [.fls (ns.map .int)] with
      | .ok d ps => _
      | .er c ps => _
      | .no => False
    rw [e]
    intro v H' L' A' _ o _
    cases o.ml with
    | cons h1 h2 =>
      cases h1 with
      | pr h => cases h; rfl
  rcases hS with (hS | ⟨o, hS⟩) | hS
  · rcases hO a with z | ⟨o, xs, z⟩
    · rw [z] at hS; cases hS
    · rw [z] at hS; cases hS
  · exact go [] (.inl ⟨by simp, o, hS⟩) fun p hp => by simp at hp
  · exact go [] (.inr hS) fun p hp => by simp at hp
section
variable {t : Tab}
/-- the last step -/
theorem law_F (hn : t.nd = true) (hb : ∀ x ∈ t.defs, x.bd) (hs : ∀ x ∈ t.defs, FnScope x.N x.ps (defScope x.st)) (hg : ∀ x ∈ t.defs, x.good t = true) {x : DefI} {n : Nat} {p : Str} (hx : t.defs.find? (fun y => y.id == x.id) = some x) (hk : isFn x.kd = true) (hp : x.ps = [p])
    (law : ∀ ns : List Int, ns.length ≤ 63 → ∃ ps, run t.sg t.tb (n + 1) x.id [.fls (ns.map .int)] = .ok (.bl true) ps) {P : Program} {w : World} {mg : Str → Option Value} {fa : Addr} {h : Heap} (hY : ∃ K : PySem.W.Frag, K.In h ∧ SaysQ t.fas t.fns K) (G : h.Ns mainGlobals mg) (hm : mg x.nm = some (.ref fa)) :
    ∃ (K : PySem.W.Frag) (fd : FuncData) (sp : Sp), K.In h ∧ (∀ (s : Shared) (u : Value), BindsTo s fd ⟨[u], []⟩ [(p, u)]) ∧
        (∀ (H : Hp) (a : Addr) (ns : List Int), ns.length ≤ 63 → Only H → SqL K H a (ns.map V.int) → sp [.ref a] H (fun v _ => v = .bl true) fun _ _ _ => False) ∧
        ∀ base : Heap, K.In base → base.Ns mainGlobals mg → FnG P w K mg base (L2.CX P w) (2 * (n + 1)) fa fd [p] sp := by
  obtain ⟨K, X, c⟩ := hY
  have E := envL_of hn X G c hb hs hg
  have O := excOk_of (mg := mg) hn X G c
  have hm2 : x ∈ t.defs := List.mem_of_find?_eq_some hx
  obtain ⟨a, fd, ps, h1, h2, fl⟩ := E.fn x.id (by
    show isFn (t.kd x.id) = true
    unfold Tab.kd; rw [hx]; exact hk)
  have en : (t.wd hn K).n.fn x.id = x.nm := by
    show t.fnn x.id = x.nm
    unfold Tab.fnn; rw [hx]
  rw [en, hm] at h1
  have ea : fa = a := by
    have := Option.some.inj h1
    cases this; rfl
  subst ea
  have kp := h2
  have g := hg x hm2
  unfold DefI.good at g
  obtain ⟨oc, od, osl, kV, doc, pm, an, cdv, ct, l, hc⟩ := c.def_ (d := x.d) (List.mem_map_of_mem hm2)
  have ek : x.kd = .fn := by cases q : x.kd <;> rw [q] at hk <;> first | rfl | cases hk
  simp only [Bool.and_eq_true, decide_eq_true_eq, ek] at g
  obtain ⟨⟨⟨g1, g2⟩, g3⟩, g4⟩ := g
  have eat : He.fAd K x.at_ = He.ga K x.nm := by rw [g4]; rfl
  have gl := He.glo_ok X G (c.fact (f := .he (.glo x.nm)) (mem_fas hm2 (by unfold DefI.fas; rw [ek]; simp)))
  have efa : fa = He.ga K x.nm := by
    rw [hm] at gl
    have := Option.some.inj gl
    cases this; rfl
  have F : L2.Fun K x.name x.qual x.st (He.fAd K x.at_) _ := fun_mk l hc (by rw [eat, ← efa]; exact kp)
  have fl2 : FL (t.wd hn K) t.tb x.id fa (PySem.W.fnOf x.name x.qual (defArgs x.st) (defBody x.st) (defScope x.st) .none kV doc pm an cdv ct) x.ps := by
    rw [efa, ← eat]
    exact ⟨x.name, x.qual, x.st, x.N, x.fn, by unfold Tab.tb; rw [hx]; rfl, F, hs x hm2, g1, g2, g3, F.binds (hb x hm2)⟩
  refine ⟨K, PySem.W.fnOf x.name x.qual (defArgs x.st) (defBody x.st) (defScope x.st) .none kV doc pm an cdv ct, spF (t.wd hn K) (run t.sg t.tb (n + 1) x.id), X, fun s u => ?_, fun H a ns hl hO hS => law_sp law H a ns hl hO hS, fun base _ _ => ?_⟩
  · have := hb x hm2 kV doc pm an cdv ct [u] (by rw [hp]; rfl)
    rw [hp] at this
    exact .of_eq this
  · have := run_ok (P := P) (wo := w) (base := base) E O n fl2
    rw [hp] at this
    exact this
end
theorem cx_no (P : Program) (w : World) (H : Hp) (s : Shared) (e : Value) (s' : Shared) (h : L2.CX P w [] H s (fun _ _ _ => False) e s') : False := by
  obtain ⟨a, B, H', cls, d, _, _, _, _, _, _, _, hE⟩ := h
  exact hE
end Q
end
section
set_option linter.all false
set_option maxRecDepth 100000
set_option maxHeartbeats 0
namespace Q
open PySem
/-! the program: core texts of its defs (printed by gen.py) -/
/-- 0 -/
def p_balance_Sums___init___N : List Str := ["self", "rows", "colour"]
def p_balance_Sums___init__ : Fn := { np := 3, ns := 3, io := [0, 1, 2], body :=
  (.cons (.stf (.var 0) 0 (.var 1))
  (.cons (.stf (.var 0) 1 (.var 2))
  (.cons (.stf (.var 0) 2 .dt0)
  (.cons (.stf (.var 0) 3 .dk0)
  .nil)))) }

/-- 1 -/
def p_balance_Sums_quarter_N : List Str := ["self", "number", "k"]
def p_balance_Sums_quarter : Fn := { np := 3, ns := 3, io := [0, 1, 2], body :=
  (.cons (.ite (.cmp .lt (.var 1) (.cst (.int 2)))
  (.cons (.ret (.var 1))
  .nil)
  .nil)
  (.cons (.ret (.bin .ix (.bin .ix (.att (.var 0) 0) (.bin .sub (.var 1) (.cst (.int 2)))) (.var 2)))
  .nil)) }

/-- 2 -/
def p_balance_Sums_is_at_N : List Str := ["self", "number", "k"]
def p_balance_Sums_is_at : Fn := { np := 3, ns := 3, io := [0, 2], body :=
  (.cons (.while_ (.cmp .gt (.var 1) (.cst (.int 1)))
  (.cons (.set 1 (.meth 0 1 (.var 0) (.cons (.var 1) (.cons (.var 2) .nil))))
  .nil))
  (.cons (.ret (.cmp .eq (.var 1) (.att (.var 0) 1)))
  .nil)) }

/-- 3 -/
def p_balance_Sums_meets_N : List Str := ["self", "numbers", "k", "number"]
def p_balance_Sums_meets : Fn := { np := 2, ns := 4, io := [0, 1], body :=
  (.cons (.ret (.bi .all (.cons (.comp [2, 3] .enum (.cons (.var 1) .nil) [2, 3] (.cst (.bl true)) (.meth 0 2 (.var 0) (.cons (.var 3) (.cons (.bin .sub (.cst (.int 3)) (.var 2)) .nil)))) .nil)))
  .nil) }

/-- 4 -/
def p_balance_Sums_halves_N : List Str := ["self", "one", "other", "is_level", "here"]
def p_balance_Sums_halves : Fn := { np := 4, ns := 5, io := [0, 1, 2, 3], body :=
  (.cons (.ite (.var 3)
  (.cons (.set 4 (.lst (.cons (.meth 0 1 (.var 0) (.cons (.var 1) (.cons (.cst (.int 1)) .nil))) (.cons (.meth 0 1 (.var 0) (.cons (.var 2) (.cons (.cst (.int 0)) .nil))) (.cons (.meth 0 1 (.var 0) (.cons (.var 1) (.cons (.cst (.int 3)) .nil))) (.cons (.meth 0 1 (.var 0) (.cons (.var 2) (.cons (.cst (.int 2)) .nil))) .nil))))))
  .nil)
  (.cons (.set 4 (.lst (.cons (.meth 0 1 (.var 0) (.cons (.var 1) (.cons (.cst (.int 2)) .nil))) (.cons (.meth 0 1 (.var 0) (.cons (.var 1) (.cons (.cst (.int 3)) .nil))) (.cons (.meth 0 1 (.var 0) (.cons (.var 2) (.cons (.cst (.int 0)) .nil))) (.cons (.meth 0 1 (.var 0) (.cons (.var 2) (.cons (.cst (.int 1)) .nil))) .nil))))))
  .nil))
  (.cons (.ret (.var 4))
  .nil)) }

/-- 5 -/
def p_balance_Sums_runs_N : List Str := ["self", "one", "other", "is_level", "key", "a", "b", "c", "d", "first", "second", "many"]
def p_balance_Sums_runs : Fn := { np := 4, ns := 12, io := [0, 1, 2, 3], body :=
  (.cons (.ite (.or_ (.cmp .eq (.var 1) (.bin .sub (.cst (.int 1)) (.att (.var 0) 1))) (.cmp .eq (.var 2) (.bin .sub (.cst (.int 1)) (.att (.var 0) 1))))
  (.cons (.ret (.cst (.int 0)))
  .nil)
  .nil)
  (.cons (.ite (.and_ (.cmp .eq (.var 1) (.att (.var 0) 1)) (.cmp .eq (.var 2) (.att (.var 0) 1)))
  (.cons (.ret (.cst (.int 1)))
  .nil)
  .nil)
  (.cons (.set 4 (.tup (.cons (.var 1) (.cons (.var 2) (.cons (.var 3) .nil)))))
  (.cons (.ite (.cmp .nin (.var 4) (.att (.var 0) 2))
  (.cons (.unp [5, 6, 7, 8] (.meth 0 4 (.var 0) (.cons (.var 1) (.cons (.var 2) (.cons (.var 3) .nil)))))
  (.cons (.par 9 10 (.tup (.cons (.var 5) (.cons (.var 6) .nil))) (.tup (.cons (.var 7) (.cons (.var 8) .nil))))
  (.cons (.ite (.not_ (.var 3))
  (.cons (.par 9 10 (.tup (.cons (.var 5) (.cons (.var 7) .nil))) (.tup (.cons (.var 6) (.cons (.var 8) .nil))))
  .nil)
  .nil)
  (.cons (.set 11 (.bin .add (.meth 0 5 (.var 0) (.cons (.bin .ix (.var 9) (.cst (.int 0))) (.cons (.bin .ix (.var 9) (.cst (.int 1))) (.cons (.var 3) .nil)))) (.meth 0 5 (.var 0) (.cons (.bin .ix (.var 10) (.cst (.int 0))) (.cons (.bin .ix (.var 10) (.cst (.int 1))) (.cons (.var 3) .nil))))))
  (.cons (.sts (.att (.var 0) 2) (.var 4) (.bin .sub (.var 11) (.bi .int (.cons (.meth 0 3 (.var 0) (.cons (.lst (.cons (.var 5) (.cons (.var 6) (.cons (.var 7) (.cons (.var 8) .nil))))) .nil)) .nil))))
  .nil)))))
  .nil)
  (.cons (.ret (.bin .ix (.att (.var 0) 2) (.var 4)))
  .nil))))) }

/-- 6 -/
def p_balance_Sums_sum_of_N : List Str := ["self", "number", "a", "b", "c", "d", "k", "many", "one"]
def p_balance_Sums_sum_of : Fn := { np := 2, ns := 9, io := [0, 1], body :=
  (.cons (.ite (.cmp .lt (.var 1) (.cst (.int 2)))
  (.cons (.ret (.bi .int (.cons (.cmp .eq (.var 1) (.att (.var 0) 1)) .nil)))
  .nil)
  .nil)
  (.cons (.ite (.cmp .nin (.var 1) (.att (.var 0) 3))
  (.cons (.unp [2, 3, 4, 5] (.comp [6] .rng (.cons (.cst (.int 4)) .nil) [6] (.cst (.bl true)) (.meth 0 1 (.var 0) (.cons (.var 1) (.cons (.var 6) .nil)))))
  (.cons (.set 7 (.bin .add (.bi .sum (.cons (.comp [8] .seq (.cons (.tup (.cons (.var 2) (.cons (.var 3) (.cons (.var 4) (.cons (.var 5) .nil))))) .nil) [8] (.cst (.bl true)) (.meth 0 6 (.var 0) (.cons (.var 8) .nil))) .nil)) (.bi .int (.cons (.meth 0 3 (.var 0) (.cons (.lst (.cons (.var 2) (.cons (.var 3) (.cons (.var 4) (.cons (.var 5) .nil))))) .nil)) .nil))))
  (.cons (.set 7 (.bin .sub (.bin .sub (.var 7) (.meth 0 5 (.var 0) (.cons (.var 2) (.cons (.var 3) (.cons (.cst (.bl true)) .nil))))) (.meth 0 5 (.var 0) (.cons (.var 4) (.cons (.var 5) (.cons (.cst (.bl true)) .nil))))))
  (.cons (.sts (.att (.var 0) 3) (.var 1) (.bin .sub (.bin .sub (.var 7) (.meth 0 5 (.var 0) (.cons (.var 2) (.cons (.var 4) (.cons (.cst (.bl false)) .nil))))) (.meth 0 5 (.var 0) (.cons (.var 3) (.cons (.var 5) (.cons (.cst (.bl false)) .nil))))))
  .nil))))
  .nil)
  (.cons (.ret (.bin .ix (.att (.var 0) 3) (.var 1)))
  .nil))) }

/-- 7 -/
def p_balance_Sums_ringed_N : List Str := ["self", "number", "many", "k"]
def p_balance_Sums_ringed : Fn := { np := 2, ns := 4, io := [0, 1], body :=
  (.cons (.set 2 (.bin .add (.meth 0 6 (.var 0) (.cons (.var 1) .nil)) (.bi .len (.cons (.comp [3] .rng (.cons (.cst (.int 4)) .nil) [3] (.meth 0 2 (.var 0) (.cons (.var 1) (.cons (.var 3) .nil))) (.var 3)) .nil))))
  (.cons (.set 2 (.bin .sub (.bin .sub (.var 2) (.meth 0 5 (.var 0) (.cons (.var 1) (.cons (.att (.var 0) 1) (.cons (.cst (.bl true)) .nil))))) (.meth 0 5 (.var 0) (.cons (.att (.var 0) 1) (.cons (.var 1) (.cons (.cst (.bl true)) .nil))))))
  (.cons (.ret (.bin .sub (.bin .sub (.var 2) (.meth 0 5 (.var 0) (.cons (.var 1) (.cons (.att (.var 0) 1) (.cons (.cst (.bl false)) .nil))))) (.meth 0 5 (.var 0) (.cons (.att (.var 0) 1) (.cons (.var 1) (.cons (.cst (.bl false)) .nil))))))
  .nil))) }

/-- 9 -/
def p_beside_strip_beyond_N : List Str := ["box", "side", "row", "column", "size"]
def p_beside_strip_beyond : Fn := { np := 2, ns := 5, io := [0, 1], body :=
  (.cons (.unp [2, 3, 4] (.var 0))
  (.cons (.ite (.cmp .eq (.var 1) (.glb 0))
  (.cons (.ret (.tup (.cons (.bin .sub (.var 2) (.cst (.int 1))) (.cons (.var 3) (.cons (.cst (.int 1)) (.cons (.var 4) .nil))))))
  .nil)
  .nil)
  (.cons (.ite (.cmp .eq (.var 1) (.glb 1))
  (.cons (.ret (.tup (.cons (.var 2) (.cons (.bin .add (.var 3) (.var 4)) (.cons (.var 4) (.cons (.cst (.int 1)) .nil))))))
  .nil)
  .nil)
  (.cons (.ite (.cmp .eq (.var 1) (.glb 2))
  (.cons (.ret (.tup (.cons (.bin .add (.var 2) (.var 4)) (.cons (.var 3) (.cons (.cst (.int 1)) (.cons (.var 4) .nil))))))
  .nil)
  .nil)
  (.cons (.ret (.tup (.cons (.var 2) (.cons (.bin .sub (.var 3) (.cst (.int 1))) (.cons (.var 4) (.cons (.cst (.int 1)) .nil))))))
  .nil))))) }

/-- 10 -/
def p_beside_do_overlap_N : List Str := ["box", "strip", "row", "column", "size", "first", "left", "high", "wide"]
def p_beside_do_overlap : Fn := { np := 2, ns := 9, io := [0, 1], body :=
  (.cons (.unp [2, 3, 4] (.var 0))
  (.cons (.unp [5, 6, 7, 8] (.var 1))
  (.cons (.ite (.or_ (.cmp .ge (.var 5) (.bin .add (.var 2) (.var 4))) (.cmp .ge (.var 2) (.bin .add (.var 5) (.var 7))))
  (.cons (.ret (.cst (.bl false)))
  .nil)
  .nil)
  (.cons (.ret (.and_ (.cmp .lt (.var 6) (.bin .add (.var 3) (.var 4))) (.cmp .lt (.var 3) (.bin .add (.var 6) (.var 8)))))
  .nil)))) }

/-- 12 -/
def p_beside_columns_first_N : List Str := ["stand", "row", "column", "leaf"]
def p_beside_columns_first : Fn := { np := 1, ns := 4, io := [0], body :=
  (.cons (.unp [1, 2, 3] (.var 0))
  (.cons (.ret (.tup (.cons (.var 2) (.cons (.var 1) .nil))))
  .nil)) }

/-- 13 -/
def p_board_leaves_along_N : List Str := ["shape", "address", "found", "k", "number", "figure", "beside"]
def p_board_leaves_along : Fn := { np := 2, ns := 7, io := [0, 1], body :=
  (.cons (.set 2 (.lst .nil))
  (.cons (.for_ [3] .rng (.cons (.bin .add (.bi .len (.cons (.var 1) .nil)) (.cst (.int 1))) .nil)
  (.cons (.set 4 (.call 109 (.cons (.var 0) (.cons (.slc (.var 1) .nop (.var 3)) .nil))))
  (.cons (.ite (.cmp .lt (.var 4) (.cst (.int 2)))
  (.cons (.ret (.bin .add (.var 2) (.lst (.cons (.tup (.cons (.slc (.var 1) .nop (.var 3)) (.cons (.cmp .eq (.var 4) (.cst (.int 1))) .nil))) .nil))))
  .nil)
  .nil)
  (.cons (.for_ [5] .seq (.cons (.glb 10) .nil)
  (.cons (.set 6 (.call 109 (.cons (.var 0) (.cons (.bin .add (.slc (.var 1) .nop (.var 3)) (.var 5)) .nil))))
  (.cons (.ite (.and_ (.cmp .lt (.var 6) (.cst (.int 2))) (.cmp .ne (.var 5) (.bin .ix (.var 1) (.var 3))))
  (.cons (.exp (.mut .append (.var 2) (.cons (.tup (.cons (.bin .add (.slc (.var 1) .nop (.var 3)) (.var 5)) (.cons (.cmp .eq (.var 6) (.cst (.int 1))) .nil))) .nil)))
  .nil)
  .nil)
  .nil)))
  .nil))))
  (.cons (.ret (.var 2))
  .nil))) }

/-- 14 -/
def p_board_Board___init___N : List Str := ["self", "shape"]
def p_board_Board___init__ : Fn := { np := 2, ns := 2, io := [0, 1], body :=
  (.cons (.exp (.call 181 (.cons (.var 1) .nil)))
  (.cons (.stf (.var 0) 4 (.var 1))
  (.cons (.stf (.var 0) 5 (.lst .nil))
  .nil))) }

/-- 16 -/
def p_board_Board_put_N : List Str := ["self", "row", "column"]
def p_board_Board_put : Fn := { np := 3, ns := 3, io := [0, 1, 2], body :=
  (.cons (.ret (.meth 1 15 (.var 0) (.cons (.var 1) (.cons (.var 2) (.cons (.cst (.bl true)) .nil)))))
  .nil) }

/-- 17 -/
def p_board_Board_take_N : List Str := ["self", "row", "column"]
def p_board_Board_take : Fn := { np := 3, ns := 3, io := [0, 1, 2], body :=
  (.cons (.ret (.meth 1 15 (.var 0) (.cons (.var 1) (.cons (.var 2) (.cons (.cst (.bl false)) .nil)))))
  .nil) }

/-- 18 -/
def p_board_Board_undo_N : List Str := ["self"]
def p_board_Board_undo : Fn := { np := 1, ns := 1, io := [0], body :=
  (.cons (.ite (.cmp .eq (.att (.var 0) 5) (.lst .nil))
  (.cons (.ret (.cst (.bl false)))
  .nil)
  .nil)
  (.cons (.stf (.var 0) 4 (.mut .pop (.att (.var 0) 5) .nil))
  (.cons (.ret (.cst (.bl true)))
  .nil))) }

/-- 19 -/
def p_board_Board_shape_N : List Str := ["self"]
def p_board_Board_shape : Fn := { np := 1, ns := 1, io := [0], body :=
  (.cons (.ret (.att (.var 0) 4))
  .nil) }

/-- 20 -/
def p_board_Board_many_N : List Str := ["self"]
def p_board_Board_many : Fn := { np := 1, ns := 1, io := [0], body :=
  (.cons (.ret (.call 35 (.cons (.att (.var 0) 4) .nil)))
  .nil) }

/-- 21 -/
def p_board_Board_parts_N : List Str := ["self"]
def p_board_Board_parts : Fn := { np := 1, ns := 1, io := [0], body :=
  (.cons (.ret (.bi .len (.cons (.call 132 (.cons (.att (.var 0) 4) (.cons (.glb 4) .nil))) .nil)))
  .nil) }

/-- 22 -/
def p_board_Board_holes_N : List Str := ["self"]
def p_board_Board_holes : Fn := { np := 1, ns := 1, io := [0], body :=
  (.cons (.ret (.bi .len (.cons (.call 133 (.cons (.att (.var 0) 4) (.cons (.glb 4) .nil))) .nil)))
  .nil) }

/-- 24 -/
def p_chains_steps_from_N : List Str := ["links", "first", "found", "last", "more", "here", "other"]
def p_chains_steps_from : Fn := { np := 2, ns := 7, io := [0, 1], body :=
  (.cons (.set 2 (.dkd (.cons (.var 1) (.cons (.cst .non) .nil))))
  (.cons (.set 3 (.lst (.cons (.var 1) .nil)))
  (.cons (.while_ (.cmp .ne (.var 3) (.lst .nil))
  (.cons (.set 4 (.lst .nil))
  (.cons (.for_ [5] .seq (.cons (.var 3) .nil)
  (.cons (.for_ [6] .seq (.cons (.bin .ix (.var 0) (.var 5)) .nil)
  (.cons (.ite (.cmp .nin (.var 6) (.var 2))
  (.cons (.sts (.var 2) (.var 6) (.var 5))
  (.cons (.exp (.mut .append (.var 4) (.cons (.var 6) .nil)))
  .nil))
  .nil)
  .nil))
  .nil))
  (.cons (.set 3 (.var 4))
  .nil))))
  (.cons (.ret (.var 2))
  .nil)))) }

/-- 26 -/
def p_chains_want_cell_of_N : List Str := ["n", "cell", "row", "column"]
def p_chains_want_cell_of : Fn := { np := 2, ns := 4, io := [0, 1], body :=
  (.cons (.set 2 (.cst .non))
  (.cons (.set 3 (.cst .non))
  (.cons (.ite (.and_ (.isi (.var 1) [.tuple]) (.cmp .eq (.bi .len (.cons (.var 1) .nil)) (.cst (.int 2))))
  (.cons (.unp [2, 3] (.var 1))
  .nil)
  .nil)
  (.cons (.exp (.call 61 (.cons (.var 0) (.cons (.var 2) (.cons (.var 3) .nil)))))
  .nil)))) }

/-- 27 -/
def p_counts_Counts___init___N : List Str := ["self", "shape"]
def p_counts_Counts___init__ : Fn := { np := 2, ns := 2, io := [0, 1], body :=
  (.cons (.stf (.var 0) 0 (.bin .ix (.var 1) (.cst (.int 2))))
  (.cons (.stf (.var 0) 6 (.dkd (.cons (.cst (.int 0)) (.cons (.cst (.int 1)) (.cons (.cst (.int 1)) (.cons (.cst (.int 1)) .nil))))))
  (.cons (.stf (.var 0) 7 .dt0)
  (.cons (.stf (.var 0) 8 .dt0)
  (.cons (.stf (.var 0) 9 .dt0)
  .nil))))) }

/-- 28 -/
def p_counts_Counts_quarters_N : List Str := ["self", "number"]
def p_counts_Counts_quarters : Fn := { np := 2, ns := 2, io := [0, 1], body :=
  (.cons (.ret (.bin .ix (.att (.var 0) 0) (.bin .sub (.var 1) (.cst (.int 2)))))
  .nil) }

/-- 29 -/
def p_counts_Counts_leaves_in_N : List Str := ["self", "number", "quarter"]
def p_counts_Counts_leaves_in : Fn := { np := 2, ns := 3, io := [0, 1], body :=
  (.cons (.ite (.cmp .nin (.var 1) (.att (.var 0) 6))
  (.cons (.sts (.att (.var 0) 6) (.var 1) (.bi .sum (.cons (.comp [2] .seq (.cons (.meth 2 28 (.var 0) (.cons (.var 1) .nil)) .nil) [2] (.cst (.bl true)) (.meth 2 29 (.var 0) (.cons (.var 2) .nil))) .nil)))
  .nil)
  .nil)
  (.cons (.ret (.bin .ix (.att (.var 0) 6) (.var 1)))
  .nil)) }

/-- 30 -/
def p_counts_Counts_sums_in_N : List Str := ["self", "number", "size"]
def p_counts_Counts_sums_in : Fn := { np := 3, ns := 3, io := [0, 1, 2], body :=
  (.cons (.exp (.call 500 (.cons (.cst (.int 0)) .nil)))
  .nil) }

/-- 31 -/
def p_counts_Counts_sums_of_quarters_N : List Str := ["self", "number", "size"]
def p_counts_Counts_sums_of_quarters : Fn := { np := 3, ns := 3, io := [0, 1, 2], body :=
  (.cons (.exp (.call 500 (.cons (.cst (.int 1)) .nil)))
  .nil) }

/-- 32 -/
def p_counts_Counts_ends_in_N : List Str := ["self", "number", "size", "side"]
def p_counts_Counts_ends_in : Fn := { np := 3, ns := 4, io := [0, 1, 2], body :=
  (.cons (.set 3 (.bin .shl (.cst (.int 1)) (.var 2)))
  (.cons (.ite (.cmp .eq (.var 1) (.cst (.int 0)))
  (.cons (.ret (.cst .non))
  .nil)
  .nil)
  (.cons (.ite (.cmp .eq (.var 1) (.cst (.int 1)))
  (.cons (.ret (.tup (.cons (.cst (.int 0)) (.cons (.cst (.int 0)) (.cons (.bin .sub (.var 3) (.cst (.int 1))) (.cons (.bin .sub (.var 3) (.cst (.int 1))) .nil))))))
  .nil)
  .nil)
  (.cons (.ite (.cmp .nin (.tup (.cons (.var 1) (.cons (.var 2) .nil))) (.att (.var 0) 8))
  (.cons (.sts (.att (.var 0) 8) (.tup (.cons (.var 1) (.cons (.var 2) .nil))) (.meth 2 33 (.var 0) (.cons (.var 1) (.cons (.var 2) .nil))))
  .nil)
  .nil)
  (.cons (.ret (.bin .ix (.att (.var 0) 8) (.tup (.cons (.var 1) (.cons (.var 2) .nil)))))
  .nil))))) }

/-- 33 -/
def p_counts_Counts_ends_of_quarters_N : List Str := ["self", "number", "size", "half", "some", "place", "quarter", "ends", "down", "right", "first", "one"]
def p_counts_Counts_ends_of_quarters : Fn := { np := 3, ns := 12, io := [0, 1, 2], body :=
  (.cons (.set 3 (.bin .shl (.cst (.int 1)) (.bin .sub (.var 2) (.cst (.int 1)))))
  (.cons (.set 4 (.lst .nil))
  (.cons (.for_ [5, 6] .enum (.cons (.meth 2 28 (.var 0) (.cons (.var 1) .nil)) .nil)
  (.cons (.set 7 (.meth 2 32 (.var 0) (.cons (.var 6) (.cons (.bin .sub (.var 2) (.cst (.int 1))) .nil))))
  (.cons (.ite (.cmp .isn (.var 7) (.cst .non))
  (.cons (.set 8 (.bin .mul (.var 3) (.bin .fdiv (.var 5) (.cst (.int 2)))))
  (.cons (.set 9 (.bin .mul (.var 3) (.bin .mod (.var 5) (.cst (.int 2)))))
  (.cons (.exp (.mut .append (.var 4) (.cons (.tup (.cons (.bin .add (.bin .ix (.var 7) (.cst (.int 0))) (.var 8)) (.cons (.bin .add (.bin .ix (.var 7) (.cst (.int 1))) (.var 9)) (.cons (.bin .add (.bin .ix (.var 7) (.cst (.int 2))) (.var 8)) (.cons (.bin .add (.bin .ix (.var 7) (.cst (.int 3))) (.var 9)) .nil))))) .nil)))
  .nil)))
  .nil)
  .nil)))
  (.cons (.set 10 (.tup (.cons (.bi .min (.cons (.comp [11] .seq (.cons (.var 4) .nil) [11] (.cst (.bl true)) (.bin .ix (.var 11) (.cst (.int 0)))) .nil)) (.cons (.bi .min (.cons (.comp [11] .seq (.cons (.var 4) .nil) [11] (.cst (.bl true)) (.bin .ix (.var 11) (.cst (.int 1)))) .nil)) .nil))))
  (.cons (.ret (.bin .add (.var 10) (.tup (.cons (.bi .max (.cons (.comp [11] .seq (.cons (.var 4) .nil) [11] (.cst (.bl true)) (.bin .ix (.var 11) (.cst (.int 2)))) .nil)) (.cons (.bi .max (.cons (.comp [11] .seq (.cons (.var 4) .nil) [11] (.cst (.bl true)) (.bin .ix (.var 11) (.cst (.int 3)))) .nil)) .nil)))))
  .nil))))) }

/-- 34 -/
def p_counts_Counts_parted_in_N : List Str := ["self", "number", "size", "least"]
def p_counts_Counts_parted_in : Fn := { np := 4, ns := 4, io := [0, 1, 2, 3], body :=
  (.cons (.exp (.call 500 (.cons (.cst (.int 2)) .nil)))
  .nil) }

/-- 40 -/
def p_deeds_want_two_N : List Str := ["one", "other"]
def p_deeds_want_two : Fn := { np := 2, ns := 2, io := [0, 1], body :=
  (.cons (.exp (.call 181 (.cons (.var 0) .nil)))
  (.cons (.exp (.call 181 (.cons (.var 1) .nil)))
  (.cons (.ite (.cmp .ne (.bin .ix (.var 0) (.cst (.int 0))) (.bin .ix (.var 1) (.cst (.int 0))))
  (.cons (.rais 10)
  .nil)
  .nil)
  .nil))) }

/-- 41 -/
def p_deeds_Overlay___init___N : List Str := ["self", "answers"]
def p_deeds_Overlay___init__ : Fn := { np := 2, ns := 2, io := [0, 1], body :=
  (.cons (.stf (.var 0) 10 (.var 1))
  (.cons (.stf (.var 0) 11 (.new 10 150 .nil))
  (.cons (.stf (.var 0) 12 .dt0)
  .nil))) }

/-- 42 -/
def p_deeds_Overlay_laid_N : List Str := ["self", "one", "other", "both", "found", "first", "second"]
def p_deeds_Overlay_laid : Fn := { np := 3, ns := 7, io := [0, 1, 2], body :=
  (.cons (.ite (.and_ (.cmp .lt (.var 1) (.cst (.int 2))) (.cmp .lt (.var 2) (.cst (.int 2))))
  (.cons (.ret (.bin .ix (.att (.var 0) 10) (.bin .add (.bin .mul (.cst (.int 2)) (.var 1)) (.var 2))))
  .nil)
  .nil)
  (.cons (.ite (.cmp .nin (.tup (.cons (.var 1) (.cons (.var 2) .nil))) (.att (.var 0) 12))
  (.cons (.set 3 (.lz (.cons (.meth 10 152 (.att (.var 0) 11) (.cons (.var 1) .nil)) (.cons (.meth 10 152 (.att (.var 0) 11) (.cons (.var 2) .nil)) .nil))))
  (.cons (.set 4 (.meth 10 151 (.att (.var 0) 11) (.cons (.bi .tuple (.cons (.comp [5, 6] .seq (.cons (.var 3) .nil) [5, 6] (.cst (.bl true)) (.meth 3 42 (.var 0) (.cons (.var 5) (.cons (.var 6) .nil)))) .nil)) .nil)))
  (.cons (.sts (.att (.var 0) 12) (.tup (.cons (.var 1) (.cons (.var 2) .nil))) (.var 4))
  .nil)))
  .nil)
  (.cons (.ret (.bin .ix (.att (.var 0) 12) (.tup (.cons (.var 1) (.cons (.var 2) .nil)))))
  .nil))) }

/-- 43 -/
def p_deeds_overlaid_N : List Str := ["one", "other", "answers", "overlay", "first", "second"]
def p_deeds_overlaid : Fn := { np := 3, ns := 6, io := [0, 1, 2], body :=
  (.cons (.exp (.call 40 (.cons (.var 0) (.cons (.var 1) .nil))))
  (.cons (.set 3 (.new 3 41 (.cons (.var 2) .nil)))
  (.cons (.set 4 (.meth 10 153 (.att (.var 3) 11) (.cons (.var 0) .nil)))
  (.cons (.set 5 (.meth 10 153 (.att (.var 3) 11) (.cons (.var 1) .nil)))
  (.cons (.ret (.meth 10 155 (.att (.var 3) 11) (.cons (.bin .ix (.var 0) (.cst (.int 0))) (.cons (.meth 3 42 (.var 3) (.cons (.var 4) (.cons (.var 5) .nil))) .nil))))
  .nil))))) }

/-- 44 -/
def p_deeds_joined_N : List Str := ["one", "other"]
def p_deeds_joined : Fn := { np := 2, ns := 2, io := [0, 1], body :=
  (.cons (.ret (.call 43 (.cons (.var 0) (.cons (.var 1) (.cons (.glb 5) .nil)))))
  .nil) }

/-- 45 -/
def p_deeds_cut_N : List Str := ["one", "other"]
def p_deeds_cut : Fn := { np := 2, ns := 2, io := [0, 1], body :=
  (.cons (.ret (.call 43 (.cons (.var 0) (.cons (.var 1) (.cons (.glb 6) .nil)))))
  .nil) }

/-- 46 -/
def p_deeds_without_N : List Str := ["one", "other"]
def p_deeds_without : Fn := { np := 2, ns := 2, io := [0, 1], body :=
  (.cons (.ret (.call 43 (.cons (.var 0) (.cons (.var 1) (.cons (.glb 7) .nil)))))
  .nil) }

/-- 47 -/
def p_deeds_unlike_N : List Str := ["one", "other"]
def p_deeds_unlike : Fn := { np := 2, ns := 2, io := [0, 1], body :=
  (.cons (.ret (.call 43 (.cons (.var 0) (.cons (.var 1) (.cons (.glb 8) .nil)))))
  .nil) }

/-- 48 -/
def p_deeds_exchanged_N : List Str := ["number"]
def p_deeds_exchanged : Fn := { np := 1, ns := 1, io := [0], body :=
  (.cons (.ite (.cmp .lt (.var 0) (.cst (.int 2)))
  (.cons (.ret (.bin .sub (.cst (.int 1)) (.var 0)))
  .nil)
  .nil)
  (.cons (.ret (.var 0))
  .nil)) }

/-- 49 -/
def p_deeds_left_out_N : List Str := ["shape", "n", "top", "rows", "found", "number", "row"]
def p_deeds_left_out : Fn := { np := 1, ns := 7, io := [0], body :=
  (.cons (.exp (.call 181 (.cons (.var 0) .nil)))
  (.cons (.unp [1, 2, 3] (.var 0))
  (.cons (.set 4 (.comp [6] .seq (.cons (.var 3) .nil) [6] (.cst (.bl true)) (.bi .tuple (.cons (.comp [5] .seq (.cons (.var 6) .nil) [5] (.cst (.bl true)) (.call 48 (.cons (.var 5) .nil))) .nil))))
  (.cons (.ret (.tup (.cons (.var 1) (.cons (.call 48 (.cons (.var 2) .nil)) (.cons (.bi .tuple (.cons (.var 4) .nil)) .nil)))))
  .nil)))) }

/-- 50 -/
def p_deeds_lies_in_N : List Str := ["one", "other"]
def p_deeds_lies_in : Fn := { np := 2, ns := 2, io := [0, 1], body :=
  (.cons (.ret (.cmp .eq (.bin .ix (.call 46 (.cons (.var 0) (.cons (.var 1) .nil))) (.cst (.int 1))) (.cst (.int 0))))
  .nil) }

/-- 51 -/
def p_deeds_first_quarter_N : List Str := ["row", "quarter"]
def p_deeds_first_quarter : Fn := { np := 1, ns := 2, io := [0], body :=
  (.cons (.ret (.bin .ix (.comp [1] .rng (.cons (.cst (.int 4)) .nil) [1] (.cmp .ne (.bin .ix (.var 0) (.var 1)) (.cst (.int 0))) (.var 1)) (.cst (.int 0))))
  .nil) }

/-- 52 -/
def p_deeds_full_cell_N : List Str := ["shape", "n", "number", "rows", "found", "k", "quarter"]
def p_deeds_full_cell : Fn := { np := 1, ns := 7, io := [0], body :=
  (.cons (.unp [1, 2, 3] (.var 0))
  (.cons (.set 4 (.tup (.cons (.cst (.int 0)) (.cons (.cst (.int 0)) .nil))))
  (.cons (.for_ [5] .rng (.cons (.var 1) .nil)
  (.cons (.set 6 (.cst (.int 0)))
  (.cons (.ite (.cmp .gt (.var 2) (.cst (.int 1)))
  (.cons (.set 6 (.call 51 (.cons (.bin .ix (.var 3) (.bin .sub (.var 2) (.cst (.int 2)))) .nil)))
  (.cons (.set 2 (.bin .ix (.bin .ix (.var 3) (.bin .sub (.var 2) (.cst (.int 2)))) (.var 6)))
  .nil))
  .nil)
  (.cons (.set 4 (.tup (.cons (.bin .add (.bin .mul (.cst (.int 2)) (.bin .ix (.var 4) (.cst (.int 0)))) (.bin .fdiv (.var 6) (.cst (.int 2)))) (.cons (.bin .add (.bin .mul (.cst (.int 2)) (.bin .ix (.var 4) (.cst (.int 1)))) (.bin .mod (.var 6) (.cst (.int 2)))) .nil))))
  .nil))))
  (.cons (.ret (.var 4))
  .nil)))) }

/-- 53 -/
def p_deeds_parting_N : List Str := ["one", "other", "apart"]
def p_deeds_parting : Fn := { np := 2, ns := 3, io := [0, 1], body :=
  (.cons (.set 2 (.call 47 (.cons (.var 0) (.cons (.var 1) .nil))))
  (.cons (.ite (.cmp .eq (.bin .ix (.var 2) (.cst (.int 1))) (.cst (.int 0)))
  (.cons (.ret (.cst .non))
  .nil)
  .nil)
  (.cons (.ret (.call 52 (.cons (.var 2) .nil)))
  .nil))) }

/-- 54 -/
def p_deeds_pairs_N : List Str := ["one", "other", "found", "waiting", "two"]
def p_deeds_pairs : Fn := { np := 2, ns := 5, io := [0, 1], body :=
  (.cons (.exp (.call 40 (.cons (.var 0) (.cons (.var 1) .nil))))
  (.cons (.set 2 .dt0)
  (.cons (.set 3 (.lst (.cons (.tup (.cons (.bin .ix (.var 0) (.cst (.int 1))) (.cons (.bin .ix (.var 1) (.cst (.int 1))) .nil))) .nil)))
  (.cons (.while_ (.cmp .ne (.var 3) (.lst .nil))
  (.cons (.set 4 (.mut .pop (.var 3) .nil))
  (.cons (.ite (.and_ (.cmp .gt (.bi .min (.cons (.var 4) .nil)) (.cst (.int 1))) (.cmp .nin (.var 4) (.var 2)))
  (.cons (.sts (.var 2) (.var 4) (.cst (.bl true)))
  (.cons (.exp (.mut .extend (.var 3) (.cons (.lz (.cons (.bin .ix (.bin .ix (.var 0) (.cst (.int 2))) (.bin .sub (.bin .ix (.var 4) (.cst (.int 0))) (.cst (.int 2)))) (.cons (.bin .ix (.bin .ix (.var 1) (.cst (.int 2))) (.bin .sub (.bin .ix (.var 4) (.cst (.int 1))) (.cst (.int 2)))) .nil))) .nil)))
  .nil))
  .nil)
  .nil)))
  (.cons (.ret (.bi .len (.cons (.var 2) .nil)))
  .nil))))) }

/-- 55 -/
def p_floors_is_whole_N : List Str := ["thing"]
def p_floors_is_whole : Fn := { np := 1, ns := 1, io := [0], body :=
  (.cons (.ret (.and_ (.isi (.var 0) [.int]) (.not_ (.isi (.var 0) [.bool]))))
  .nil) }

/-- 56 -/
def p_floors_is_size_N : List Str := ["thing"]
def p_floors_is_size : Fn := { np := 1, ns := 1, io := [0], body :=
  (.cons (.ret (.and_ (.call 55 (.cons (.var 0) .nil)) (.chain .le .le (.cst (.int 0)) (.var 0) (.glb 9))))
  .nil) }

/-- 57 -/
def p_floors_is_address_N : List Str := ["n", "thing", "figure"]
def p_floors_is_address : Fn := { np := 2, ns := 3, io := [0, 1], body :=
  (.cons (.ret (.and_ (.isi (.var 1) [.str]) (.and_ (.cmp .le (.bi .len (.cons (.var 1) .nil)) (.var 0)) (.bi .all (.cons (.comp [2] .seq (.cons (.var 1) .nil) [2] (.cst (.bl true)) (.cmp .in_ (.var 2) (.glb 10))) .nil)))))
  .nil) }

/-- 58 -/
def p_floors_is_cell_N : List Str := ["n", "row", "column", "side"]
def p_floors_is_cell : Fn := { np := 3, ns := 4, io := [0, 1, 2], body :=
  (.cons (.set 3 (.bin .shl (.cst (.int 1)) (.var 0)))
  (.cons (.ret (.and_ (.call 55 (.cons (.var 1) .nil)) (.and_ (.call 55 (.cons (.var 2) .nil)) (.and_ (.chain .le .lt (.cst (.int 0)) (.var 1) (.var 3)) (.chain .le .lt (.cst (.int 0)) (.var 2) (.var 3))))))
  .nil)) }

/-- 59 -/
def p_floors_want_size_N : List Str := ["n"]
def p_floors_want_size : Fn := { np := 1, ns := 1, io := [0], body :=
  (.cons (.ite (.not_ (.call 56 (.cons (.var 0) .nil)))
  (.cons (.rais 1)
  .nil)
  .nil)
  .nil) }

/-- 60 -/
def p_floors_want_address_N : List Str := ["n", "address"]
def p_floors_want_address : Fn := { np := 2, ns := 2, io := [0, 1], body :=
  (.cons (.ite (.not_ (.call 57 (.cons (.var 0) (.cons (.var 1) .nil))))
  (.cons (.rais 2)
  .nil)
  .nil)
  .nil) }

/-- 61 -/
def p_floors_want_cell_N : List Str := ["n", "row", "column"]
def p_floors_want_cell : Fn := { np := 3, ns := 3, io := [0, 1, 2], body :=
  (.cons (.ite (.not_ (.call 58 (.cons (.var 0) (.cons (.var 1) (.cons (.var 2) .nil)))))
  (.cons (.rais 3)
  .nil)
  .nil)
  .nil) }

/-- 62 -/
def p_floors_box_of_N : List Str := ["n", "address", "row", "column", "side", "figure", "quarter"]
def p_floors_box_of : Fn := { np := 2, ns := 7, io := [0, 1], body :=
  (.cons (.exp (.call 59 (.cons (.var 0) .nil)))
  (.cons (.exp (.call 60 (.cons (.var 0) (.cons (.var 1) .nil))))
  (.cons (.set 2 (.cst (.int 0)))
  (.cons (.set 3 (.cst (.int 0)))
  (.cons (.set 4 (.bin .shl (.cst (.int 1)) (.var 0)))
  (.cons (.for_ [5] .seq (.cons (.var 1) .nil)
  (.cons (.set 6 (.bm .sidx (.glb 10) (.cons (.var 5) .nil)))
  (.cons (.set 4 (.bin .fdiv (.var 4) (.cst (.int 2))))
  (.cons (.set 2 (.bin .add (.var 2) (.bin .mul (.var 4) (.bin .fdiv (.var 6) (.cst (.int 2))))))
  (.cons (.set 3 (.bin .add (.var 3) (.bin .mul (.var 4) (.bin .mod (.var 6) (.cst (.int 2))))))
  .nil)))))
  (.cons (.ret (.tup (.cons (.var 2) (.cons (.var 3) (.cons (.var 4) .nil)))))
  .nil))))))) }

/-- 63 -/
def p_floors_figure_at_N : List Str := ["row", "column", "k"]
def p_floors_figure_at : Fn := { np := 3, ns := 3, io := [0, 1, 2], body :=
  (.cons (.ret (.bin .ix (.glb 10) (.bin .add (.bin .mul (.cst (.int 2)) (.bin .band (.bin .shr (.var 0) (.var 2)) (.cst (.int 1)))) (.bin .band (.bin .shr (.var 1) (.var 2)) (.cst (.int 1))))))
  .nil) }

/-- 64 -/
def p_floors_address_of_N : List Str := ["n", "row", "column", "size", "k"]
def p_floors_address_of : Fn := { np := 4, ns := 5, io := [0, 1, 2, 3], body :=
  (.cons (.exp (.call 59 (.cons (.var 0) .nil)))
  (.cons (.ite (.or_ (.not_ (.call 56 (.cons (.var 3) .nil))) (.cmp .gt (.var 3) (.var 0)))
  (.cons (.rais 1)
  .nil)
  .nil)
  (.cons (.exp (.call 61 (.cons (.var 0) (.cons (.var 1) (.cons (.var 2) .nil)))))
  (.cons (.ret (.bm .join (.cst (.str "")) (.cons (.comp [4] .rng (.cons (.bin .sub (.var 0) (.cst (.int 1))) (.cons (.bin .sub (.var 3) (.cst (.int 1))) (.cons (.un .neg (.cst (.int 1))) .nil))) [4] (.cst (.bl true)) (.call 63 (.cons (.var 1) (.cons (.var 2) (.cons (.var 4) .nil))))) .nil)))
  .nil)))) }

/-- 65 -/
def p_grown_leaves_told_N : List Str := ["shape", "far", "found"]
def p_grown_leaves_told : Fn := { np := 2, ns := 3, io := [0, 1], body :=
  (.cons (.exp (.call 181 (.cons (.var 0) .nil)))
  (.cons (.ite (.or_ (.not_ (.call 55 (.cons (.var 1) .nil))) (.or_ (.cmp .lt (.var 1) (.cst (.int 0))) (.cmp .gt (.var 1) (.glb 11))))
  (.cons (.rais 12)
  .nil)
  .nil)
  (.cons (.set 2 (.call 89 (.cons (.var 0) .nil)))
  (.cons (.ite (.cmp .gt (.bi .len (.cons (.var 2) .nil)) (.glb 101))
  (.cons (.rais 9)
  .nil)
  .nil)
  (.cons (.ret (.var 2))
  .nil))))) }

/-- 66 -/
def p_grown_widened_N : List Str := ["n", "box", "far", "row", "column", "size", "first", "left", "below", "right"]
def p_grown_widened : Fn := { np := 3, ns := 10, io := [0, 1, 2], body :=
  (.cons (.unp [3, 4, 5] (.var 1))
  (.cons (.set 6 (.bi .max (.cons (.cst (.int 0)) (.cons (.bin .sub (.var 3) (.var 2)) .nil))))
  (.cons (.set 7 (.bi .max (.cons (.cst (.int 0)) (.cons (.bin .sub (.var 4) (.var 2)) .nil))))
  (.cons (.set 8 (.bi .min (.cons (.bin .shl (.cst (.int 1)) (.var 0)) (.cons (.bin .add (.bin .add (.var 3) (.var 5)) (.var 2)) .nil))))
  (.cons (.set 9 (.bi .min (.cons (.bin .shl (.cst (.int 1)) (.var 0)) (.cons (.bin .add (.bin .add (.var 4) (.var 5)) (.var 2)) .nil))))
  (.cons (.ret (.tup (.cons (.var 6) (.cons (.var 7) (.cons (.bin .sub (.var 8) (.var 6)) (.cons (.bin .sub (.var 9) (.var 7)) .nil))))))
  .nil)))))) }

/-- 67 -/
def p_grown_round_leaves_N : List Str := ["n", "leaves", "wanted", "far", "leaf", "is_full"]
def p_grown_round_leaves : Fn := { np := 4, ns := 6, io := [0, 1, 2, 3], body :=
  (.cons (.ret (.call 108 (.cons (.var 0) (.cons (.comp [4, 5] .seq (.cons (.var 1) .nil) [4, 5] (.cmp .eq (.var 5) (.var 2)) (.call 66 (.cons (.var 0) (.cons (.call 62 (.cons (.var 0) (.cons (.var 4) .nil))) (.cons (.var 3) .nil))))) .nil))))
  .nil) }

/-- 68 -/
def p_grown_grown_N : List Str := ["shape", "far", "leaves"]
def p_grown_grown : Fn := { np := 2, ns := 3, io := [0, 1], body :=
  (.cons (.set 2 (.call 65 (.cons (.var 0) (.cons (.var 1) .nil))))
  (.cons (.ret (.call 67 (.cons (.bin .ix (.var 0) (.cst (.int 0))) (.cons (.var 2) (.cons (.cst (.bl true)) (.cons (.var 1) .nil))))))
  .nil)) }

/-- 69 -/
def p_grown_shrunk_N : List Str := ["shape", "far", "leaves", "n", "left", "within"]
def p_grown_shrunk : Fn := { np := 2, ns := 6, io := [0, 1], body :=
  (.cons (.set 2 (.call 65 (.cons (.var 0) (.cons (.var 1) .nil))))
  (.cons (.set 3 (.bin .ix (.var 0) (.cst (.int 0))))
  (.cons (.set 4 (.bin .sub (.bin .shl (.cst (.int 1)) (.var 3)) (.bin .mul (.cst (.int 2)) (.var 1))))
  (.cons (.ite (.cmp .lt (.var 4) (.cst (.int 1)))
  (.cons (.ret (.call 182 (.cons (.var 3) .nil)))
  .nil)
  .nil)
  (.cons (.set 5 (.call 108 (.cons (.var 3) (.cons (.lst (.cons (.tup (.cons (.var 1) (.cons (.var 1) (.cons (.var 4) (.cons (.var 4) .nil))))) .nil)) .nil))))
  (.cons (.ret (.call 46 (.cons (.var 5) (.cons (.call 67 (.cons (.var 3) (.cons (.var 2) (.cons (.cst (.bl false)) (.cons (.var 1) .nil))))) .nil))))
  .nil)))))) }

/-- 70 -/
def p_least_moves_of_N : List Str := ["shape", "ends", "side", "found", "down", "right"]
def p_least_moves_of : Fn := { np := 1, ns := 6, io := [0], body :=
  (.cons (.set 1 (.call 39 (.cons (.var 0) .nil)))
  (.cons (.ite (.cmp .is_ (.var 1) (.cst .non))
  (.cons (.ret (.lst (.cons (.tup (.cons (.cst (.int 0)) (.cons (.cst (.int 0)) .nil))) .nil)))
  .nil)
  .nil)
  (.cons (.set 2 (.bin .shl (.cst (.int 1)) (.bin .ix (.var 0) (.cst (.int 0)))))
  (.cons (.set 3 (.lst .nil))
  (.cons (.for_ [4] .rng (.cons (.un .neg (.bin .ix (.var 1) (.cst (.int 0)))) (.cons (.bin .sub (.var 2) (.bin .ix (.var 1) (.cst (.int 2)))) .nil))
  (.cons (.exp (.mut .extend (.var 3) (.cons (.comp [5] .rng (.cons (.un .neg (.bin .ix (.var 1) (.cst (.int 1)))) (.cons (.bin .sub (.var 2) (.bin .ix (.var 1) (.cst (.int 3)))) .nil)) [5] (.cst (.bl true)) (.tup (.cons (.var 4) (.cons (.var 5) .nil)))) .nil)))
  .nil))
  (.cons (.ret (.var 3))
  .nil)))))) }

/-- 71 -/
def p_least_least_N : List Str := ["shape", "cells", "found", "down", "right", "other", "row", "column", "label"]
def p_least_least : Fn := { np := 1, ns := 9, io := [0], body :=
  (.cons (.exp (.call 181 (.cons (.var 0) .nil)))
  (.cons (.ite (.cmp .gt (.bin .ix (.var 0) (.cst (.int 0))) (.glb 13))
  (.cons (.rais 9)
  .nil)
  .nil)
  (.cons (.set 1 (.call 112 (.cons (.var 0) .nil)))
  (.cons (.set 2 (.cst .non))
  (.cons (.for_ [3, 4] .seq (.cons (.call 70 (.cons (.var 0) .nil)) .nil)
  (.cons (.set 5 (.call 107 (.cons (.bin .ix (.var 0) (.cst (.int 0))) (.cons (.comp [6, 7] .seq (.cons (.var 1) .nil) [6, 7] (.cst (.bl true)) (.tup (.cons (.bin .add (.var 6) (.var 3)) (.cons (.bin .add (.var 7) (.var 4)) .nil)))) .nil))))
  (.cons (.set 8 (.tup (.cons (.bi .len (.cons (.bin .ix (.var 5) (.cst (.int 2))) .nil)) (.cons (.var 5) (.cons (.var 3) (.cons (.var 4) .nil))))))
  (.cons (.ite (.or_ (.cmp .is_ (.var 2) (.cst .non)) (.cmp .lt (.var 8) (.var 2)))
  (.cons (.set 2 (.var 8))
  .nil)
  .nil)
  .nil))))
  (.cons (.ret (.tup (.cons (.bin .ix (.var 2) (.cst (.int 2))) (.cons (.bin .ix (.var 2) (.cst (.int 3))) (.cons (.bin .ix (.var 2) (.cst (.int 1))) .nil)))))
  .nil)))))) }

/-- 72 -/
def p_least_Windows___init___N : List Str := ["self", "size", "looks"]
def p_least_Windows___init__ : Fn := { np := 3, ns := 3, io := [0, 1, 2], body :=
  (.cons (.stf (.var 0) 13 (.var 1))
  (.cons (.stf (.var 0) 14 (.var 2))
  .nil)) }

/-- 73 -/
def p_least_Windows_far_N : List Str := ["self"]
def p_least_Windows_far : Fn := { np := 1, ns := 1, io := [0], body :=
  (.cons (.ret (.bin .sub (.bin .shl (.cst (.int 1)) (.att (.var 0) 13)) (.cst (.int 1))))
  .nil) }

/-- 74 -/
def p_least_Windows_look_N : List Str := ["self", "row", "column", "far", "most"]
def p_least_Windows_look : Fn := { np := 3, ns := 5, io := [0, 1, 2], body :=
  (.cons (.set 3 (.meth 4 73 (.var 0) .nil))
  (.cons (.set 4 (.bi .len (.cons (.att (.var 0) 14) .nil)))
  (.cons (.ite (.or_ (.cmp .lt (.bin .add (.var 1) (.var 3)) (.cst (.int 0))) (.or_ (.cmp .lt (.bin .add (.var 2) (.var 3)) (.cst (.int 0))) (.or_ (.cmp .ge (.bin .add (.var 1) (.var 3)) (.var 4)) (.cmp .ge (.bin .add (.var 2) (.var 3)) (.var 4)))))
  (.cons (.ret (.cst (.int 0)))
  .nil)
  .nil)
  (.cons (.ret (.bin .ix (.bin .ix (.att (.var 0) 14) (.bin .add (.var 1) (.var 3))) (.bin .add (.var 2) (.var 3))))
  .nil)))) }

/-- 78 -/
def p_least_cell_windows_N : List Str := ["shape", "side", "looks", "row"]
def p_least_cell_windows : Fn := { np := 1, ns := 4, io := [0], body :=
  (.cons (.set 1 (.bin .shl (.cst (.int 1)) (.bin .ix (.var 0) (.cst (.int 0)))))
  (.cons (.set 2 (.comp [3] .rng (.cons (.var 1) .nil) [3] (.cst (.bl true)) (.bin .mul (.lst (.cons (.cst (.int 0)) .nil)) (.var 1))))
  (.cons (.exp (.call 77 (.cons (.bin .ix (.var 0) (.cst (.int 2))) (.cons (.bin .ix (.var 0) (.cst (.int 1))) (.cons (.tup (.cons (.cst (.int 0)) (.cons (.cst (.int 0)) (.cons (.var 1) .nil)))) (.cons (.var 2) .nil))))))
  (.cons (.ret (.new 4 72 (.cons (.cst (.int 0)) (.cons (.var 2) .nil))))
  .nil)))) }

/-- 80 -/
def p_least_all_mixed_N : List Str := ["shape", "found", "windows", "k"]
def p_least_all_mixed : Fn := { np := 1, ns := 4, io := [0], body :=
  (.cons (.set 1 (.lst .nil))
  (.cons (.set 2 (.call 78 (.cons (.var 0) .nil)))
  (.cons (.for_ [3] .rng (.cons (.bin .ix (.var 0) (.cst (.int 0))) .nil)
  (.cons (.set 2 (.call 76 (.cons (.var 2) (.cons (.bin .shl (.cst (.int 1)) (.bin .ix (.var 0) (.cst (.int 0)))) .nil))))
  (.cons (.exp (.mut .append (.var 1) (.cons (.call 79 (.cons (.var 2) .nil)) .nil)))
  .nil)))
  (.cons (.ret (.var 1))
  .nil)))) }

/-- 82 -/
def p_least_fewest_N : List Str := ["shape", "mixed", "down", "right"]
def p_least_fewest : Fn := { np := 1, ns := 4, io := [0], body :=
  (.cons (.exp (.call 181 (.cons (.var 0) .nil)))
  (.cons (.ite (.cmp .gt (.bin .ix (.var 0) (.cst (.int 0))) (.glb 14))
  (.cons (.rais 9)
  .nil)
  .nil)
  (.cons (.ite (.cmp .eq (.bin .ix (.var 0) (.cst (.int 1))) (.cst (.int 0)))
  (.cons (.ret (.tup (.cons (.cst (.int 1)) (.cons (.cst (.int 0)) (.cons (.cst (.int 0)) .nil)))))
  .nil)
  .nil)
  (.cons (.set 1 (.call 80 (.cons (.var 0) .nil)))
  (.cons (.ret (.bi .min (.cons (.comp [2, 3] .seq (.cons (.call 70 (.cons (.var 0) .nil)) .nil) [2, 3] (.cst (.bl true)) (.tup (.cons (.call 81 (.cons (.var 1) (.cons (.var 2) (.cons (.var 3) .nil)))) (.cons (.var 2) (.cons (.var 3) .nil))))) .nil)))
  .nil))))) }

/-- 83 -/
def p_least_want_coarse_N : List Str := ["shape"]
def p_least_want_coarse : Fn := { np := 1, ns := 1, io := [0], body :=
  (.cons (.ite (.cmp .gt (.call 36 (.cons (.var 0) .nil)) (.glb 15))
  (.cons (.rais 9)
  .nil)
  .nil)
  .nil) }

/-- 84 -/
def p_least_move_to_N : List Str := ["one", "other", "ends", "goal"]
def p_least_move_to : Fn := { np := 2, ns := 4, io := [0, 1], body :=
  (.cons (.set 2 (.call 39 (.cons (.var 0) .nil)))
  (.cons (.set 3 (.call 39 (.cons (.var 1) .nil)))
  (.cons (.ite (.and_ (.cmp .is_ (.var 2) (.cst .non)) (.cmp .is_ (.var 3) (.cst .non)))
  (.cons (.ret (.tup (.cons (.cst (.int 0)) (.cons (.cst (.int 0)) .nil))))
  .nil)
  .nil)
  (.cons (.ite (.or_ (.cmp .is_ (.var 2) (.cst .non)) (.cmp .is_ (.var 3) (.cst .non)))
  (.cons (.ret (.cst .non))
  .nil)
  .nil)
  (.cons (.ret (.tup (.cons (.bin .sub (.bin .ix (.var 3) (.cst (.int 0))) (.bin .ix (.var 2) (.cst (.int 0)))) (.cons (.bin .sub (.bin .ix (.var 3) (.cst (.int 1))) (.bin .ix (.var 2) (.cst (.int 1)))) .nil))))
  .nil))))) }

/-- 85 -/
def p_least_form_N : List Str := ["one", "other", "turn", "here", "move"]
def p_least_form : Fn := { np := 2, ns := 5, io := [0, 1], body :=
  (.cons (.exp (.call 181 (.cons (.var 0) .nil)))
  (.cons (.exp (.call 181 (.cons (.var 1) .nil)))
  (.cons (.ite (.cmp .ne (.bin .ix (.var 0) (.cst (.int 0))) (.bin .ix (.var 1) (.cst (.int 0))))
  (.cons (.rais 10)
  .nil)
  .nil)
  (.cons (.exp (.call 83 (.cons (.var 0) .nil)))
  (.cons (.exp (.call 83 (.cons (.var 1) .nil)))
  (.cons (.for_ [2] .rng (.cons (.glb 16) .nil)
  (.cons (.set 3 (.call 201 (.cons (.var 0) (.cons (.var 2) .nil))))
  (.cons (.set 4 (.call 84 (.cons (.var 3) (.cons (.var 1) .nil))))
  (.cons (.ite (.and_ (.cmp .isn (.var 4) (.cst .non)) (.and_ (.call 86 (.cons (.var 3) (.cons (.var 1) .nil))) (.cmp .eq (.call 122 (.cons (.var 3) (.cons (.bin .ix (.var 4) (.cst (.int 0))) (.cons (.bin .ix (.var 4) (.cst (.int 1))) .nil)))) (.var 1))))
  (.cons (.ret (.tup (.cons (.var 2) (.cons (.bin .ix (.var 4) (.cst (.int 0))) (.cons (.bin .ix (.var 4) (.cst (.int 1))) .nil)))))
  .nil)
  .nil)
  .nil))))
  (.cons (.ret (.cst .non))
  .nil))))))) }

/-- 86 -/
def p_least_bounds_fit_N : List Str := ["one", "other", "ends", "goal"]
def p_least_bounds_fit : Fn := { np := 2, ns := 4, io := [0, 1], body :=
  (.cons (.set 2 (.call 39 (.cons (.var 0) .nil)))
  (.cons (.set 3 (.call 39 (.cons (.var 1) .nil)))
  (.cons (.ite (.cmp .is_ (.var 2) (.cst .non))
  (.cons (.ret (.cmp .is_ (.var 3) (.cst .non)))
  .nil)
  .nil)
  (.cons (.ret (.and_ (.cmp .eq (.bin .sub (.bin .ix (.var 2) (.cst (.int 2))) (.bin .ix (.var 2) (.cst (.int 0)))) (.bin .sub (.bin .ix (.var 3) (.cst (.int 2))) (.bin .ix (.var 3) (.cst (.int 0))))) (.cmp .eq (.bin .sub (.bin .ix (.var 2) (.cst (.int 3))) (.bin .ix (.var 2) (.cst (.int 1)))) (.bin .sub (.bin .ix (.var 3) (.cst (.int 3))) (.bin .ix (.var 3) (.cst (.int 1)))))))
  .nil)))) }

/-- 87 -/
def p_leaves_many_in_N : List Str := ["shape", "n", "top", "rows", "found", "row", "number"]
def p_leaves_many_in : Fn := { np := 1, ns := 7, io := [0], body :=
  (.cons (.unp [1, 2, 3] (.var 0))
  (.cons (.set 4 (.lst (.cons (.cst (.int 1)) (.cons (.cst (.int 1)) .nil))))
  (.cons (.for_ [5] .seq (.cons (.var 3) .nil)
  (.cons (.exp (.mut .append (.var 4) (.cons (.bi .sum (.cons (.comp [6] .seq (.cons (.var 5) .nil) [6] (.cst (.bl true)) (.bin .ix (.var 4) (.var 6))) .nil)) .nil)))
  .nil))
  (.cons (.ret (.bin .ix (.var 4) (.var 2)))
  .nil)))) }

/-- 88 -/
def p_leaves_want_coarse_N : List Str := ["shape"]
def p_leaves_want_coarse : Fn := { np := 1, ns := 1, io := [0], body :=
  (.cons (.ite (.cmp .gt (.call 87 (.cons (.var 0) .nil)) (.glb 18))
  (.cons (.rais 9)
  .nil)
  .nil)
  .nil) }

/-- 89 -/
def p_leaves_leaves_of_N : List Str := ["shape", "n", "top", "rows", "found", "waiting", "address", "number", "place"]
def p_leaves_leaves_of : Fn := { np := 1, ns := 9, io := [0], body :=
  (.cons (.exp (.call 181 (.cons (.var 0) .nil)))
  (.cons (.exp (.call 88 (.cons (.var 0) .nil)))
  (.cons (.unp [1, 2, 3] (.var 0))
  (.cons (.set 4 (.lst .nil))
  (.cons (.set 5 (.lst (.cons (.tup (.cons (.cst (.str "")) (.cons (.var 2) .nil))) .nil)))
  (.cons (.while_ (.cmp .ne (.var 5) (.lst .nil))
  (.cons (.unp [6, 7] (.mut .pop (.var 5) .nil))
  (.cons (.ite (.cmp .lt (.var 7) (.cst (.int 2)))
  (.cons (.exp (.mut .append (.var 4) (.cons (.tup (.cons (.var 6) (.cons (.cmp .eq (.var 7) (.cst (.int 1))) .nil))) .nil)))
  .nil)
  (.cons (.for_ [8] .rng (.cons (.cst (.int 3)) (.cons (.un .neg (.cst (.int 1))) (.cons (.un .neg (.cst (.int 1))) .nil)))
  (.cons (.exp (.mut .append (.var 5) (.cons (.tup (.cons (.bin .add (.var 6) (.bin .ix (.glb 10) (.var 8))) (.cons (.bin .ix (.bin .ix (.var 3) (.bin .sub (.var 7) (.cst (.int 2)))) (.var 8)) .nil))) .nil)))
  .nil))
  .nil))
  .nil)))
  (.cons (.ret (.var 4))
  .nil))))))) }

/-- 90 -/
def p_loops_is_corner_N : List Str := ["n", "thing", "number"]
def p_loops_is_corner : Fn := { np := 2, ns := 3, io := [0, 1], body :=
  (.cons (.ite (.or_ (.not_ (.isi (.var 1) [.tuple])) (.cmp .ne (.bi .len (.cons (.var 1) .nil)) (.cst (.int 2))))
  (.cons (.ret (.cst (.bl false)))
  .nil)
  .nil)
  (.cons (.ret (.bi .all (.cons (.comp [2] .seq (.cons (.var 1) .nil) [2] (.cst (.bl true)) (.and_ (.call 55 (.cons (.var 2) .nil)) (.chain .le .le (.cst (.int 0)) (.var 2) (.bin .shl (.cst (.int 1)) (.var 0))))) .nil)))
  .nil)) }

/-- 94 -/
def p_loops_Folder___init___N : List Str := ["self"]
def p_loops_Folder___init__ : Fn := { np := 1, ns := 1, io := [0], body :=
  (.cons (.stf (.var 0) 11 (.new 10 150 .nil))
  (.cons (.stf (.var 0) 12 .dt0)
  .nil)) }

/-- 95 -/
def p_loops_Folder_number_N : List Str := ["self", "k", "is_odd", "sides", "rest", "side", "column", "low", "high", "first", "last", "key"]
def p_loops_Folder_number : Fn := { np := 4, ns := 12, io := [0, 1, 3], body :=
  (.cons (.set 4 (.lst .nil))
  (.cons (.set 5 (.bin .shl (.cst (.int 1)) (.var 1)))
  (.cons (.for_ [6, 7, 8] .seq (.cons (.var 3) .nil)
  (.cons (.set 9 (.bi .max (.cons (.var 7) (.cons (.cst (.int 0)) .nil))))
  (.cons (.set 10 (.bi .min (.cons (.var 8) (.cons (.var 5) .nil))))
  (.cons (.ite (.and_ (.cmp .lt (.var 9) (.var 10)) (.cmp .lt (.var 6) (.var 5)))
  (.cons (.ite (.and_ (.cmp .le (.var 6) (.cst (.int 0))) (.and_ (.cmp .eq (.var 9) (.cst (.int 0))) (.cmp .eq (.var 10) (.var 5))))
  (.cons (.set 2 (.not_ (.var 2)))
  .nil)
  (.cons (.exp (.mut .append (.var 4) (.cons (.tup (.cons (.bi .max (.cons (.var 6) (.cons (.cst (.int 0)) .nil))) (.cons (.var 9) (.cons (.var 10) .nil)))) .nil)))
  .nil))
  .nil)
  .nil)
  .nil))))
  (.cons (.set 11 (.tup (.cons (.var 1) (.cons (.var 2) (.cons (.call 93 (.cons (.var 4) .nil)) .nil)))))
  (.cons (.ite (.cmp .eq (.bin .ix (.var 11) (.cst (.int 2))) (.tup .nil))
  (.cons (.ret (.bi .int (.cons (.var 2) .nil)))
  .nil)
  .nil)
  (.cons (.ite (.cmp .nin (.var 11) (.att (.var 0) 12))
  (.cons (.exp (.meth 5 97 (.var 0) (.cons (.var 11) (.cons (.meth 5 96 (.var 0) (.cons (.var 1) (.cons (.var 2) (.cons (.bin .ix (.var 11) (.cst (.int 2))) .nil)))) .nil))))
  .nil)
  .nil)
  (.cons (.ret (.bin .ix (.att (.var 0) 12) (.var 11)))
  .nil))))))) }

/-- 96 -/
def p_loops_Folder_quartered_N : List Str := ["self", "k", "is_odd", "sides", "half", "found", "quarter", "down", "right", "moved", "column", "low", "high"]
def p_loops_Folder_quartered : Fn := { np := 4, ns := 13, io := [0, 1, 2, 3], body :=
  (.cons (.set 4 (.bin .shl (.cst (.int 1)) (.bin .sub (.var 1) (.cst (.int 1)))))
  (.cons (.set 5 (.lst .nil))
  (.cons (.for_ [6] .rng (.cons (.cst (.int 4)) .nil)
  (.cons (.set 7 (.bin .mul (.var 4) (.bin .fdiv (.var 6) (.cst (.int 2)))))
  (.cons (.set 8 (.bin .mul (.var 4) (.bin .mod (.var 6) (.cst (.int 2)))))
  (.cons (.set 9 (.comp [10, 11, 12] .seq (.cons (.var 3) .nil) [10, 11, 12] (.cst (.bl true)) (.tup (.cons (.bin .sub (.var 10) (.var 8)) (.cons (.bin .sub (.var 11) (.var 7)) (.cons (.bin .sub (.var 12) (.var 7)) .nil))))))
  (.cons (.exp (.mut .append (.var 5) (.cons (.meth 5 95 (.var 0) (.cons (.bin .sub (.var 1) (.cst (.int 1))) (.cons (.var 2) (.cons (.var 9) .nil)))) .nil)))
  .nil)))))
  (.cons (.ret (.meth 10 151 (.att (.var 0) 11) (.cons (.bi .tuple (.cons (.var 5) .nil)) .nil)))
  .nil)))) }

/-- 97 -/
def p_loops_Folder_remember_N : List Str := ["self", "key", "number", "known"]
def p_loops_Folder_remember : Fn := { np := 3, ns := 4, io := [0, 1, 2], body :=
  (.cons (.set 3 (.att (.var 0) 12))
  (.cons (.sts (.var 3) (.var 1) (.var 2))
  .nil)) }

/-- 100 -/
def p_made_is_cell_told_N : List Str := ["n", "thing"]
def p_made_is_cell_told : Fn := { np := 2, ns := 2, io := [0, 1], body :=
  (.cons (.ret (.and_ (.isi (.var 1) [.tuple]) (.and_ (.cmp .eq (.bi .len (.cons (.var 1) .nil)) (.cst (.int 2))) (.call 58 (.cons (.var 0) (.cons (.bin .ix (.var 1) (.cst (.int 0))) (.cons (.bin .ix (.var 1) (.cst (.int 1))) .nil)))))))
  .nil) }

/-- 101 -/
def p_made_is_box_N : List Str := ["n", "thing", "row", "column", "high", "wide"]
def p_made_is_box : Fn := { np := 2, ns := 6, io := [0, 1], body :=
  (.cons (.ite (.or_ (.not_ (.isi (.var 1) [.tuple])) (.or_ (.cmp .ne (.bi .len (.cons (.var 1) .nil)) (.cst (.int 4))) (.not_ (.call 58 (.cons (.var 0) (.cons (.bin .ix (.var 1) (.cst (.int 0))) (.cons (.bin .ix (.var 1) (.cst (.int 1))) .nil)))))))
  (.cons (.ret (.cst (.bl false)))
  .nil)
  .nil)
  (.cons (.unp [2, 3, 4, 5] (.var 1))
  (.cons (.ite (.or_ (.not_ (.call 55 (.cons (.var 4) .nil))) (.or_ (.not_ (.call 55 (.cons (.var 5) .nil))) (.or_ (.cmp .lt (.var 4) (.cst (.int 1))) (.cmp .lt (.var 5) (.cst (.int 1))))))
  (.cons (.ret (.cst (.bl false)))
  .nil)
  .nil)
  (.cons (.ret (.and_ (.cmp .le (.bin .add (.var 2) (.var 4)) (.bin .shl (.cst (.int 1)) (.var 0))) (.cmp .le (.bin .add (.var 3) (.var 5)) (.bin .shl (.cst (.int 1)) (.var 0)))))
  .nil)))) }

/-- 102 -/
def p_made_cut_to_N : List Str := ["box", "row", "column", "side", "top", "left", "foot", "right", "found"]
def p_made_cut_to : Fn := { np := 4, ns := 9, io := [0, 1, 2, 3], body :=
  (.cons (.unp [4, 5, 6, 7] (.var 0))
  (.cons (.set 8 (.tup (.cons (.bi .max (.cons (.cst (.int 0)) (.cons (.bin .sub (.var 4) (.var 1)) .nil))) (.cons (.bi .max (.cons (.cst (.int 0)) (.cons (.bin .sub (.var 5) (.var 2)) .nil))) (.cons (.bi .min (.cons (.var 3) (.cons (.bin .sub (.var 6) (.var 1)) .nil))) (.cons (.bi .min (.cons (.var 3) (.cons (.bin .sub (.var 7) (.var 2)) .nil))) .nil))))))
  (.cons (.ite (.or_ (.cmp .ge (.bin .ix (.var 8) (.cst (.int 0))) (.bin .ix (.var 8) (.cst (.int 2)))) (.cmp .ge (.bin .ix (.var 8) (.cst (.int 1))) (.bin .ix (.var 8) (.cst (.int 3)))))
  (.cons (.ret (.cst .non))
  .nil)
  .nil)
  (.cons (.ret (.var 8))
  .nil)))) }

/-- 103 -/
def p_made_Maker___init___N : List Str := ["self"]
def p_made_Maker___init__ : Fn := { np := 1, ns := 1, io := [0], body :=
  (.cons (.stf (.var 0) 0 (.new 10 150 .nil))
  (.cons (.stf (.var 0) 12 .dt0)
  .nil)) }

/-- 104 -/
def p_made_Maker_number_N : List Str := ["self", "size", "boxes", "side", "quarters", "place"]
def p_made_Maker_number : Fn := { np := 3, ns := 6, io := [0, 1, 2], body :=
  (.cons (.set 3 (.bin .shl (.cst (.int 1)) (.var 1)))
  (.cons (.ite (.cmp .eq (.var 2) (.tup .nil))
  (.cons (.ret (.cst (.int 0)))
  .nil)
  .nil)
  (.cons (.ite (.cmp .in_ (.tup (.cons (.cst (.int 0)) (.cons (.cst (.int 0)) (.cons (.var 3) (.cons (.var 3) .nil))))) (.var 2))
  (.cons (.ret (.cst (.int 1)))
  .nil)
  .nil)
  (.cons (.ite (.cmp .nin (.tup (.cons (.var 1) (.cons (.var 2) .nil))) (.att (.var 0) 12))
  (.cons (.set 4 (.comp [5] .rng (.cons (.cst (.int 4)) .nil) [5] (.cst (.bl true)) (.meth 6 105 (.var 0) (.cons (.bin .sub (.var 1) (.cst (.int 1))) (.cons (.var 2) (.cons (.var 5) .nil))))))
  (.cons (.sts (.att (.var 0) 12) (.tup (.cons (.var 1) (.cons (.var 2) .nil))) (.meth 10 151 (.att (.var 0) 0) (.cons (.bi .tuple (.cons (.var 4) .nil)) .nil)))
  .nil))
  .nil)
  (.cons (.ret (.bin .ix (.att (.var 0) 12) (.tup (.cons (.var 1) (.cons (.var 2) .nil)))))
  .nil))))) }

/-- 107 -/
def p_made_of_cells_N : List Str := ["n", "cells", "cell", "row", "column"]
def p_made_of_cells : Fn := { np := 2, ns := 5, io := [0, 1], body :=
  (.cons (.exp (.call 59 (.cons (.var 0) .nil)))
  (.cons (.ite (.or_ (.not_ (.call 99 (.cons (.var 1) .nil))) (.not_ (.bi .all (.cons (.comp [2] .seq (.cons (.var 1) .nil) [2] (.cst (.bl true)) (.call 100 (.cons (.var 0) (.cons (.var 2) .nil)))) .nil))))
  (.cons (.rais 3)
  .nil)
  .nil)
  (.cons (.ret (.call 106 (.cons (.var 0) (.cons (.comp [3, 4] .seq (.cons (.var 1) .nil) [3, 4] (.cst (.bl true)) (.tup (.cons (.var 3) (.cons (.var 4) (.cons (.bin .add (.var 3) (.cst (.int 1))) (.cons (.bin .add (.var 4) (.cst (.int 1))) .nil)))))) .nil))))
  .nil))) }

/-- 108 -/
def p_made_of_boxes_N : List Str := ["n", "boxes", "box", "row", "column", "high", "wide"]
def p_made_of_boxes : Fn := { np := 2, ns := 7, io := [0, 1], body :=
  (.cons (.exp (.call 59 (.cons (.var 0) .nil)))
  (.cons (.ite (.or_ (.not_ (.call 99 (.cons (.var 1) .nil))) (.not_ (.bi .all (.cons (.comp [2] .seq (.cons (.var 1) .nil) [2] (.cst (.bl true)) (.call 101 (.cons (.var 0) (.cons (.var 2) .nil)))) .nil))))
  (.cons (.rais 8)
  .nil)
  .nil)
  (.cons (.ret (.call 106 (.cons (.var 0) (.cons (.comp [3, 4, 5, 6] .seq (.cons (.var 1) .nil) [3, 4, 5, 6] (.cst (.bl true)) (.tup (.cons (.var 3) (.cons (.var 4) (.cons (.bin .add (.var 3) (.var 5)) (.cons (.bin .add (.var 4) (.var 6)) .nil)))))) .nil))))
  .nil))) }

/-- 109 -/
def p_made_number_at_N : List Str := ["shape", "address", "n", "number", "rows", "figure"]
def p_made_number_at : Fn := { np := 2, ns := 6, io := [0, 1], body :=
  (.cons (.unp [2, 3, 4] (.var 0))
  (.cons (.for_ [5] .seq (.cons (.var 1) .nil)
  (.cons (.ite (.cmp .gt (.var 3) (.cst (.int 1)))
  (.cons (.set 3 (.bin .ix (.bin .ix (.var 4) (.bin .sub (.var 3) (.cst (.int 2)))) (.bm .sidx (.glb 10) (.cons (.var 5) .nil))))
  .nil)
  .nil)
  .nil))
  (.cons (.ret (.var 3))
  .nil))) }

/-- 110 -/
def p_made_is_full_N : List Str := ["shape", "row", "column", "n", "number", "rows", "k"]
def p_made_is_full : Fn := { np := 3, ns := 7, io := [0, 1, 2], body :=
  (.cons (.exp (.call 181 (.cons (.var 0) .nil)))
  (.cons (.unp [3, 4, 5] (.var 0))
  (.cons (.exp (.call 61 (.cons (.var 3) (.cons (.var 1) (.cons (.var 2) .nil)))))
  (.cons (.for_ [6] .rng (.cons (.bin .sub (.var 3) (.cst (.int 1))) (.cons (.un .neg (.cst (.int 1))) (.cons (.un .neg (.cst (.int 1))) .nil)))
  (.cons (.ite (.cmp .gt (.var 4) (.cst (.int 1)))
  (.cons (.set 4 (.bin .ix (.bin .ix (.var 5) (.bin .sub (.var 4) (.cst (.int 2)))) (.bin .add (.bin .mul (.cst (.int 2)) (.bin .band (.bin .shr (.var 1) (.var 6)) (.cst (.int 1)))) (.bin .band (.bin .shr (.var 2) (.var 6)) (.cst (.int 1))))))
  .nil)
  .nil)
  .nil))
  (.cons (.ret (.cmp .eq (.var 4) (.cst (.int 1))))
  .nil))))) }

/-- 111 -/
def p_made_many_full_N : List Str := ["shape", "n", "top", "rows", "parts", "row", "number"]
def p_made_many_full : Fn := { np := 1, ns := 7, io := [0], body :=
  (.cons (.unp [1, 2, 3] (.var 0))
  (.cons (.set 4 (.lst (.cons (.cst (.int 0)) (.cons (.bin .shl (.cst (.int 1)) (.bin .mul (.cst (.int 2)) (.glb 9))) .nil))))
  (.cons (.for_ [5] .seq (.cons (.var 3) .nil)
  (.cons (.exp (.mut .append (.var 4) (.cons (.bin .fdiv (.bi .sum (.cons (.comp [6] .seq (.cons (.var 5) .nil) [6] (.cst (.bl true)) (.bin .ix (.var 4) (.var 6))) .nil)) (.cst (.int 4))) .nil)))
  .nil))
  (.cons (.ret (.bin .shr (.bin .ix (.var 4) (.var 2)) (.bin .mul (.cst (.int 2)) (.bin .sub (.glb 9) (.var 1)))))
  .nil)))) }

/-- 113 -/
def p_made_square_at_N : List Str := ["shape", "address"]
def p_made_square_at : Fn := { np := 2, ns := 2, io := [0, 1], body :=
  (.cons (.exp (.call 181 (.cons (.var 0) .nil)))
  (.cons (.exp (.call 60 (.cons (.bin .ix (.var 0) (.cst (.int 0))) (.cons (.var 1) .nil))))
  (.cons (.ret (.call 156 (.cons (.tup (.cons (.bin .sub (.bin .ix (.var 0) (.cst (.int 0))) (.bi .len (.cons (.var 1) .nil))) (.cons (.call 109 (.cons (.var 0) (.cons (.var 1) .nil))) (.cons (.bin .ix (.var 0) (.cst (.int 2))) .nil)))) .nil)))
  .nil))) }

/-- 114 -/
def p_made_with_square_N : List Str := ["shape", "address", "other", "rows", "path", "figure", "number", "k", "place", "quarters"]
def p_made_with_square : Fn := { np := 3, ns := 10, io := [0, 1, 2], body :=
  (.cons (.exp (.call 181 (.cons (.var 0) .nil)))
  (.cons (.exp (.call 181 (.cons (.var 2) .nil)))
  (.cons (.exp (.call 60 (.cons (.bin .ix (.var 0) (.cst (.int 0))) (.cons (.var 1) .nil))))
  (.cons (.ite (.cmp .ne (.bin .ix (.var 2) (.cst (.int 0))) (.bin .sub (.bin .ix (.var 0) (.cst (.int 0))) (.bi .len (.cons (.var 1) .nil))))
  (.cons (.rais 10)
  .nil)
  .nil)
  (.cons (.set 3 (.new 10 150 .nil))
  (.cons (.set 4 (.lst (.cons (.meth 10 153 (.var 3) (.cons (.var 0) .nil)) .nil)))
  (.cons (.for_ [5] .seq (.cons (.var 1) .nil)
  (.cons (.exp (.mut .append (.var 4) (.cons (.bin .ix (.meth 10 152 (.var 3) (.cons (.bin .ix (.var 4) (.un .neg (.cst (.int 1)))) .nil)) (.bm .sidx (.glb 10) (.cons (.var 5) .nil))) .nil)))
  .nil))
  (.cons (.set 6 (.meth 10 153 (.var 3) (.cons (.var 2) .nil)))
  (.cons (.for_ [7] .rng (.cons (.bin .sub (.bi .len (.cons (.var 1) .nil)) (.cst (.int 1))) (.cons (.un .neg (.cst (.int 1))) (.cons (.un .neg (.cst (.int 1))) .nil)))
  (.cons (.set 8 (.bm .sidx (.glb 10) (.cons (.bin .ix (.var 1) (.var 7)) .nil)))
  (.cons (.set 9 (.meth 10 152 (.var 3) (.cons (.bin .ix (.var 4) (.var 7)) .nil)))
  (.cons (.set 6 (.meth 10 151 (.var 3) (.cons (.bin .add (.bin .add (.slc (.var 9) .nop (.var 8)) (.tup (.cons (.var 6) .nil))) (.slc (.var 9) (.bin .add (.var 8) (.cst (.int 1))) .nop)) .nil)))
  .nil))))
  (.cons (.ret (.meth 10 155 (.var 3) (.cons (.bin .ix (.var 0) (.cst (.int 0))) (.cons (.var 6) .nil))))
  .nil)))))))))) }

/-- 115 -/
def p_moves_Mover___init___N : List Str := ["self", "down", "right"]
def p_moves_Mover___init__ : Fn := { np := 3, ns := 3, io := [0, 1, 2], body :=
  (.cons (.stf (.var 0) 0 (.new 10 150 .nil))
  (.cons (.stf (.var 0) 15 (.var 1))
  (.cons (.stf (.var 0) 16 (.var 2))
  (.cons (.stf (.var 0) 12 .dt0)
  .nil)))) }

/-- 116 -/
def p_moves_Mover_at_N : List Str := ["self", "window", "row", "column", "number"]
def p_moves_Mover_at : Fn := { np := 4, ns := 5, io := [0, 1, 2, 3], body :=
  (.cons (.set 4 (.bin .ix (.var 1) (.bin .add (.bin .mul (.cst (.int 2)) (.bin .fdiv (.var 2) (.cst (.int 2)))) (.bin .fdiv (.var 3) (.cst (.int 2))))))
  (.cons (.ret (.bin .ix (.meth 10 152 (.att (.var 0) 0) (.cons (.var 4) .nil)) (.bin .add (.bin .mul (.cst (.int 2)) (.bin .mod (.var 2) (.cst (.int 2)))) (.bin .mod (.var 3) (.cst (.int 2))))))
  .nil)) }

/-- 117 -/
def p_moves_Mover_window_of_N : List Str := ["self", "window", "row", "column", "place"]
def p_moves_Mover_window_of : Fn := { np := 4, ns := 5, io := [0, 1, 2, 3], body :=
  (.cons (.ret (.bi .tuple (.cons (.comp [4] .rng (.cons (.cst (.int 4)) .nil) [4] (.cst (.bl true)) (.meth 7 116 (.var 0) (.cons (.var 1) (.cons (.bin .add (.var 2) (.bin .fdiv (.var 4) (.cst (.int 2)))) (.cons (.bin .add (.var 3) (.bin .mod (.var 4) (.cst (.int 2)))) .nil))))) .nil)))
  .nil) }

/-- 118 -/
def p_moves_Mover_quarter_N : List Str := ["self", "window", "size", "place", "row", "column"]
def p_moves_Mover_quarter : Fn := { np := 4, ns := 6, io := [0, 1, 2, 3], body :=
  (.cons (.set 4 (.bin .add (.bin .band (.bin .shr (.att (.var 0) 15) (.bin .sub (.var 2) (.cst (.int 1)))) (.cst (.int 1))) (.bin .fdiv (.var 3) (.cst (.int 2)))))
  (.cons (.set 5 (.bin .add (.bin .band (.bin .shr (.att (.var 0) 16) (.bin .sub (.var 2) (.cst (.int 1)))) (.cst (.int 1))) (.bin .mod (.var 3) (.cst (.int 2)))))
  (.cons (.ret (.meth 7 119 (.var 0) (.cons (.meth 7 117 (.var 0) (.cons (.var 1) (.cons (.var 4) (.cons (.var 5) .nil)))) (.cons (.bin .sub (.var 2) (.cst (.int 1))) .nil))))
  .nil))) }

/-- 119 -/
def p_moves_Mover_square_N : List Str := ["self", "window", "size", "side", "quarters", "place"]
def p_moves_Mover_square : Fn := { np := 3, ns := 6, io := [0, 1, 2], body :=
  (.cons (.set 3 (.bin .shl (.cst (.int 1)) (.var 2)))
  (.cons (.ite (.or_ (.cmp .in_ (.var 1) (.glb 20)) (.and_ (.cmp .eq (.bin .mod (.att (.var 0) 15) (.var 3)) (.cst (.int 0))) (.cmp .eq (.bin .mod (.att (.var 0) 16) (.var 3)) (.cst (.int 0)))))
  (.cons (.ret (.bin .ix (.var 1) (.cst (.int 0))))
  .nil)
  .nil)
  (.cons (.ite (.cmp .nin (.tup (.cons (.var 2) (.cons (.var 1) .nil))) (.att (.var 0) 12))
  (.cons (.set 4 (.bi .tuple (.cons (.comp [5] .rng (.cons (.cst (.int 4)) .nil) [5] (.cst (.bl true)) (.meth 7 118 (.var 0) (.cons (.var 1) (.cons (.var 2) (.cons (.var 5) .nil))))) .nil)))
  (.cons (.sts (.att (.var 0) 12) (.tup (.cons (.var 2) (.cons (.var 1) .nil))) (.meth 10 151 (.att (.var 0) 0) (.cons (.var 4) .nil)))
  .nil))
  .nil)
  (.cons (.ret (.bin .ix (.att (.var 0) 12) (.tup (.cons (.var 2) (.cons (.var 1) .nil)))))
  .nil)))) }

/-- 120 -/
def p_moves_want_moves_N : List Str := ["shape", "down", "right"]
def p_moves_want_moves : Fn := { np := 3, ns := 3, io := [0, 1, 2], body :=
  (.cons (.exp (.call 181 (.cons (.var 0) .nil)))
  (.cons (.ite (.or_ (.not_ (.call 55 (.cons (.var 1) .nil))) (.not_ (.call 55 (.cons (.var 2) .nil))))
  (.cons (.rais 12)
  .nil)
  .nil)
  (.cons (.exp (.call 88 (.cons (.var 0) .nil)))
  .nil))) }

/-- 121 -/
def p_moves_put_anew_N : List Str := ["shape", "down", "right", "is_round", "n", "top", "old", "side", "mover", "here", "window", "place", "floors_down", "floors_right"]
def p_moves_put_anew : Fn := { np := 4, ns := 14, io := [0, 1, 2, 3], body :=
  (.cons (.unp [4, 5, 6] (.var 0))
  (.cons (.set 7 (.bin .shl (.cst (.int 1)) (.var 4)))
  (.cons (.set 8 (.new 7 115 (.cons (.bin .mod (.un .neg (.var 1)) (.var 7)) (.cons (.bin .mod (.un .neg (.var 2)) (.var 7)) .nil))))
  (.cons (.set 9 (.meth 10 153 (.att (.var 8) 0) (.cons (.var 0) .nil)))
  (.cons (.set 10 (.lst .nil))
  (.cons (.for_ [11] .rng (.cons (.cst (.int 4)) .nil)
  (.cons (.set 12 (.bin .add (.bin .fdiv (.un .neg (.var 1)) (.var 7)) (.bin .fdiv (.var 11) (.cst (.int 2)))))
  (.cons (.set 13 (.bin .add (.bin .fdiv (.un .neg (.var 2)) (.var 7)) (.bin .mod (.var 11) (.cst (.int 2)))))
  (.cons (.exp (.mut .append (.var 10) (.cons (.bin .mul (.var 9) (.bi .int (.cons (.or_ (.var 3) (.and_ (.cmp .eq (.var 12) (.cst (.int 0))) (.cmp .eq (.var 13) (.cst (.int 0))))) .nil))) .nil)))
  .nil))))
  (.cons (.ret (.meth 10 155 (.att (.var 8) 0) (.cons (.var 4) (.cons (.meth 7 119 (.var 8) (.cons (.bi .tuple (.cons (.var 10) .nil)) (.cons (.var 4) .nil))) .nil))))
  .nil))))))) }

/-- 122 -/
def p_moves_moved_N : List Str := ["shape", "down", "right"]
def p_moves_moved : Fn := { np := 3, ns := 3, io := [0, 1, 2], body :=
  (.cons (.exp (.call 120 (.cons (.var 0) (.cons (.var 1) (.cons (.var 2) .nil)))))
  (.cons (.ret (.call 121 (.cons (.var 0) (.cons (.var 1) (.cons (.var 2) (.cons (.cst (.bl false)) .nil))))))
  .nil)) }

/-- 123 -/
def p_moves_shifted_N : List Str := ["shape", "down", "right"]
def p_moves_shifted : Fn := { np := 3, ns := 3, io := [0, 1, 2], body :=
  (.cons (.exp (.call 120 (.cons (.var 0) (.cons (.var 1) (.cons (.var 2) .nil)))))
  (.cons (.ret (.call 121 (.cons (.var 0) (.cons (.var 1) (.cons (.var 2) (.cons (.cst (.bl true)) .nil))))))
  .nil)) }

/-- 124 -/
def p_near_beyond_N : List Str := ["number", "first", "size"]
def p_near_beyond : Fn := { np := 3, ns := 3, io := [0, 1, 2], body :=
  (.cons (.ret (.bi .max (.cons (.bin .sub (.var 1) (.var 0)) (.cons (.bin .sub (.var 0) (.bin .sub (.bin .add (.var 1) (.var 2)) (.cst (.int 1)))) (.cons (.cst (.int 0)) .nil)))))
  .nil) }

/-- 125 -/
def p_near_rank_N : List Str := ["box", "row", "column", "first", "left", "size", "high", "wide", "far", "found"]
def p_near_rank : Fn := { np := 3, ns := 10, io := [0, 1, 2], body :=
  (.cons (.unp [3, 4, 5] (.var 0))
  (.cons (.set 6 (.call 124 (.cons (.var 1) (.cons (.var 3) (.cons (.var 5) .nil)))))
  (.cons (.set 7 (.call 124 (.cons (.var 2) (.cons (.var 4) (.cons (.var 5) .nil)))))
  (.cons (.set 8 (.bi .max (.cons (.var 6) (.cons (.var 7) .nil))))
  (.cons (.set 9 (.bi .max (.cons (.var 3) (.cons (.bin .sub (.var 1) (.var 8)) .nil))))
  (.cons (.ite (.or_ (.cmp .eq (.bin .sub (.var 1) (.var 9)) (.var 8)) (.cmp .eq (.bin .sub (.var 9) (.var 1)) (.var 8)))
  (.cons (.ret (.tup (.cons (.var 8) (.cons (.tup (.cons (.var 9) (.cons (.bi .max (.cons (.var 4) (.cons (.bin .sub (.var 2) (.var 8)) .nil))) .nil))) .nil))))
  .nil)
  .nil)
  (.cons (.ite (.cmp .gt (.var 4) (.var 2))
  (.cons (.ret (.tup (.cons (.var 8) (.cons (.tup (.cons (.var 9) (.cons (.var 4) .nil))) .nil))))
  .nil)
  .nil)
  (.cons (.ret (.tup (.cons (.var 8) (.cons (.tup (.cons (.var 9) (.cons (.bin .sub (.var 2) (.var 8)) .nil))) .nil))))
  .nil)))))))) }

/-- 126 -/
def p_near_ranks_N : List Str := ["shape", "row", "column", "found", "leaf", "is_full"]
def p_near_ranks : Fn := { np := 3, ns := 6, io := [0, 1, 2], body :=
  (.cons (.set 3 (.lst .nil))
  (.cons (.for_ [4, 5] .seq (.cons (.call 89 (.cons (.var 0) .nil)) .nil)
  (.cons (.exp (.mut .append (.var 3) (.cons (.tup (.cons (.call 125 (.cons (.call 62 (.cons (.bin .ix (.var 0) (.cst (.int 0))) (.cons (.var 4) .nil))) (.cons (.var 1) (.cons (.var 2) .nil)))) (.cons (.var 4) (.cons (.var 5) .nil)))) .nil)))
  .nil))
  (.cons (.ret (.var 3))
  .nil))) }

/-- 129 -/
def p_near_to_the_edge_N : List Str := ["n", "row", "column", "side"]
def p_near_to_the_edge : Fn := { np := 3, ns := 4, io := [0, 1, 2], body :=
  (.cons (.set 3 (.bin .shl (.cst (.int 1)) (.var 0)))
  (.cons (.ret (.bi .min (.cons (.bin .add (.var 1) (.cst (.int 1))) (.cons (.bin .add (.var 2) (.cst (.int 1))) (.cons (.bin .sub (.var 3) (.var 1)) (.cons (.bin .sub (.var 3) (.var 2)) .nil))))))
  .nil)) }

/-- 131 -/
def p_parts_leaves_for_N : List Str := ["shape", "by"]
def p_parts_leaves_for : Fn := { np := 2, ns := 2, io := [0, 1], body :=
  (.cons (.exp (.call 181 (.cons (.var 0) .nil)))
  (.cons (.exp (.call 204 (.cons (.var 1) .nil)))
  (.cons (.ret (.new 12 185 (.cons (.var 0) .nil)))
  .nil))) }

/-- 134 -/
def p_parts_owners_N : List Str := ["groups", "found", "number", "group", "k"]
def p_parts_owners : Fn := { np := 1, ns := 5, io := [0], body :=
  (.cons (.set 1 .dk0)
  (.cons (.for_ [2, 3] .enum (.cons (.var 0) .nil)
  (.cons (.for_ [4] .seq (.cons (.var 3) .nil)
  (.cons (.sts (.var 1) (.var 4) (.var 2))
  .nil))
  .nil))
  (.cons (.ret (.var 1))
  .nil))) }

/-- 138 -/
def p_rims_Lines___init___N : List Str := ["self"]
def p_rims_Lines___init__ : Fn := { np := 1, ns := 1, io := [0], body :=
  (.cons (.stf (.var 0) 17 .dk0)
  .nil) }

/-- 139 -/
def p_rims_Lines_put_N : List Str := ["self", "line", "begin", "end", "amount", "here"]
def p_rims_Lines_put : Fn := { np := 5, ns := 6, io := [0, 1, 2, 3, 4], body :=
  (.cons (.set 5 (.sdf (.att (.var 0) 17) (.var 1) .dk0))
  (.cons (.sts (.var 5) (.var 2) (.bin .add (.dgt (.var 5) (.var 2) (.cst (.int 0))) (.var 4)))
  (.cons (.sts (.var 5) (.var 3) (.bin .sub (.dgt (.var 5) (.var 3) (.cst (.int 0))) (.var 4)))
  .nil))) }

/-- 142 -/
def p_rims_Sides___init___N : List Str := ["self", "n", "full_addresses", "level", "upright", "address", "row", "column", "side", "line", "begin", "end", "amount"]
def p_rims_Sides___init__ : Fn := { np := 3, ns := 13, io := [0, 1, 2], body :=
  (.cons (.stf (.var 0) 8 .dk0)
  (.cons (.set 3 (.new 8 138 .nil))
  (.cons (.set 4 (.new 8 138 .nil))
  (.cons (.for_ [5] .seq (.cons (.var 2) .nil)
  (.cons (.unp [6, 7, 8] (.call 62 (.cons (.var 1) (.cons (.var 5) .nil))))
  (.cons (.exp (.meth 8 139 (.var 3) (.cons (.var 6) (.cons (.var 7) (.cons (.bin .add (.var 7) (.var 8)) (.cons (.cst (.int 1)) .nil))))))
  (.cons (.exp (.meth 8 139 (.var 3) (.cons (.bin .add (.var 6) (.var 8)) (.cons (.var 7) (.cons (.bin .add (.var 7) (.var 8)) (.cons (.un .neg (.cst (.int 1))) .nil))))))
  (.cons (.exp (.meth 8 139 (.var 4) (.cons (.bin .add (.var 7) (.var 8)) (.cons (.var 6) (.cons (.bin .add (.var 6) (.var 8)) (.cons (.cst (.int 1)) .nil))))))
  (.cons (.exp (.meth 8 139 (.var 4) (.cons (.var 7) (.cons (.var 6) (.cons (.bin .add (.var 6) (.var 8)) (.cons (.un .neg (.cst (.int 1))) .nil))))))
  .nil))))))
  (.cons (.for_ [9, 10, 11, 12] .seq (.cons (.meth 8 140 (.var 3) .nil) .nil)
  (.cons (.exp (.meth 9 143 (.var 0) (.cons (.tup (.cons (.var 9) (.cons (.var 10) .nil))) (.cons (.tup (.cons (.var 9) (.cons (.var 11) .nil))) (.cons (.var 12) (.cons (.glb 21) .nil))))))
  .nil))
  (.cons (.for_ [9, 10, 11, 12] .seq (.cons (.meth 8 140 (.var 4) .nil) .nil)
  (.cons (.exp (.meth 9 143 (.var 0) (.cons (.tup (.cons (.var 10) (.cons (.var 9) .nil))) (.cons (.tup (.cons (.var 11) (.cons (.var 9) .nil))) (.cons (.var 12) (.cons (.glb 22) .nil))))))
  .nil))
  .nil)))))) }

/-- 143 -/
def p_rims_Sides_add_N : List Str := ["self", "first", "last", "amount", "heading"]
def p_rims_Sides_add : Fn := { np := 5, ns := 5, io := [0, 1, 2, 3, 4], body :=
  (.cons (.ite (.cmp .gt (.var 3) (.cst (.int 0)))
  (.cons (.sts (.att (.var 0) 8) (.tup (.cons (.var 1) (.cons (.var 4) .nil))) (.var 2))
  .nil)
  (.cons (.sts (.att (.var 0) 8) (.tup (.cons (.var 2) (.cons (.bin .add (.var 4) (.cst (.int 2))) .nil))) (.var 1))
  .nil))
  .nil) }

/-- 144 -/
def p_rims_Sides_turned_N : List Str := ["self", "corner", "heading", "by", "right", "left"]
def p_rims_Sides_turned : Fn := { np := 4, ns := 6, io := [0, 1, 2, 3], body :=
  (.cons (.set 4 (.bin .mod (.bin .add (.var 2) (.cst (.int 1))) (.cst (.int 4))))
  (.cons (.set 5 (.bin .mod (.bin .add (.var 2) (.cst (.int 3))) (.cst (.int 4))))
  (.cons (.ite (.and_ (.cmp .in_ (.tup (.cons (.var 1) (.cons (.var 4) .nil))) (.att (.var 0) 8)) (.or_ (.cmp .eq (.var 3) (.glb 30)) (.cmp .nin (.tup (.cons (.var 1) (.cons (.var 5) .nil))) (.att (.var 0) 8))))
  (.cons (.ret (.var 4))
  .nil)
  .nil)
  (.cons (.ret (.var 5))
  .nil)))) }

/-- 145 -/
def p_rims_Sides_rim_from_N : List Str := ["self", "corner", "heading", "by", "gone", "found"]
def p_rims_Sides_rim_from : Fn := { np := 5, ns := 6, io := [0, 3, 4], body :=
  (.cons (.set 5 (.lst .nil))
  (.cons (.while_ (.cmp .nin (.tup (.cons (.var 1) (.cons (.var 2) .nil))) (.var 4))
  (.cons (.sts (.var 4) (.tup (.cons (.var 1) (.cons (.var 2) .nil))) (.cst (.bl true)))
  (.cons (.exp (.mut .append (.var 5) (.cons (.var 1) .nil)))
  (.cons (.set 1 (.bin .ix (.att (.var 0) 8) (.tup (.cons (.var 1) (.cons (.var 2) .nil)))))
  (.cons (.set 2 (.meth 9 144 (.var 0) (.cons (.var 1) (.cons (.var 2) (.cons (.var 3) .nil)))))
  .nil)))))
  (.cons (.ret (.bi .tuple (.cons (.var 5) .nil)))
  .nil))) }

/-- 147 -/
def p_rims_is_outer_N : List Str := ["rim"]
def p_rims_is_outer : Fn := { np := 1, ns := 1, io := [0], body :=
  (.cons (.ret (.cmp .eq (.bin .ix (.bin .ix (.var 0) (.cst (.int 0))) (.cst (.int 0))) (.bin .ix (.bin .ix (.var 0) (.cst (.int 1))) (.cst (.int 0)))))
  .nil) }

/-- 148 -/
def p_rims_rim_round_N : List Str := ["shape", "by", "row", "column", "rims", "some", "are_outer", "own", "rim", "one"]
def p_rims_rim_round : Fn := { np := 4, ns := 10, io := [0, 1, 2, 3], body :=
  (.cons (.exp (.call 181 (.cons (.var 0) .nil)))
  (.cons (.exp (.call 204 (.cons (.var 1) .nil)))
  (.cons (.exp (.call 61 (.cons (.bin .ix (.var 0) (.cst (.int 0))) (.cons (.var 2) (.cons (.var 3) .nil)))))
  (.cons (.set 4 (.call 146 (.cons (.var 0) (.cons (.var 1) .nil))))
  (.cons (.for_ [5, 6] .seq (.cons (.tup (.cons (.tup (.cons (.call 132 (.cons (.var 0) (.cons (.var 1) .nil))) (.cons (.cst (.bl true)) .nil))) (.cons (.tup (.cons (.call 133 (.cons (.var 0) (.cons (.var 1) .nil))) (.cons (.cst (.bl false)) .nil))) .nil))) .nil)
  (.cons (.set 7 (.comp [8] .seq (.cons (.var 4) .nil) [8] (.cmp .eq (.call 147 (.cons (.var 8) .nil)) (.var 6)) (.var 8)))
  (.cons (.for_ [8, 9] .zip (.cons (.var 7) (.cons (.var 5) .nil))
  (.cons (.ite (.call 110 (.cons (.var 9) (.cons (.var 2) (.cons (.var 3) .nil))))
  (.cons (.ret (.var 8))
  .nil)
  .nil)
  .nil))
  .nil)))
  (.cons (.ret (.cst .non))
  .nil)))))) }

/-- 150 -/
def p_rows_Rows___init___N : List Str := ["self"]
def p_rows_Rows___init__ : Fn := { np := 1, ns := 1, io := [0], body :=
  (.cons (.stf (.var 0) 0 (.lst .nil))
  (.cons (.stf (.var 0) 18 .dt0)
  .nil)) }

/-- 151 -/
def p_rows_Rows_number_N : List Str := ["self", "quarters"]
def p_rows_Rows_number : Fn := { np := 2, ns := 2, io := [0, 1], body :=
  (.cons (.ite (.cmp .in_ (.var 1) (.tup (.cons (.tup (.cons (.cst (.int 0)) (.cons (.cst (.int 0)) (.cons (.cst (.int 0)) (.cons (.cst (.int 0)) .nil))))) (.cons (.tup (.cons (.cst (.int 1)) (.cons (.cst (.int 1)) (.cons (.cst (.int 1)) (.cons (.cst (.int 1)) .nil))))) .nil))))
  (.cons (.ret (.bin .ix (.var 1) (.cst (.int 0))))
  .nil)
  .nil)
  (.cons (.ite (.cmp .nin (.var 1) (.att (.var 0) 18))
  (.cons (.exp (.mut .append (.att (.var 0) 0) (.cons (.var 1) .nil)))
  (.cons (.sts (.att (.var 0) 18) (.var 1) (.bin .add (.bi .len (.cons (.att (.var 0) 0) .nil)) (.cst (.int 1))))
  .nil))
  .nil)
  (.cons (.ret (.bin .ix (.att (.var 0) 18) (.var 1)))
  .nil))) }

/-- 152 -/
def p_rows_Rows_quarters_N : List Str := ["self", "number"]
def p_rows_Rows_quarters : Fn := { np := 2, ns := 2, io := [0, 1], body :=
  (.cons (.ite (.cmp .lt (.var 1) (.cst (.int 2)))
  (.cons (.ret (.tup (.cons (.var 1) (.cons (.var 1) (.cons (.var 1) (.cons (.var 1) .nil))))))
  .nil)
  .nil)
  (.cons (.ret (.bin .ix (.att (.var 0) 0) (.bin .sub (.var 1) (.cst (.int 2)))))
  .nil)) }

/-- 153 -/
def p_rows_Rows_take_N : List Str := ["self", "telling", "n", "top", "rows", "here", "row", "number"]
def p_rows_Rows_take : Fn := { np := 2, ns := 8, io := [0, 1], body :=
  (.cons (.unp [2, 3, 4] (.var 1))
  (.cons (.set 5 (.lst (.cons (.cst (.int 0)) (.cons (.cst (.int 1)) .nil))))
  (.cons (.for_ [6] .seq (.cons (.var 4) .nil)
  (.cons (.exp (.mut .append (.var 5) (.cons (.meth 10 151 (.var 0) (.cons (.bi .tuple (.cons (.comp [7] .seq (.cons (.var 6) .nil) [7] (.cst (.bl true)) (.bin .ix (.var 5) (.var 7))) .nil)) .nil)) .nil)))
  .nil))
  (.cons (.ret (.bin .ix (.var 5) (.var 3)))
  .nil)))) }

/-- 154 -/
def p_rows_Rows_order_N : List Str := ["self", "number", "found", "quarter"]
def p_rows_Rows_order : Fn := { np := 3, ns := 4, io := [0, 1, 2], body :=
  (.cons (.ite (.and_ (.cmp .gt (.var 1) (.cst (.int 1))) (.cmp .nin (.var 1) (.var 2)))
  (.cons (.for_ [3] .seq (.cons (.meth 10 152 (.var 0) (.cons (.var 1) .nil)) .nil)
  (.cons (.exp (.meth 10 154 (.var 0) (.cons (.var 3) (.cons (.var 2) .nil))))
  .nil))
  (.cons (.sts (.var 2) (.var 1) (.bin .add (.bi .len (.cons (.var 2) .nil)) (.cst (.int 2))))
  .nil))
  .nil)
  .nil) }

/-- 155 -/
def p_rows_Rows_shape_N : List Str := ["self", "n", "top", "new", "rows", "number", "quarter"]
def p_rows_Rows_shape : Fn := { np := 3, ns := 7, io := [0, 1, 2], body :=
  (.cons (.set 3 .dk0)
  (.cons (.exp (.meth 10 154 (.var 0) (.cons (.var 2) (.cons (.var 3) .nil))))
  (.cons (.sts (.var 3) (.cst (.int 0)) (.cst (.int 0)))
  (.cons (.sts (.var 3) (.cst (.int 1)) (.cst (.int 1)))
  (.cons (.set 4 (.lst .nil))
  (.cons (.for_ [5] .seq (.cons (.var 3) .nil)
  (.cons (.ite (.cmp .gt (.var 5) (.cst (.int 1)))
  (.cons (.exp (.mut .append (.var 4) (.cons (.bi .tuple (.cons (.comp [6] .seq (.cons (.meth 10 152 (.var 0) (.cons (.var 5) .nil)) .nil) [6] (.cst (.bl true)) (.bin .ix (.var 3) (.var 6))) .nil)) .nil)))
  .nil)
  .nil)
  .nil))
  (.cons (.ret (.tup (.cons (.var 1) (.cons (.bin .ix (.var 3) (.var 2)) (.cons (.bi .tuple (.cons (.var 4) .nil)) .nil)))))
  .nil))))))) }

/-- 156 -/
def p_rows_one_of_N : List Str := ["telling", "rows", "top"]
def p_rows_one_of : Fn := { np := 1, ns := 3, io := [0], body :=
  (.cons (.set 1 (.new 10 150 .nil))
  (.cons (.set 2 (.meth 10 153 (.var 1) (.cons (.var 0) .nil)))
  (.cons (.ret (.meth 10 155 (.var 1) (.cons (.bin .ix (.var 0) (.cst (.int 0))) (.cons (.var 2) .nil))))
  .nil))) }

/-- 157 -/
def p_scales_larger_N : List Str := ["shape", "n", "top", "rows"]
def p_scales_larger : Fn := { np := 1, ns := 4, io := [0], body :=
  (.cons (.exp (.call 181 (.cons (.var 0) .nil)))
  (.cons (.unp [1, 2, 3] (.var 0))
  (.cons (.ite (.cmp .eq (.var 1) (.glb 9))
  (.cons (.rais 1)
  .nil)
  .nil)
  (.cons (.ret (.tup (.cons (.bin .add (.var 1) (.cst (.int 1))) (.cons (.var 2) (.cons (.var 3) .nil)))))
  .nil)))) }

/-- 158 -/
def p_scales_Lessening___init___N : List Str := ["self", "wanted"]
def p_scales_Lessening___init__ : Fn := { np := 2, ns := 2, io := [0, 1], body :=
  (.cons (.stf (.var 0) 0 (.new 10 150 .nil))
  (.cons (.stf (.var 0) 19 (.var 1))
  (.cons (.stf (.var 0) 12 .dt0)
  .nil))) }

/-- 159 -/
def p_scales_Lessening_square_N : List Str := ["self", "number", "size", "quarters", "quarter"]
def p_scales_Lessening_square : Fn := { np := 3, ns := 5, io := [0, 1, 2], body :=
  (.cons (.ite (.cmp .lt (.var 1) (.cst (.int 2)))
  (.cons (.ret (.var 1))
  .nil)
  .nil)
  (.cons (.ite (.cmp .eq (.var 2) (.cst (.int 1)))
  (.cons (.ret (.bi .int (.cons (.cmp .ge (.bi .sum (.cons (.meth 10 152 (.att (.var 0) 0) (.cons (.var 1) .nil)) .nil)) (.att (.var 0) 19)) .nil)))
  .nil)
  .nil)
  (.cons (.ite (.cmp .nin (.tup (.cons (.var 1) (.cons (.var 2) .nil))) (.att (.var 0) 12))
  (.cons (.set 3 (.bi .tuple (.cons (.comp [4] .seq (.cons (.meth 10 152 (.att (.var 0) 0) (.cons (.var 1) .nil)) .nil) [4] (.cst (.bl true)) (.meth 11 159 (.var 0) (.cons (.var 4) (.cons (.bin .sub (.var 2) (.cst (.int 1))) .nil)))) .nil)))
  (.cons (.sts (.att (.var 0) 12) (.tup (.cons (.var 1) (.cons (.var 2) .nil))) (.meth 10 151 (.att (.var 0) 0) (.cons (.var 3) .nil)))
  .nil))
  .nil)
  (.cons (.ret (.bin .ix (.att (.var 0) 12) (.tup (.cons (.var 1) (.cons (.var 2) .nil)))))
  .nil)))) }

/-- 160 -/
def p_scales_lesser_N : List Str := ["shape", "k", "n", "lessening", "top"]
def p_scales_lesser : Fn := { np := 2, ns := 5, io := [0, 1], body :=
  (.cons (.exp (.call 181 (.cons (.var 0) .nil)))
  (.cons (.set 2 (.bin .ix (.var 0) (.cst (.int 0))))
  (.cons (.ite (.cmp .eq (.var 2) (.cst (.int 0)))
  (.cons (.rais 1)
  .nil)
  .nil)
  (.cons (.ite (.or_ (.not_ (.call 55 (.cons (.var 1) .nil))) (.or_ (.cmp .lt (.var 1) (.cst (.int 1))) (.cmp .gt (.var 1) (.glb 25))))
  (.cons (.rais 12)
  .nil)
  .nil)
  (.cons (.set 3 (.new 11 158 (.cons (.var 1) .nil)))
  (.cons (.set 4 (.meth 11 159 (.var 3) (.cons (.meth 10 153 (.att (.var 3) 0) (.cons (.var 0) .nil)) (.cons (.var 2) .nil))))
  (.cons (.ret (.meth 10 155 (.att (.var 3) 0) (.cons (.bin .sub (.var 2) (.cst (.int 1))) (.cons (.var 4) .nil))))
  .nil))))))) }

/-- 161 -/
def p_shapetexts_line_of_N : List Str := ["numbers", "number"]
def p_shapetexts_line_of : Fn := { np := 1, ns := 2, io := [0], body :=
  (.cons (.ret (.bin .add (.bm .join (.cst (.str " ")) (.cons (.comp [1] .seq (.cons (.var 0) .nil) [1] (.cst (.bl true)) (.bi .str (.cons (.var 1) .nil))) .nil)) (.cst (.str "\n"))))
  .nil) }

/-- 162 -/
def p_shapetexts_shape_text_N : List Str := ["shape", "n", "top", "rows", "row"]
def p_shapetexts_shape_text : Fn := { np := 1, ns := 5, io := [0], body :=
  (.cons (.exp (.call 181 (.cons (.var 0) .nil)))
  (.cons (.unp [1, 2, 3] (.var 0))
  (.cons (.ret (.bin .add (.call 161 (.cons (.tup (.cons (.var 1) (.cons (.var 2) .nil))) .nil)) (.bm .join (.cst (.str "")) (.cons (.comp [4] .seq (.cons (.var 3) .nil) [4] (.cst (.bl true)) (.call 161 (.cons (.var 4) .nil))) .nil))))
  .nil))) }

/-- 163 -/
def p_shapetexts_number_in_N : List Str := ["word", "sign"]
def p_shapetexts_number_in : Fn := { np := 1, ns := 2, io := [0], body :=
  (.cons (.ite (.or_ (.cmp .eq (.var 0) (.cst (.str ""))) (.or_ (.cmp .gt (.bi .len (.cons (.var 0) .nil)) (.glb 27)) (.not_ (.bi .all (.cons (.comp [1] .seq (.cons (.var 0) .nil) [1] (.cst (.bl true)) (.cmp .in_ (.var 1) (.glb 26))) .nil)))))
  (.cons (.rais 6)
  .nil)
  .nil)
  (.cons (.ite (.and_ (.cmp .eq (.bin .ix (.var 0) (.cst (.int 0))) (.cst (.str "0"))) (.cmp .ne (.var 0) (.cst (.str "0"))))
  (.cons (.rais 6)
  .nil)
  .nil)
  (.cons (.ret (.bi .int (.cons (.var 0) .nil)))
  .nil))) }

/-- 164 -/
def p_shapetexts_numbers_in_N : List Str := ["line", "word"]
def p_shapetexts_numbers_in : Fn := { np := 1, ns := 2, io := [0], body :=
  (.cons (.ret (.bi .tuple (.cons (.comp [1] .seq (.cons (.bm .split (.var 0) (.cons (.cst (.str " ")) .nil)) .nil) [1] (.cst (.bl true)) (.call 163 (.cons (.var 1) .nil))) .nil)))
  .nil) }

/-- 165 -/
def p_shapetexts_read_shape_N : List Str := ["text", "lines", "head", "found", "line"]
def p_shapetexts_read_shape : Fn := { np := 1, ns := 5, io := [0], body :=
  (.cons (.ite (.not_ (.isi (.var 0) [.str]))
  (.cons (.rais 6)
  .nil)
  .nil)
  (.cons (.set 1 (.bm .split (.var 0) (.cons (.cst (.str "\n")) .nil)))
  (.cons (.ite (.or_ (.cmp .lt (.bi .len (.cons (.var 1) .nil)) (.cst (.int 2))) (.cmp .ne (.bin .ix (.var 1) (.un .neg (.cst (.int 1)))) (.cst (.str ""))))
  (.cons (.rais 6)
  .nil)
  .nil)
  (.cons (.set 2 (.call 164 (.cons (.bin .ix (.var 1) (.cst (.int 0))) .nil)))
  (.cons (.set 3 (.bin .add (.var 2) (.tup (.cons (.bi .tuple (.cons (.comp [4] .seq (.cons (.slc (.var 1) (.cst (.int 1)) (.un .neg (.cst (.int 1)))) .nil) [4] (.cst (.bl true)) (.call 164 (.cons (.var 4) .nil))) .nil)) .nil))))
  (.cons (.ite (.not_ (.call 180 (.cons (.var 3) .nil)))
  (.cons (.rais 6)
  .nil)
  .nil)
  (.cons (.ret (.var 3))
  .nil))))))) }

/-- 166 -/
def p_steps_want_telling_N : List Str := ["thing"]
def p_steps_want_telling : Fn := { np := 1, ns := 1, io := [0], body :=
  (.cons (.ite (.not_ (.call 179 (.cons (.var 0) .nil)))
  (.cons (.rais 5)
  .nil)
  .nil)
  .nil) }

/-- 167 -/
def p_steps_stood_for_N : List Str := ["telling", "n", "top", "rows", "found", "row", "number"]
def p_steps_stood_for : Fn := { np := 1, ns := 7, io := [0], body :=
  (.cons (.unp [1, 2, 3] (.var 0))
  (.cons (.set 4 (.dkd (.cons (.var 2) (.cons (.cst (.bl true)) .nil))))
  (.cons (.for_ [5] .seq (.cons (.var 3) .nil)
  (.cons (.for_ [6] .seq (.cons (.var 5) .nil)
  (.cons (.sts (.var 4) (.var 6) (.cst (.bl true)))
  .nil))
  .nil))
  (.cons (.ret (.var 4))
  .nil)))) }

/-- 169 -/
def p_steps_is_step_N : List Str := ["telling", "thing", "one"]
def p_steps_is_step : Fn := { np := 2, ns := 3, io := [0, 1], body :=
  (.cons (.ite (.or_ (.not_ (.isi (.var 1) [.tuple])) (.not_ (.bi .all (.cons (.comp [2] .seq (.cons (.var 1) .nil) [2] (.cst (.bl true)) (.or_ (.isi (.var 2) [.str]) (.call 55 (.cons (.var 2) .nil)))) .nil))))
  (.cons (.ret (.cst (.bl false)))
  .nil)
  .nil)
  (.cons (.ret (.cmp .in_ (.var 1) (.call 168 (.cons (.var 0) .nil))))
  .nil)) }

/-- 170 -/
def p_steps_put_by_N : List Str := ["number", "k", "goal"]
def p_steps_put_by : Fn := { np := 3, ns := 3, io := [0, 1, 2], body :=
  (.cons (.ite (.cmp .eq (.var 0) (.bin .add (.var 1) (.cst (.int 2))))
  (.cons (.ret (.var 2))
  .nil)
  .nil)
  (.cons (.ret (.bin .sub (.var 0) (.bi .int (.cons (.cmp .gt (.var 0) (.bin .add (.var 1) (.cst (.int 2)))) .nil))))
  .nil)) }

/-- 171 -/
def p_steps_goal_of_N : List Str := ["telling", "step"]
def p_steps_goal_of : Fn := { np := 2, ns := 2, io := [0, 1], body :=
  (.cons (.ite (.cmp .eq (.bin .ix (.var 1) (.cst (.int 0))) (.cst (.str "same")))
  (.cons (.ret (.bin .add (.bin .ix (.var 1) (.cst (.int 2))) (.cst (.int 2))))
  .nil)
  .nil)
  (.cons (.ite (.cmp .eq (.bin .ix (.var 1) (.cst (.int 0))) (.cst (.str "plain")))
  (.cons (.ret (.bin .ix (.bin .ix (.bin .ix (.var 0) (.cst (.int 2))) (.bin .ix (.var 1) (.cst (.int 1)))) (.cst (.int 0))))
  .nil)
  .nil)
  (.cons (.ret (.cst (.int 0)))
  .nil))) }

/-- 172 -/
def p_steps_behind_N : List Str := ["telling", "step", "n", "top", "rows", "k", "goal", "found", "row", "number"]
def p_steps_behind : Fn := { np := 2, ns := 10, io := [0, 1], body :=
  (.cons (.unp [2, 3, 4] (.var 0))
  (.cons (.set 5 (.bin .ix (.var 1) (.cst (.int 1))))
  (.cons (.set 6 (.call 171 (.cons (.var 0) (.cons (.var 1) .nil))))
  (.cons (.set 7 (.lst .nil))
  (.cons (.for_ [8] .seq (.cons (.bin .add (.slc (.var 4) .nop (.var 5)) (.slc (.var 4) (.bin .add (.var 5) (.cst (.int 1))) .nop)) .nil)
  (.cons (.exp (.mut .append (.var 7) (.cons (.bi .tuple (.cons (.comp [9] .seq (.cons (.var 8) .nil) [9] (.cst (.bl true)) (.call 170 (.cons (.var 9) (.cons (.var 5) (.cons (.var 6) .nil))))) .nil)) .nil)))
  .nil))
  (.cons (.ret (.tup (.cons (.var 2) (.cons (.call 170 (.cons (.var 3) (.cons (.var 5) (.cons (.var 6) .nil)))) (.cons (.bi .tuple (.cons (.var 7) .nil)) .nil)))))
  .nil)))))) }

/-- 173 -/
def p_steps_steps_of_N : List Str := ["telling"]
def p_steps_steps_of : Fn := { np := 1, ns := 1, io := [0], body :=
  (.cons (.exp (.call 166 (.cons (.var 0) .nil)))
  (.cons (.ret (.call 168 (.cons (.var 0) .nil)))
  .nil)) }

/-- 174 -/
def p_steps_stepped_N : List Str := ["telling", "step"]
def p_steps_stepped : Fn := { np := 2, ns := 2, io := [0, 1], body :=
  (.cons (.exp (.call 166 (.cons (.var 0) .nil)))
  (.cons (.ite (.not_ (.call 169 (.cons (.var 0) (.cons (.var 1) .nil))))
  (.cons (.rais 7)
  .nil)
  .nil)
  (.cons (.ret (.call 172 (.cons (.var 0) (.cons (.var 1) .nil))))
  .nil))) }

/-- 175 -/
def p_steps_one_telling_N : List Str := ["telling"]
def p_steps_one_telling : Fn := { np := 1, ns := 1, io := [0], body :=
  (.cons (.exp (.call 166 (.cons (.var 0) .nil)))
  (.cons (.ret (.call 156 (.cons (.var 0) .nil)))
  .nil)) }

/-- 176 -/
def p_tellings_is_number_N : List Str := ["thing", "most"]
def p_tellings_is_number : Fn := { np := 2, ns := 2, io := [0, 1], body :=
  (.cons (.ret (.and_ (.call 55 (.cons (.var 0) .nil)) (.chain .le .lt (.cst (.int 0)) (.var 0) (.var 1))))
  .nil) }

/-- 177 -/
def p_tellings_is_row_N : List Str := ["thing", "place", "one"]
def p_tellings_is_row : Fn := { np := 2, ns := 3, io := [0, 1], body :=
  (.cons (.ret (.and_ (.isi (.var 0) [.tuple]) (.and_ (.cmp .eq (.bi .len (.cons (.var 0) .nil)) (.cst (.int 4))) (.bi .all (.cons (.comp [2] .seq (.cons (.var 0) .nil) [2] (.cst (.bl true)) (.call 176 (.cons (.var 2) (.cons (.bin .add (.var 1) (.cst (.int 2))) .nil)))) .nil)))))
  .nil) }

/-- 178 -/
def p_tellings_depths_of_N : List Str := ["rows", "found", "row", "number"]
def p_tellings_depths_of : Fn := { np := 1, ns := 4, io := [0], body :=
  (.cons (.set 1 (.lst (.cons (.cst (.int 0)) (.cons (.cst (.int 0)) .nil))))
  (.cons (.for_ [2] .seq (.cons (.var 0) .nil)
  (.cons (.exp (.mut .append (.var 1) (.cons (.bin .add (.cst (.int 1)) (.bi .max (.cons (.comp [3] .seq (.cons (.var 2) .nil) [3] (.cst (.bl true)) (.bin .ix (.var 1) (.var 3))) .nil))) .nil)))
  .nil))
  (.cons (.ret (.var 1))
  .nil))) }

/-- 179 -/
def p_tellings_is_telling_N : List Str := ["thing", "n", "top", "rows", "place", "row"]
def p_tellings_is_telling : Fn := { np := 1, ns := 6, io := [0], body :=
  (.cons (.ite (.or_ (.not_ (.isi (.var 0) [.tuple])) (.or_ (.cmp .ne (.bi .len (.cons (.var 0) .nil)) (.cst (.int 3))) (.or_ (.not_ (.call 56 (.cons (.bin .ix (.var 0) (.cst (.int 0))) .nil))) (.not_ (.isi (.bin .ix (.var 0) (.cst (.int 2))) [.tuple])))))
  (.cons (.ret (.cst (.bl false)))
  .nil)
  .nil)
  (.cons (.unp [1, 2, 3] (.var 0))
  (.cons (.ite (.or_ (.not_ (.bi .all (.cons (.comp [4, 5] .enum (.cons (.var 3) .nil) [4, 5] (.cst (.bl true)) (.call 177 (.cons (.var 5) (.cons (.var 4) .nil)))) .nil))) (.not_ (.call 176 (.cons (.var 2) (.cons (.bin .add (.bi .len (.cons (.var 3) .nil)) (.cst (.int 2))) .nil)))))
  (.cons (.ret (.cst (.bl false)))
  .nil)
  .nil)
  (.cons (.ret (.cmp .le (.bin .ix (.call 178 (.cons (.var 3) .nil)) (.var 2)) (.var 1)))
  .nil)))) }

/-- 180 -/
def p_tellings_is_shape_N : List Str := ["thing"]
def p_tellings_is_shape : Fn := { np := 1, ns := 1, io := [0], body :=
  (.cons (.ret (.and_ (.call 179 (.cons (.var 0) .nil)) (.cmp .eq (.call 156 (.cons (.var 0) .nil)) (.var 0))))
  .nil) }

/-- 181 -/
def p_tellings_want_shape_N : List Str := ["thing"]
def p_tellings_want_shape : Fn := { np := 1, ns := 1, io := [0], body :=
  (.cons (.ite (.not_ (.call 180 (.cons (.var 0) .nil)))
  (.cons (.rais 4)
  .nil)
  .nil)
  .nil) }

/-- 182 -/
def p_tellings_empty_N : List Str := ["n"]
def p_tellings_empty : Fn := { np := 1, ns := 1, io := [0], body :=
  (.cons (.exp (.call 59 (.cons (.var 0) .nil)))
  (.cons (.ret (.tup (.cons (.var 0) (.cons (.cst (.int 0)) (.cons (.tup .nil) .nil)))))
  .nil)) }

/-- 183 -/
def p_tellings_full_N : List Str := ["n"]
def p_tellings_full : Fn := { np := 1, ns := 1, io := [0], body :=
  (.cons (.exp (.call 59 (.cons (.var 0) .nil)))
  (.cons (.ret (.tup (.cons (.var 0) (.cons (.cst (.int 1)) (.cons (.tup .nil) .nil)))))
  .nil)) }

/-- 184 -/
def p_touching_other_way_N : List Str := ["by"]
def p_touching_other_way : Fn := { np := 1, ns := 1, io := [0], body :=
  (.cons (.ite (.cmp .eq (.var 0) (.glb 30))
  (.cons (.ret (.glb 31))
  .nil)
  .nil)
  (.cons (.ret (.glb 30))
  .nil)) }

/-- 185 -/
def p_touching_Leaves___init___N : List Str := ["self", "shape", "address", "truth", "box"]
def p_touching_Leaves___init__ : Fn := { np := 2, ns := 5, io := [0, 1], body :=
  (.cons (.stf (.var 0) 20 (.bin .ix (.var 1) (.cst (.int 0))))
  (.cons (.stf (.var 0) 21 (.lst .nil))
  (.cons (.stf (.var 0) 22 (.lst .nil))
  (.cons (.stf (.var 0) 23 (.lst .nil))
  (.cons (.stf (.var 0) 18 .dk0)
  (.cons (.for_ [2, 3] .seq (.cons (.call 89 (.cons (.var 1) .nil)) .nil)
  (.cons (.set 4 (.call 62 (.cons (.bin .ix (.var 1) (.cst (.int 0))) (.cons (.var 2) .nil))))
  (.cons (.sts (.att (.var 0) 18) (.var 4) (.bi .len (.cons (.att (.var 0) 23) .nil)))
  (.cons (.exp (.mut .append (.att (.var 0) 21) (.cons (.var 2) .nil)))
  (.cons (.exp (.mut .append (.att (.var 0) 22) (.cons (.var 3) .nil)))
  (.cons (.exp (.mut .append (.att (.var 0) 23) (.cons (.var 4) .nil)))
  .nil))))))
  .nil)))))) }

/-- 186 -/
def p_touching_Leaves_is_on_N : List Str := ["self", "row", "column", "side"]
def p_touching_Leaves_is_on : Fn := { np := 3, ns := 4, io := [0, 1, 2], body :=
  (.cons (.set 3 (.bin .shl (.cst (.int 1)) (.att (.var 0) 20)))
  (.cons (.ret (.and_ (.cmp .le (.cst (.int 0)) (.var 1)) (.and_ (.cmp .lt (.var 1) (.var 3)) (.and_ (.cmp .le (.cst (.int 0)) (.var 2)) (.cmp .lt (.var 2) (.var 3))))))
  .nil)) }

/-- 187 -/
def p_touching_Leaves_number_at_N : List Str := ["self", "row", "column", "k", "box"]
def p_touching_Leaves_number_at : Fn := { np := 3, ns := 5, io := [0, 1, 2], body :=
  (.cons (.for_ [3] .rng (.cons (.bin .add (.att (.var 0) 20) (.cst (.int 1))) .nil)
  (.cons (.set 4 (.tup (.cons (.bin .shl (.bin .shr (.var 1) (.var 3)) (.var 3)) (.cons (.bin .shl (.bin .shr (.var 2) (.var 3)) (.var 3)) (.cons (.bin .shl (.cst (.int 1)) (.var 3)) .nil)))))
  (.cons (.ite (.cmp .in_ (.var 4) (.att (.var 0) 18))
  (.cons (.ret (.bin .ix (.att (.var 0) 18) (.var 4)))
  .nil)
  .nil)
  .nil)))
  (.cons (.ret (.cst .non))
  .nil)) }

/-- 188 -/
def p_touching_Leaves_on_right_N : List Str := ["self", "k", "row", "column", "side", "found", "here", "other"]
def p_touching_Leaves_on_right : Fn := { np := 2, ns := 8, io := [0, 1], body :=
  (.cons (.unp [2, 3, 4] (.bin .ix (.att (.var 0) 23) (.var 1)))
  (.cons (.set 5 (.lst .nil))
  (.cons (.set 6 (.var 2))
  (.cons (.while_ (.and_ (.meth 12 186 (.var 0) (.cons (.var 2) (.cons (.bin .add (.var 3) (.var 4)) .nil))) (.cmp .lt (.var 6) (.bin .add (.var 2) (.var 4))))
  (.cons (.set 7 (.meth 12 187 (.var 0) (.cons (.var 6) (.cons (.bin .add (.var 3) (.var 4)) .nil))))
  (.cons (.exp (.mut .append (.var 5) (.cons (.var 7) .nil)))
  (.cons (.set 6 (.bin .add (.bin .ix (.bin .ix (.att (.var 0) 23) (.var 7)) (.cst (.int 0))) (.bin .ix (.bin .ix (.att (.var 0) 23) (.var 7)) (.cst (.int 2)))))
  .nil))))
  (.cons (.ret (.var 5))
  .nil))))) }

/-- 189 -/
def p_touching_Leaves_below_N : List Str := ["self", "k", "row", "column", "side", "found", "here", "other"]
def p_touching_Leaves_below : Fn := { np := 2, ns := 8, io := [0, 1], body :=
  (.cons (.unp [2, 3, 4] (.bin .ix (.att (.var 0) 23) (.var 1)))
  (.cons (.set 5 (.lst .nil))
  (.cons (.set 6 (.var 3))
  (.cons (.while_ (.and_ (.meth 12 186 (.var 0) (.cons (.bin .add (.var 2) (.var 4)) (.cons (.var 3) .nil))) (.cmp .lt (.var 6) (.bin .add (.var 3) (.var 4))))
  (.cons (.set 7 (.meth 12 187 (.var 0) (.cons (.bin .add (.var 2) (.var 4)) (.cons (.var 6) .nil))))
  (.cons (.exp (.mut .append (.var 5) (.cons (.var 7) .nil)))
  (.cons (.set 6 (.bin .add (.bin .ix (.bin .ix (.att (.var 0) 23) (.var 7)) (.cst (.int 1))) (.bin .ix (.bin .ix (.att (.var 0) 23) (.var 7)) (.cst (.int 2)))))
  .nil))))
  (.cons (.ret (.var 5))
  .nil))))) }

/-- 190 -/
def p_touching_Leaves_at_corners_N : List Str := ["self", "k", "row", "column", "side", "some", "one", "other"]
def p_touching_Leaves_at_corners : Fn := { np := 2, ns := 8, io := [0, 1], body :=
  (.cons (.unp [2, 3, 4] (.bin .ix (.att (.var 0) 23) (.var 1)))
  (.cons (.set 5 (.lst (.cons (.tup (.cons (.bin .add (.var 2) (.var 4)) (.cons (.bin .sub (.var 3) (.cst (.int 1))) .nil))) (.cons (.tup (.cons (.bin .add (.var 2) (.var 4)) (.cons (.bin .add (.var 3) (.var 4)) .nil))) .nil))))
  (.cons (.ret (.comp [6, 7] .seq (.cons (.var 5) .nil) [6, 7] (.meth 12 186 (.var 0) (.cons (.var 6) (.cons (.var 7) .nil))) (.meth 12 187 (.var 0) (.cons (.var 6) (.cons (.var 7) .nil)))))
  .nil))) }

/-- 191 -/
def p_touching_Leaves_links_N : List Str := ["self", "truth", "by", "found", "box", "k", "own", "some", "other"]
def p_touching_Leaves_links : Fn := { np := 3, ns := 9, io := [0, 1, 2], body :=
  (.cons (.set 3 (.comp [4] .seq (.cons (.att (.var 0) 23) .nil) [4] (.cst (.bl true)) (.lst .nil)))
  (.cons (.for_ [5, 6] .enum (.cons (.att (.var 0) 22) .nil)
  (.cons (.ite (.cmp .eq (.var 6) (.var 1))
  (.cons (.set 7 (.bin .add (.meth 12 188 (.var 0) (.cons (.var 5) .nil)) (.meth 12 189 (.var 0) (.cons (.var 5) .nil))))
  (.cons (.ite (.cmp .eq (.var 2) (.glb 31))
  (.cons (.set 7 (.bin .add (.var 7) (.meth 12 190 (.var 0) (.cons (.var 5) .nil))))
  .nil)
  .nil)
  (.cons (.for_ [8] .seq (.cons (.var 7) .nil)
  (.cons (.ite (.cmp .eq (.bin .ix (.att (.var 0) 22) (.var 8)) (.var 1))
  (.cons (.exp (.mut .append (.bin .ix (.var 3) (.var 5)) (.cons (.var 8) .nil)))
  (.cons (.exp (.mut .append (.bin .ix (.var 3) (.var 8)) (.cons (.var 5) .nil)))
  .nil))
  .nil)
  .nil))
  .nil)))
  .nil)
  .nil))
  (.cons (.ret (.var 3))
  .nil))) }

/-- 192 -/
def p_touching_Leaves_groups_N : List Str := ["self", "truth", "by"]
def p_touching_Leaves_groups : Fn := { np := 3, ns := 3, io := [0, 1, 2], body :=
  (.cons (.exp (.call 500 (.cons (.cst (.int 0)) .nil)))
  .nil) }

/-- 193 -/
def p_touching_Leaves_first_cell_N : List Str := ["self", "group", "k"]
def p_touching_Leaves_first_cell : Fn := { np := 2, ns := 3, io := [0, 1], body :=
  (.cons (.ret (.bi .min (.cons (.comp [2] .seq (.cons (.var 1) .nil) [2] (.cst (.bl true)) (.slc (.bin .ix (.att (.var 0) 23) (.var 2)) .nop (.cst (.int 2)))) .nil)))
  .nil) }

/-- 194 -/
def p_touching_Leaves_is_at_edge_N : List Str := ["self", "group"]
def p_touching_Leaves_is_at_edge : Fn := { np := 2, ns := 2, io := [0, 1], body :=
  (.cons (.exp (.call 500 (.cons (.cst (.int 0)) .nil)))
  .nil) }

/-- 195 -/
def p_touching_Leaves_parts_N : List Str := ["self", "by"]
def p_touching_Leaves_parts : Fn := { np := 2, ns := 2, io := [0, 1], body :=
  (.cons (.ret (.meth 12 192 (.var 0) (.cons (.cst (.bl true)) (.cons (.var 1) .nil))))
  .nil) }

/-- 196 -/
def p_touching_Leaves_holes_N : List Str := ["self", "by"]
def p_touching_Leaves_holes : Fn := { np := 2, ns := 2, io := [0, 1], body :=
  (.cons (.exp (.call 500 (.cons (.cst (.int 1)) .nil)))
  .nil) }

/-- 197 -/
def p_touching_Leaves_shape_of_N : List Str := ["self", "group"]
def p_touching_Leaves_shape_of : Fn := { np := 2, ns := 2, io := [0, 1], body :=
  (.cons (.exp (.call 500 (.cons (.cst (.int 0)) .nil)))
  .nil) }

/-- 198 -/
def p_touching_reached_N : List Str := ["links", "first", "seen", "found", "waiting", "here", "other"]
def p_touching_reached : Fn := { np := 3, ns := 7, io := [0, 1, 2], body :=
  (.cons (.set 3 (.lst .nil))
  (.cons (.set 4 (.lst (.cons (.var 1) .nil)))
  (.cons (.sts (.var 2) (.var 1) (.cst (.bl true)))
  (.cons (.while_ (.cmp .ne (.var 4) (.lst .nil))
  (.cons (.set 5 (.mut .pop (.var 4) .nil))
  (.cons (.exp (.mut .append (.var 3) (.cons (.var 5) .nil)))
  (.cons (.for_ [6] .seq (.cons (.bin .ix (.var 0) (.var 5)) .nil)
  (.cons (.ite (.cmp .nin (.var 6) (.var 2))
  (.cons (.sts (.var 2) (.var 6) (.cst (.bl true)))
  (.cons (.exp (.mut .append (.var 4) (.cons (.var 6) .nil)))
  .nil))
  .nil)
  .nil))
  .nil))))
  (.cons (.ret (.var 3))
  .nil))))) }

/-- 199 -/
def p_turns_want_turn_N : List Str := ["thing"]
def p_turns_want_turn : Fn := { np := 1, ns := 1, io := [0], body :=
  (.cons (.ite (.or_ (.not_ (.call 55 (.cons (.var 0) .nil))) (.or_ (.cmp .lt (.var 0) (.cst (.int 0))) (.cmp .gt (.var 0) (.glb 29))))
  (.cons (.rais 11)
  .nil)
  .nil)
  .nil) }

/-- 200 -/
def p_turns_comes_to_N : List Str := ["turn", "place", "down", "right", "quarter_turn"]
def p_turns_comes_to : Fn := { np := 2, ns := 5, io := [0, 1], body :=
  (.cons (.par 2 3 (.bin .fdiv (.var 1) (.cst (.int 2))) (.bin .mod (.var 1) (.cst (.int 2))))
  (.cons (.ite (.cmp .gt (.var 0) (.cst (.int 3)))
  (.cons (.set 3 (.bin .sub (.cst (.int 1)) (.var 3)))
  .nil)
  .nil)
  (.cons (.for_ [4] .rng (.cons (.bin .mod (.var 0) (.cst (.int 4))) .nil)
  (.cons (.par 2 3 (.var 3) (.bin .sub (.cst (.int 1)) (.var 2)))
  .nil))
  (.cons (.ret (.bin .add (.bin .mul (.cst (.int 2)) (.var 2)) (.var 3)))
  .nil)))) }

/-- 201 -/
def p_turns_turned_N : List Str := ["shape", "turn", "n", "top", "old", "rows", "here", "row", "quarters", "place", "number"]
def p_turns_turned : Fn := { np := 2, ns := 11, io := [0, 1], body :=
  (.cons (.exp (.call 181 (.cons (.var 0) .nil)))
  (.cons (.exp (.call 199 (.cons (.var 1) .nil)))
  (.cons (.unp [2, 3, 4] (.var 0))
  (.cons (.set 5 (.new 10 150 .nil))
  (.cons (.set 6 (.lst (.cons (.cst (.int 0)) (.cons (.cst (.int 1)) .nil))))
  (.cons (.for_ [7] .seq (.cons (.var 4) .nil)
  (.cons (.set 8 (.lst (.cons (.cst (.int 0)) (.cons (.cst (.int 0)) (.cons (.cst (.int 0)) (.cons (.cst (.int 0)) .nil))))))
  (.cons (.for_ [9, 10] .enum (.cons (.var 7) .nil)
  (.cons (.sts (.var 8) (.call 200 (.cons (.var 1) (.cons (.var 9) .nil))) (.bin .ix (.var 6) (.var 10)))
  .nil))
  (.cons (.exp (.mut .append (.var 6) (.cons (.meth 10 151 (.var 5) (.cons (.bi .tuple (.cons (.var 8) .nil)) .nil)) .nil)))
  .nil))))
  (.cons (.ret (.meth 10 155 (.var 5) (.cons (.var 2) (.cons (.bin .ix (.var 6) (.var 3)) .nil))))
  .nil))))))) }

/-- 202 -/
def p_turns_turn_behind_N : List Str := ["turn", "other", "quarter_turns"]
def p_turns_turn_behind : Fn := { np := 2, ns := 3, io := [0, 1], body :=
  (.cons (.exp (.call 199 (.cons (.var 0) .nil)))
  (.cons (.exp (.call 199 (.cons (.var 1) .nil)))
  (.cons (.set 2 (.bin .mod (.var 0) (.cst (.int 4))))
  (.cons (.ite (.cmp .gt (.var 1) (.cst (.int 3)))
  (.cons (.set 2 (.un .neg (.var 2)))
  .nil)
  .nil)
  (.cons (.ret (.bin .add (.bin .mul (.cst (.int 4)) (.bi .int (.cons (.cmp .ne (.cmp .gt (.var 0) (.cst (.int 3))) (.cmp .gt (.var 1) (.cst (.int 3)))) .nil))) (.bin .mod (.bin .add (.var 1) (.var 2)) (.cst (.int 4)))))
  .nil))))) }

/-- 203 -/
def p_turns_turn_back_N : List Str := ["turn"]
def p_turns_turn_back : Fn := { np := 1, ns := 1, io := [0], body :=
  (.cons (.exp (.call 199 (.cons (.var 0) .nil)))
  (.cons (.ite (.cmp .gt (.var 0) (.cst (.int 3)))
  (.cons (.ret (.var 0))
  .nil)
  .nil)
  (.cons (.ret (.bin .mod (.un .neg (.var 0)) (.cst (.int 4))))
  .nil))) }

/-- 204 -/
def p_ways_want_way_N : List Str := ["by"]
def p_ways_want_way : Fn := { np := 1, ns := 1, io := [0], body :=
  (.cons (.ite (.or_ (.not_ (.isi (.var 0) [.str])) (.cmp .nin (.var 0) (.tup (.cons (.glb 30) (.cons (.glb 31) .nil)))))
  (.cons (.rais 15)
  .nil)
  .nil)
  .nil) }

def pFlds : List (Nat × List Nat) := [(0, [0, 1, 2, 3]), (1, [4, 5]), (2, [0, 6, 7, 8, 9]), (3, [10, 11, 12]), (4, [13, 14]), (5, [11, 12]), (6, [0, 12]), (7, [0, 15, 16, 12]), (8, [17]), (9, [8]), (10, [0, 18]), (11, [0, 19, 12]), (12, [20, 21, 22, 23, 18])]
def pFldn : List (Nat × Str) := [(0, "rows"), (1, "colour"), (2, "known_runs"), (3, "known_sums"), (4, "now"), (5, "past"), (6, "leaves"), (7, "sums"), (8, "ends"), (9, "parted"), (10, "answers"), (11, "kept"), (12, "known"), (13, "size"), (14, "looks"), (15, "down"), (16, "right"), (17, "changes"), (18, "numbers"), (19, "wanted"), (20, "n"), (21, "addresses"), (22, "truths"), (23, "boxes")]
end Q
end
section
set_option linter.all false
set_option maxRecDepth 100000
set_option maxHeartbeats 0
namespace Q.Pot
open PySem
/-! core texts that many laws share (printed by gen.py) -/
/-- 500 -/
def l_law_pot_N : List Str := ["_law_script", "_law_k", "_law_cell"]
def l_law_pot : Fn := { np := 2, ns := 3, io := [0, 1], body :=
  (.cons (.set 2 (.cst (.int 0)))
  (.cons (.ite (.cmp .lt (.var 1) (.bi .len (.cons (.var 0) .nil)))
  (.cons (.set 2 (.bin .ix (.var 0) (.var 1)))
  .nil)
  .nil)
  (.cons (.ret (.lst (.cons (.bi .max (.cons (.cst (.int 0)) (.cons (.bin .sub (.bi .abs (.cons (.var 2) .nil)) (.bin .pow (.cst (.int 10)) (.cst (.int 18)))) .nil))) (.cons (.bin .add (.bin .add (.bin .mod (.bi .abs (.cons (.var 2) .nil)) (.cst (.int 2147483629))) (.bin .mul (.cst (.int 97)) (.var 1))) (.cst (.int 1))) .nil))))
  .nil))) }

/-- 501 -/
def l_law_digit_N : List Str := ["_law_pot_here", "_law_many", "_law_digit_here"]
def l_law_digit : Fn := { np := 2, ns := 3, io := [0, 1], body :=
  (.cons (.ite (.cmp .gt (.bin .ix (.var 0) (.cst (.int 0))) (.cst (.int 0)))
  (.cons (.set 2 (.bin .mod (.bin .ix (.var 0) (.cst (.int 0))) (.var 1)))
  (.cons (.sts (.var 0) (.cst (.int 0)) (.bin .fdiv (.bin .ix (.var 0) (.cst (.int 0))) (.var 1)))
  (.cons (.ret (.var 2))
  .nil)))
  .nil)
  (.cons (.sts (.var 0) (.cst (.int 1)) (.bin .mod (.bin .add (.bin .mul (.bin .ix (.var 0) (.cst (.int 1))) (.cst (.int 48271))) (.cst (.int 8191))) (.cst (.int 2147483629))))
  (.cons (.ret (.bin .mod (.bin .fdiv (.bin .ix (.var 0) (.cst (.int 1))) (.cst (.int 16))) (.var 1)))
  .nil))) }

/-- 502 -/
def l_law_cells_N : List Str := ["_law_pot_here", "_law_n", "_law_side", "_law_k"]
def l_law_cells : Fn := { np := 2, ns := 4, io := [0, 1], body :=
  (.cons (.set 2 (.bin .shl (.cst (.int 1)) (.var 1)))
  (.cons (.ret (.comp [3] .rng (.cons (.bin .mul (.var 2) (.var 2)) .nil) [3] (.cmp .eq (.call 501 (.cons (.var 0) (.cons (.cst (.int 2)) .nil))) (.cst (.int 1))) (.tup (.cons (.bin .fdiv (.var 3) (.var 2)) (.cons (.bin .mod (.var 3) (.var 2)) (.cons (.cst (.int 1)) (.cons (.cst (.int 1)) .nil)))))))
  .nil)) }

/-- 503 -/
def l_law_box_N : List Str := ["_law_pot_here", "_law_n", "_law_most", "_law_side", "_law_size", "_law_row", "_law_column", "_law_high", "_law_wide"]
def l_law_box : Fn := { np := 3, ns := 9, io := [0, 1, 2], body :=
  (.cons (.set 3 (.bin .shl (.cst (.int 1)) (.var 1)))
  (.cons (.ite (.cmp .eq (.call 501 (.cons (.var 0) (.cons (.cst (.int 2)) .nil))) (.cst (.int 0)))
  (.cons (.set 4 (.call 501 (.cons (.var 0) (.cons (.bin .add (.var 1) (.cst (.int 1))) .nil))))
  (.cons (.set 5 (.bin .mul (.call 501 (.cons (.var 0) (.cons (.bin .shl (.cst (.int 1)) (.bin .sub (.var 1) (.var 4))) .nil))) (.bin .shl (.cst (.int 1)) (.var 4))))
  (.cons (.set 6 (.bin .mul (.call 501 (.cons (.var 0) (.cons (.bin .shl (.cst (.int 1)) (.bin .sub (.var 1) (.var 4))) .nil))) (.bin .shl (.cst (.int 1)) (.var 4))))
  (.cons (.ret (.tup (.cons (.var 5) (.cons (.var 6) (.cons (.bin .shl (.cst (.int 1)) (.var 4)) (.cons (.bin .shl (.cst (.int 1)) (.var 4)) .nil))))))
  .nil))))
  .nil)
  (.cons (.set 5 (.call 501 (.cons (.var 0) (.cons (.var 3) .nil))))
  (.cons (.set 6 (.call 501 (.cons (.var 0) (.cons (.var 3) .nil))))
  (.cons (.set 7 (.bin .add (.cst (.int 1)) (.call 501 (.cons (.var 0) (.cons (.bi .min (.cons (.var 2) (.cons (.bin .sub (.var 3) (.var 5)) .nil))) .nil)))))
  (.cons (.set 8 (.bin .add (.cst (.int 1)) (.call 501 (.cons (.var 0) (.cons (.bi .min (.cons (.var 2) (.cons (.bin .sub (.var 3) (.var 6)) .nil))) .nil)))))
  (.cons (.ret (.tup (.cons (.var 5) (.cons (.var 6) (.cons (.var 7) (.cons (.var 8) .nil))))))
  .nil))))))) }

/-- 504 -/
def l_law_boxes_N : List Str := ["_law_pot_here", "_law_n", "_law_k"]
def l_law_boxes : Fn := { np := 2, ns := 3, io := [0, 1], body :=
  (.cons (.ite (.and_ (.cmp .lt (.var 1) (.cst (.int 4))) (.cmp .eq (.call 501 (.cons (.var 0) (.cons (.cst (.int 2)) .nil))) (.cst (.int 0))))
  (.cons (.ret (.call 502 (.cons (.var 0) (.cons (.var 1) .nil))))
  .nil)
  .nil)
  (.cons (.ret (.comp [2] .rng (.cons (.call 501 (.cons (.var 0) (.cons (.cst (.int 6)) .nil))) .nil) [2] (.cst (.bl true)) (.call 503 (.cons (.var 0) (.cons (.var 1) (.cons (.cst (.int 9)) .nil))))))
  .nil)) }

/-- 505 -/
def l_law_meets_N : List Str := ["_law_box_here", "_law_row", "_law_column", "_law_side"]
def l_law_meets : Fn := { np := 4, ns := 4, io := [0, 1, 2, 3], body :=
  (.cons (.ite (.or_ (.cmp .le (.bin .add (.var 1) (.var 3)) (.bin .ix (.var 0) (.cst (.int 0)))) (.cmp .le (.bin .add (.bin .ix (.var 0) (.cst (.int 0))) (.bin .ix (.var 0) (.cst (.int 2)))) (.var 1)))
  (.cons (.ret (.cst (.bl false)))
  .nil)
  .nil)
  (.cons (.ret (.and_ (.cmp .lt (.var 2) (.bin .add (.bin .ix (.var 0) (.cst (.int 1))) (.bin .ix (.var 0) (.cst (.int 3))))) (.cmp .lt (.bin .ix (.var 0) (.cst (.int 1))) (.bin .add (.var 2) (.var 3)))))
  .nil)) }

/-- 506 -/
def l_law_has_N : List Str := ["_law_box_here", "_law_row", "_law_column", "_law_side"]
def l_law_has : Fn := { np := 4, ns := 4, io := [0, 1, 2, 3], body :=
  (.cons (.ite (.or_ (.cmp .lt (.var 1) (.bin .ix (.var 0) (.cst (.int 0)))) (.cmp .lt (.bin .add (.bin .ix (.var 0) (.cst (.int 0))) (.bin .ix (.var 0) (.cst (.int 2)))) (.bin .add (.var 1) (.var 3))))
  (.cons (.ret (.cst (.bl false)))
  .nil)
  .nil)
  (.cons (.ret (.and_ (.cmp .le (.bin .ix (.var 0) (.cst (.int 1))) (.var 2)) (.cmp .le (.bin .add (.var 2) (.var 3)) (.bin .add (.bin .ix (.var 0) (.cst (.int 1))) (.bin .ix (.var 0) (.cst (.int 3)))))))
  .nil)) }

/-- 507 -/
def l_law_number_N : List Str := ["_law_rows", "_law_boxes_here", "_law_row", "_law_column", "_law_side", "_law_met", "_law_box_here", "_law_half", "_law_quarters", "_law_k"]
def l_law_number : Fn := { np := 5, ns := 10, io := [0, 1, 2, 3, 4], body :=
  (.cons (.set 5 (.comp [6] .seq (.cons (.var 1) .nil) [6] (.call 505 (.cons (.var 6) (.cons (.var 2) (.cons (.var 3) (.cons (.var 4) .nil))))) (.var 6)))
  (.cons (.ite (.or_ (.cmp .eq (.var 5) (.lst .nil)) (.bi .any (.cons (.comp [6] .seq (.cons (.var 5) .nil) [6] (.cst (.bl true)) (.call 506 (.cons (.var 6) (.cons (.var 2) (.cons (.var 3) (.cons (.var 4) .nil)))))) .nil)))
  (.cons (.ret (.bi .int (.cons (.cmp .ne (.var 5) (.lst .nil)) .nil)))
  .nil)
  .nil)
  (.cons (.set 7 (.bin .fdiv (.var 4) (.cst (.int 2))))
  (.cons (.set 8 (.comp [9] .rng (.cons (.cst (.int 4)) .nil) [9] (.cst (.bl true)) (.call 507 (.cons (.var 0) (.cons (.var 5) (.cons (.bin .add (.var 2) (.bin .mul (.var 7) (.bin .fdiv (.var 9) (.cst (.int 2))))) (.cons (.bin .add (.var 3) (.bin .mul (.var 7) (.bin .mod (.var 9) (.cst (.int 2))))) (.cons (.var 7) .nil))))))))
  (.cons (.ite (.inc (.var 8) [[0, 0, 0, 0], [1, 1, 1, 1]])
  (.cons (.ret (.bin .ix (.var 8) (.cst (.int 0))))
  .nil)
  .nil)
  (.cons (.ite (.cmp .nin (.bi .tuple (.cons (.var 8) .nil)) (.var 0))
  (.cons (.sts (.var 0) (.bi .tuple (.cons (.var 8) .nil)) (.bin .add (.bi .len (.cons (.var 0) .nil)) (.cst (.int 2))))
  .nil)
  .nil)
  (.cons (.ret (.bin .ix (.var 0) (.bi .tuple (.cons (.var 8) .nil))))
  .nil))))))) }

/-- 508 -/
def l_law_shape_N : List Str := ["_law_n", "_law_boxes_here", "_law_rows", "_law_top"]
def l_law_shape : Fn := { np := 2, ns := 4, io := [0, 1], body :=
  (.cons (.set 2 .dt0)
  (.cons (.set 3 (.call 507 (.cons (.var 2) (.cons (.var 1) (.cons (.cst (.int 0)) (.cons (.cst (.int 0)) (.cons (.bin .shl (.cst (.int 1)) (.var 0)) .nil)))))))
  (.cons (.ret (.tup (.cons (.var 0) (.cons (.var 3) (.cons (.bi .tuple (.cons (.var 2) .nil)) .nil)))))
  .nil))) }

end Q.Pot
end
section
set_option Elab.async false
set_option linter.all false
set_option maxRecDepth 100000
set_option maxHeartbeats 0
namespace Q
open PySem L2
/-! law_k14: core texts, tables (printed by gen.py) -/
/-- 509 -/
def l_law_figures_N : List Str := ["_law_number_here", "_law_found", "_law_left"]
def l_law_figures : Fn := { np := 1, ns := 3, io := [0], body :=
  (.cons (.set 1 (.cst (.str "")))
  (.cons (.set 2 (.var 0))
  (.cons (.while_ (.cmp .gt (.var 2) (.cst (.int 9)))
  (.cons (.set 1 (.bin .add (.bin .ix (.cst (.str "0123456789")) (.bin .mod (.var 2) (.cst (.int 10)))) (.var 1)))
  (.cons (.set 2 (.bin .fdiv (.var 2) (.cst (.int 10))))
  .nil)))
  (.cons (.ret (.bin .add (.bin .ix (.cst (.str "0123456789")) (.var 2)) (.var 1)))
  .nil)))) }

/-- 510 -/
def l_law_line_N : List Str := ["_law_numbers", "_law_found", "_law_number_here"]
def l_law_line : Fn := { np := 1, ns := 3, io := [0], body :=
  (.cons (.set 1 (.cst (.str "")))
  (.cons (.for_ [2] .seq (.cons (.var 0) .nil)
  (.cons (.set 1 (.bin .add (.bin .add (.var 1) (.bin .mul (.cst (.str " ")) (.bi .int (.cons (.cmp .ne (.var 1) (.cst (.str ""))) .nil)))) (.call 509 (.cons (.var 2) .nil))))
  .nil))
  (.cons (.ret (.bin .add (.var 1) (.cst (.str "\n"))))
  .nil))) }

/-- 511 -/
def llaw_N : List Str := ["_law_script", "_law_k", "_law_pot_here", "_law_n", "_law_shape_here", "_law_text", "_law_row"]
def llaw : Fn := { np := 1, ns := 7, io := [0], body :=
  (.cons (.for_ [1] .rng (.cons (.bi .max (.cons (.cst (.int 1)) (.cons (.bi .min (.cons (.cst (.int 8)) (.cons (.bi .len (.cons (.var 0) .nil)) .nil))) .nil))) .nil)
  (.cons (.set 2 (.call 500 (.cons (.var 0) (.cons (.var 1) .nil))))
  (.cons (.set 3 (.call 501 (.cons (.var 2) (.cons (.cst (.int 13)) .nil))))
  (.cons (.ite (.cmp .eq (.call 501 (.cons (.var 2) (.cons (.cst (.int 2)) .nil))) (.cst (.int 0)))
  (.cons (.set 3 (.bin .mod (.var 3) (.cst (.int 4))))
  .nil)
  .nil)
  (.cons (.set 4 (.call 508 (.cons (.var 3) (.cons (.call 504 (.cons (.var 2) (.cons (.var 3) .nil))) .nil))))
  (.cons (.set 5 (.bin .add (.call 510 (.cons (.slc (.var 4) .nop (.cst (.int 2))) .nil)) (.bm .join (.cst (.str "")) (.cons (.comp [6] .seq (.cons (.bin .ix (.var 4) (.cst (.int 2))) .nil) [6] (.cst (.bl true)) (.call 510 (.cons (.var 6) .nil))) .nil))))
  (.cons (.ite (.or_ (.cmp .ne (.call 162 (.cons (.var 4) .nil)) (.var 5)) (.not_ (.isi (.call 162 (.cons (.var 4) .nil)) [.str])))
  (.cons (.ret (.cst (.bl false)))
  .nil)
  .nil)
  (.cons (.ite (.or_ (.cmp .ne (.bi .repr (.cons (.call 165 (.cons (.var 5) .nil)) .nil)) (.bi .repr (.cons (.var 4) .nil))) (.cmp .ne (.bi .repr (.cons (.call 165 (.cons (.var 5) .nil)) .nil)) (.bi .repr (.cons (.var 4) .nil))))
  (.cons (.ret (.cst (.bl false)))
  .nil)
  .nil)
  .nil))))))))
  (.cons (.ret (.cst (.bl true)))
  .nil)) }

abbrev tops (i : Nat) : Stmt := PySem.Challenge.pw_quarterfold_k14_whole_texts_of_shapes.main.body.getD i (.Pass ⟨0, 0, 0, 0⟩)
def p_floors_is_whole_I : DefI := ⟨55, .fn, "is_whole", ("is_whole", none), "is_whole", "is_whole", (tops 6), p_floors_is_whole_N, ["thing"], p_floors_is_whole⟩
def p_floors_is_size_I : DefI := ⟨56, .fn, "is_size", ("is_size", none), "is_size", "is_size", (tops 7), p_floors_is_size_N, ["thing"], p_floors_is_size⟩
def p_rows_Rows___init___I : DefI := ⟨150, .mk 10, "__init__", ("Rows", some "__init__"), "__init__", "Rows.__init__", (inClass (tops 9) 0), p_rows_Rows___init___N, ["self"], p_rows_Rows___init__⟩
def p_rows_Rows_number_I : DefI := ⟨151, .me 10, "number", ("Rows", some "number"), "number", "Rows.number", (inClass (tops 9) 1), p_rows_Rows_number_N, ["self", "quarters"], p_rows_Rows_number⟩
def p_rows_Rows_quarters_I : DefI := ⟨152, .me 10, "quarters", ("Rows", some "quarters"), "quarters", "Rows.quarters", (inClass (tops 9) 2), p_rows_Rows_quarters_N, ["self", "number"], p_rows_Rows_quarters⟩
def p_rows_Rows_take_I : DefI := ⟨153, .me 10, "take", ("Rows", some "take"), "take", "Rows.take", (inClass (tops 9) 3), p_rows_Rows_take_N, ["self", "telling"], p_rows_Rows_take⟩
def p_rows_Rows_order_I : DefI := ⟨154, .me 10, "order", ("Rows", some "order"), "order", "Rows.order", (inClass (tops 9) 4), p_rows_Rows_order_N, ["self", "number", "found"], p_rows_Rows_order⟩
def p_rows_Rows_shape_I : DefI := ⟨155, .me 10, "shape", ("Rows", some "shape"), "shape", "Rows.shape", (inClass (tops 9) 5), p_rows_Rows_shape_N, ["self", "n", "top"], p_rows_Rows_shape⟩
def p_rows_one_of_I : DefI := ⟨156, .fn, "one_of", ("one_of", none), "one_of", "one_of", (tops 10), p_rows_one_of_N, ["telling"], p_rows_one_of⟩
def p_tellings_is_number_I : DefI := ⟨176, .fn, "is_number", ("is_number", none), "is_number", "is_number", (tops 12), p_tellings_is_number_N, ["thing", "most"], p_tellings_is_number⟩
def p_tellings_is_row_I : DefI := ⟨177, .fn, "is_row", ("is_row", none), "is_row", "is_row", (tops 13), p_tellings_is_row_N, ["thing", "place"], p_tellings_is_row⟩
def p_tellings_depths_of_I : DefI := ⟨178, .fn, "depths_of", ("depths_of", none), "depths_of", "depths_of", (tops 14), p_tellings_depths_of_N, ["rows"], p_tellings_depths_of⟩
def p_tellings_is_telling_I : DefI := ⟨179, .fn, "is_telling", ("is_telling", none), "is_telling", "is_telling", (tops 15), p_tellings_is_telling_N, ["thing"], p_tellings_is_telling⟩
def p_tellings_is_shape_I : DefI := ⟨180, .fn, "is_shape", ("is_shape", none), "is_shape", "is_shape", (tops 16), p_tellings_is_shape_N, ["thing"], p_tellings_is_shape⟩
def p_tellings_want_shape_I : DefI := ⟨181, .fn, "want_shape", ("want_shape", none), "want_shape", "want_shape", (tops 17), p_tellings_want_shape_N, ["thing"], p_tellings_want_shape⟩
def p_shapetexts_line_of_I : DefI := ⟨161, .fn, "line_of", ("line_of", none), "line_of", "line_of", (tops 21), p_shapetexts_line_of_N, ["numbers"], p_shapetexts_line_of⟩
def p_shapetexts_shape_text_I : DefI := ⟨162, .fn, "shape_text", ("shape_text", none), "shape_text", "shape_text", (tops 22), p_shapetexts_shape_text_N, ["shape"], p_shapetexts_shape_text⟩
def p_shapetexts_number_in_I : DefI := ⟨163, .fn, "number_in", ("number_in", none), "number_in", "number_in", (tops 23), p_shapetexts_number_in_N, ["word"], p_shapetexts_number_in⟩
def p_shapetexts_numbers_in_I : DefI := ⟨164, .fn, "numbers_in", ("numbers_in", none), "numbers_in", "numbers_in", (tops 24), p_shapetexts_numbers_in_N, ["line"], p_shapetexts_numbers_in⟩
def p_shapetexts_read_shape_I : DefI := ⟨165, .fn, "read_shape", ("read_shape", none), "read_shape", "read_shape", (tops 25), p_shapetexts_read_shape_N, ["text"], p_shapetexts_read_shape⟩
def l_law_pot_I : DefI := ⟨500, .fn, "_law_pot", ("_law_pot", none), "_law_pot", "_law_pot", (tops 27), Pot.l_law_pot_N, ["_law_script", "_law_k"], Pot.l_law_pot⟩
def l_law_digit_I : DefI := ⟨501, .fn, "_law_digit", ("_law_digit", none), "_law_digit", "_law_digit", (tops 28), Pot.l_law_digit_N, ["_law_pot_here", "_law_many"], Pot.l_law_digit⟩
def l_law_cells_I : DefI := ⟨502, .fn, "_law_cells", ("_law_cells", none), "_law_cells", "_law_cells", (tops 29), Pot.l_law_cells_N, ["_law_pot_here", "_law_n"], Pot.l_law_cells⟩
def l_law_box_I : DefI := ⟨503, .fn, "_law_box", ("_law_box", none), "_law_box", "_law_box", (tops 30), Pot.l_law_box_N, ["_law_pot_here", "_law_n", "_law_most"], Pot.l_law_box⟩
def l_law_boxes_I : DefI := ⟨504, .fn, "_law_boxes", ("_law_boxes", none), "_law_boxes", "_law_boxes", (tops 31), Pot.l_law_boxes_N, ["_law_pot_here", "_law_n"], Pot.l_law_boxes⟩
def l_law_meets_I : DefI := ⟨505, .fn, "_law_meets", ("_law_meets", none), "_law_meets", "_law_meets", (tops 32), Pot.l_law_meets_N, ["_law_box_here", "_law_row", "_law_column", "_law_side"], Pot.l_law_meets⟩
def l_law_has_I : DefI := ⟨506, .fn, "_law_has", ("_law_has", none), "_law_has", "_law_has", (tops 33), Pot.l_law_has_N, ["_law_box_here", "_law_row", "_law_column", "_law_side"], Pot.l_law_has⟩
def l_law_number_I : DefI := ⟨507, .fn, "_law_number", ("_law_number", none), "_law_number", "_law_number", (tops 34), Pot.l_law_number_N, ["_law_rows", "_law_boxes_here", "_law_row", "_law_column", "_law_side"], Pot.l_law_number⟩
def l_law_shape_I : DefI := ⟨508, .fn, "_law_shape", ("_law_shape", none), "_law_shape", "_law_shape", (tops 35), Pot.l_law_shape_N, ["_law_n", "_law_boxes_here"], Pot.l_law_shape⟩
def l_law_figures_I : DefI := ⟨509, .fn, "_law_figures", ("_law_figures", none), "_law_figures", "_law_figures", (tops 36), l_law_figures_N, ["_law_number_here"], l_law_figures⟩
def l_law_line_I : DefI := ⟨510, .fn, "_law_line", ("_law_line", none), "_law_line", "_law_line", (tops 37), l_law_line_N, ["_law_numbers"], l_law_line⟩
def llaw_I : DefI := ⟨511, .fn, "law", ("law", none), "law", "law", (tops 38), llaw_N, ["_law_script"], llaw⟩
def defsL : List DefI := [p_floors_is_whole_I, p_floors_is_size_I, p_rows_Rows___init___I, p_rows_Rows_number_I, p_rows_Rows_quarters_I, p_rows_Rows_take_I, p_rows_Rows_order_I, p_rows_Rows_shape_I, p_rows_one_of_I, p_tellings_is_number_I, p_tellings_is_row_I, p_tellings_depths_of_I, p_tellings_is_telling_I, p_tellings_is_shape_I, p_tellings_want_shape_I, p_shapetexts_line_of_I, p_shapetexts_shape_text_I, p_shapetexts_number_in_I, p_shapetexts_numbers_in_I, p_shapetexts_read_shape_I, l_law_pot_I, l_law_digit_I, l_law_cells_I, l_law_box_I, l_law_boxes_I, l_law_meets_I, l_law_has_I, l_law_number_I, l_law_shape_I, l_law_figures_I, l_law_line_I, llaw_I]
def tabL : Tab where
  defs := defsL
  cls := [(10, "Rows")]
  flds := pFlds
  fldn := pFldn
  gl := [(9, "MOST_SIZE", .int 12), (26, "FIGURES", .str "0123456789"), (27, "MOST_FIGURES", .int 8)]
  exc := [(0, "FloorError"), (4, "NoShape"), (6, "NoText")]
  exd := "NoText"
theorem p_floors_is_whole_b : p_floors_is_whole_I.bd := fun _ _ _ _ _ _ us hl => match us, hl with | [_], _ => rfl
theorem p_floors_is_whole_s : FnScope p_floors_is_whole_I.N p_floors_is_whole_I.ps (defScope p_floors_is_whole_I.st) := ⟨rfl, rfl, rfl, by decide +kernel, rfl, by decide +kernel, by decide +kernel⟩
theorem p_floors_is_whole_g : p_floors_is_whole_I.good tabL = true := by decide +kernel
theorem p_floors_is_size_b : p_floors_is_size_I.bd := fun _ _ _ _ _ _ us hl => match us, hl with | [_], _ => rfl
theorem p_floors_is_size_s : FnScope p_floors_is_size_I.N p_floors_is_size_I.ps (defScope p_floors_is_size_I.st) := ⟨rfl, rfl, rfl, by decide +kernel, rfl, by decide +kernel, by decide +kernel⟩
theorem p_floors_is_size_g : p_floors_is_size_I.good tabL = true := by decide +kernel
theorem p_rows_Rows___init___b : p_rows_Rows___init___I.bd := fun _ _ _ _ _ _ us hl => match us, hl with | [_], _ => rfl
theorem p_rows_Rows___init___s : FnScope p_rows_Rows___init___I.N p_rows_Rows___init___I.ps (defScope p_rows_Rows___init___I.st) := ⟨rfl, rfl, rfl, by decide +kernel, rfl, by decide +kernel, by decide +kernel⟩
theorem p_rows_Rows___init___g : p_rows_Rows___init___I.good tabL = true := by decide +kernel
theorem p_rows_Rows_number_b : p_rows_Rows_number_I.bd := fun _ _ _ _ _ _ us hl => match us, hl with | [_, _], _ => rfl
theorem p_rows_Rows_number_s : FnScope p_rows_Rows_number_I.N p_rows_Rows_number_I.ps (defScope p_rows_Rows_number_I.st) := ⟨rfl, rfl, rfl, by decide +kernel, rfl, by decide +kernel, by decide +kernel⟩
theorem p_rows_Rows_number_g : p_rows_Rows_number_I.good tabL = true := by decide +kernel
theorem p_rows_Rows_quarters_b : p_rows_Rows_quarters_I.bd := fun _ _ _ _ _ _ us hl => match us, hl with | [_, _], _ => rfl
theorem p_rows_Rows_quarters_s : FnScope p_rows_Rows_quarters_I.N p_rows_Rows_quarters_I.ps (defScope p_rows_Rows_quarters_I.st) := ⟨rfl, rfl, rfl, by decide +kernel, rfl, by decide +kernel, by decide +kernel⟩
theorem p_rows_Rows_quarters_g : p_rows_Rows_quarters_I.good tabL = true := by decide +kernel
theorem p_rows_Rows_take_b : p_rows_Rows_take_I.bd := fun _ _ _ _ _ _ us hl => match us, hl with | [_, _], _ => rfl
theorem p_rows_Rows_take_s : FnScope p_rows_Rows_take_I.N p_rows_Rows_take_I.ps (defScope p_rows_Rows_take_I.st) := ⟨rfl, rfl, rfl, by decide +kernel, rfl, by decide +kernel, by decide +kernel⟩
theorem p_rows_Rows_take_g : p_rows_Rows_take_I.good tabL = true := by decide +kernel
theorem p_rows_Rows_order_b : p_rows_Rows_order_I.bd := fun _ _ _ _ _ _ us hl => match us, hl with | [_, _, _], _ => rfl
theorem p_rows_Rows_order_s : FnScope p_rows_Rows_order_I.N p_rows_Rows_order_I.ps (defScope p_rows_Rows_order_I.st) := ⟨rfl, rfl, rfl, by decide +kernel, rfl, by decide +kernel, by decide +kernel⟩
theorem p_rows_Rows_order_g : p_rows_Rows_order_I.good tabL = true := by decide +kernel
theorem p_rows_Rows_shape_b : p_rows_Rows_shape_I.bd := fun _ _ _ _ _ _ us hl => match us, hl with | [_, _, _], _ => rfl
theorem p_rows_Rows_shape_s : FnScope p_rows_Rows_shape_I.N p_rows_Rows_shape_I.ps (defScope p_rows_Rows_shape_I.st) := ⟨rfl, rfl, rfl, by decide +kernel, rfl, by decide +kernel, by decide +kernel⟩
theorem p_rows_Rows_shape_g : p_rows_Rows_shape_I.good tabL = true := by decide +kernel
theorem p_rows_one_of_b : p_rows_one_of_I.bd := fun _ _ _ _ _ _ us hl => match us, hl with | [_], _ => rfl
theorem p_rows_one_of_s : FnScope p_rows_one_of_I.N p_rows_one_of_I.ps (defScope p_rows_one_of_I.st) := ⟨rfl, rfl, rfl, by decide +kernel, rfl, by decide +kernel, by decide +kernel⟩
theorem p_rows_one_of_g : p_rows_one_of_I.good tabL = true := by decide +kernel
theorem p_tellings_is_number_b : p_tellings_is_number_I.bd := fun _ _ _ _ _ _ us hl => match us, hl with | [_, _], _ => rfl
theorem p_tellings_is_number_s : FnScope p_tellings_is_number_I.N p_tellings_is_number_I.ps (defScope p_tellings_is_number_I.st) := ⟨rfl, rfl, rfl, by decide +kernel, rfl, by decide +kernel, by decide +kernel⟩
theorem p_tellings_is_number_g : p_tellings_is_number_I.good tabL = true := by decide +kernel
theorem p_tellings_is_row_b : p_tellings_is_row_I.bd := fun _ _ _ _ _ _ us hl => match us, hl with | [_, _], _ => rfl
theorem p_tellings_is_row_s : FnScope p_tellings_is_row_I.N p_tellings_is_row_I.ps (defScope p_tellings_is_row_I.st) := ⟨rfl, rfl, rfl, by decide +kernel, rfl, by decide +kernel, by decide +kernel⟩
theorem p_tellings_is_row_g : p_tellings_is_row_I.good tabL = true := by decide +kernel
theorem p_tellings_depths_of_b : p_tellings_depths_of_I.bd := fun _ _ _ _ _ _ us hl => match us, hl with | [_], _ => rfl
theorem p_tellings_depths_of_s : FnScope p_tellings_depths_of_I.N p_tellings_depths_of_I.ps (defScope p_tellings_depths_of_I.st) := ⟨rfl, rfl, rfl, by decide +kernel, rfl, by decide +kernel, by decide +kernel⟩
theorem p_tellings_depths_of_g : p_tellings_depths_of_I.good tabL = true := by decide +kernel
theorem p_tellings_is_telling_b : p_tellings_is_telling_I.bd := fun _ _ _ _ _ _ us hl => match us, hl with | [_], _ => rfl
theorem p_tellings_is_telling_s : FnScope p_tellings_is_telling_I.N p_tellings_is_telling_I.ps (defScope p_tellings_is_telling_I.st) := ⟨rfl, rfl, rfl, by decide +kernel, rfl, by decide +kernel, by decide +kernel⟩
theorem p_tellings_is_telling_g : p_tellings_is_telling_I.good tabL = true := by decide +kernel
theorem p_tellings_is_shape_b : p_tellings_is_shape_I.bd := fun _ _ _ _ _ _ us hl => match us, hl with | [_], _ => rfl
theorem p_tellings_is_shape_s : FnScope p_tellings_is_shape_I.N p_tellings_is_shape_I.ps (defScope p_tellings_is_shape_I.st) := ⟨rfl, rfl, rfl, by decide +kernel, rfl, by decide +kernel, by decide +kernel⟩
theorem p_tellings_is_shape_g : p_tellings_is_shape_I.good tabL = true := by decide +kernel
theorem p_tellings_want_shape_b : p_tellings_want_shape_I.bd := fun _ _ _ _ _ _ us hl => match us, hl with | [_], _ => rfl
theorem p_tellings_want_shape_s : FnScope p_tellings_want_shape_I.N p_tellings_want_shape_I.ps (defScope p_tellings_want_shape_I.st) := ⟨rfl, rfl, rfl, by decide +kernel, rfl, by decide +kernel, by decide +kernel⟩
theorem p_tellings_want_shape_g : p_tellings_want_shape_I.good tabL = true := by decide +kernel
theorem p_shapetexts_line_of_b : p_shapetexts_line_of_I.bd := fun _ _ _ _ _ _ us hl => match us, hl with | [_], _ => rfl
theorem p_shapetexts_line_of_s : FnScope p_shapetexts_line_of_I.N p_shapetexts_line_of_I.ps (defScope p_shapetexts_line_of_I.st) := ⟨rfl, rfl, rfl, by decide +kernel, rfl, by decide +kernel, by decide +kernel⟩
theorem p_shapetexts_line_of_g : p_shapetexts_line_of_I.good tabL = true := by decide +kernel
theorem p_shapetexts_shape_text_b : p_shapetexts_shape_text_I.bd := fun _ _ _ _ _ _ us hl => match us, hl with | [_], _ => rfl
theorem p_shapetexts_shape_text_s : FnScope p_shapetexts_shape_text_I.N p_shapetexts_shape_text_I.ps (defScope p_shapetexts_shape_text_I.st) := ⟨rfl, rfl, rfl, by decide +kernel, rfl, by decide +kernel, by decide +kernel⟩
theorem p_shapetexts_shape_text_g : p_shapetexts_shape_text_I.good tabL = true := by decide +kernel
theorem p_shapetexts_number_in_b : p_shapetexts_number_in_I.bd := fun _ _ _ _ _ _ us hl => match us, hl with | [_], _ => rfl
theorem p_shapetexts_number_in_s : FnScope p_shapetexts_number_in_I.N p_shapetexts_number_in_I.ps (defScope p_shapetexts_number_in_I.st) := ⟨rfl, rfl, rfl, by decide +kernel, rfl, by decide +kernel, by decide +kernel⟩
theorem p_shapetexts_number_in_g : p_shapetexts_number_in_I.good tabL = true := by decide +kernel
theorem p_shapetexts_numbers_in_b : p_shapetexts_numbers_in_I.bd := fun _ _ _ _ _ _ us hl => match us, hl with | [_], _ => rfl
theorem p_shapetexts_numbers_in_s : FnScope p_shapetexts_numbers_in_I.N p_shapetexts_numbers_in_I.ps (defScope p_shapetexts_numbers_in_I.st) := ⟨rfl, rfl, rfl, by decide +kernel, rfl, by decide +kernel, by decide +kernel⟩
theorem p_shapetexts_numbers_in_g : p_shapetexts_numbers_in_I.good tabL = true := by decide +kernel
theorem p_shapetexts_read_shape_b : p_shapetexts_read_shape_I.bd := fun _ _ _ _ _ _ us hl => match us, hl with | [_], _ => rfl
theorem p_shapetexts_read_shape_s : FnScope p_shapetexts_read_shape_I.N p_shapetexts_read_shape_I.ps (defScope p_shapetexts_read_shape_I.st) := ⟨rfl, rfl, rfl, by decide +kernel, rfl, by decide +kernel, by decide +kernel⟩
theorem p_shapetexts_read_shape_g : p_shapetexts_read_shape_I.good tabL = true := by decide +kernel
theorem l_law_pot_b : l_law_pot_I.bd := fun _ _ _ _ _ _ us hl => match us, hl with | [_, _], _ => rfl
theorem l_law_pot_s : FnScope l_law_pot_I.N l_law_pot_I.ps (defScope l_law_pot_I.st) := ⟨rfl, rfl, rfl, by decide +kernel, rfl, by decide +kernel, by decide +kernel⟩
theorem l_law_pot_g : l_law_pot_I.good tabL = true := by decide +kernel
theorem l_law_digit_b : l_law_digit_I.bd := fun _ _ _ _ _ _ us hl => match us, hl with | [_, _], _ => rfl
theorem l_law_digit_s : FnScope l_law_digit_I.N l_law_digit_I.ps (defScope l_law_digit_I.st) := ⟨rfl, rfl, rfl, by decide +kernel, rfl, by decide +kernel, by decide +kernel⟩
theorem l_law_digit_g : l_law_digit_I.good tabL = true := by decide +kernel
theorem l_law_cells_b : l_law_cells_I.bd := fun _ _ _ _ _ _ us hl => match us, hl with | [_, _], _ => rfl
theorem l_law_cells_s : FnScope l_law_cells_I.N l_law_cells_I.ps (defScope l_law_cells_I.st) := ⟨rfl, rfl, rfl, by decide +kernel, rfl, by decide +kernel, by decide +kernel⟩
theorem l_law_cells_g : l_law_cells_I.good tabL = true := by decide +kernel
theorem l_law_box_b : l_law_box_I.bd := fun _ _ _ _ _ _ us hl => match us, hl with | [_, _, _], _ => rfl
theorem l_law_box_s : FnScope l_law_box_I.N l_law_box_I.ps (defScope l_law_box_I.st) := ⟨rfl, rfl, rfl, by decide +kernel, rfl, by decide +kernel, by decide +kernel⟩
theorem l_law_box_g : l_law_box_I.good tabL = true := by decide +kernel
theorem l_law_boxes_b : l_law_boxes_I.bd := fun _ _ _ _ _ _ us hl => match us, hl with | [_, _], _ => rfl
theorem l_law_boxes_s : FnScope l_law_boxes_I.N l_law_boxes_I.ps (defScope l_law_boxes_I.st) := ⟨rfl, rfl, rfl, by decide +kernel, rfl, by decide +kernel, by decide +kernel⟩
theorem l_law_boxes_g : l_law_boxes_I.good tabL = true := by decide +kernel
theorem l_law_meets_b : l_law_meets_I.bd := fun _ _ _ _ _ _ us hl => match us, hl with | [_, _, _, _], _ => rfl
theorem l_law_meets_s : FnScope l_law_meets_I.N l_law_meets_I.ps (defScope l_law_meets_I.st) := ⟨rfl, rfl, rfl, by decide +kernel, rfl, by decide +kernel, by decide +kernel⟩
theorem l_law_meets_g : l_law_meets_I.good tabL = true := by decide +kernel
theorem l_law_has_b : l_law_has_I.bd := fun _ _ _ _ _ _ us hl => match us, hl with | [_, _, _, _], _ => rfl
theorem l_law_has_s : FnScope l_law_has_I.N l_law_has_I.ps (defScope l_law_has_I.st) := ⟨rfl, rfl, rfl, by decide +kernel, rfl, by decide +kernel, by decide +kernel⟩
theorem l_law_has_g : l_law_has_I.good tabL = true := by decide +kernel
theorem l_law_number_b : l_law_number_I.bd := fun _ _ _ _ _ _ us hl => match us, hl with | [_, _, _, _, _], _ => rfl
theorem l_law_number_s : FnScope l_law_number_I.N l_law_number_I.ps (defScope l_law_number_I.st) := ⟨rfl, rfl, rfl, by decide +kernel, rfl, by decide +kernel, by decide +kernel⟩
theorem l_law_number_g : l_law_number_I.good tabL = true := by decide +kernel
theorem l_law_shape_b : l_law_shape_I.bd := fun _ _ _ _ _ _ us hl => match us, hl with | [_, _], _ => rfl
theorem l_law_shape_s : FnScope l_law_shape_I.N l_law_shape_I.ps (defScope l_law_shape_I.st) := ⟨rfl, rfl, rfl, by decide +kernel, rfl, by decide +kernel, by decide +kernel⟩
theorem l_law_shape_g : l_law_shape_I.good tabL = true := by decide +kernel
theorem l_law_figures_b : l_law_figures_I.bd := fun _ _ _ _ _ _ us hl => match us, hl with | [_], _ => rfl
theorem l_law_figures_s : FnScope l_law_figures_I.N l_law_figures_I.ps (defScope l_law_figures_I.st) := ⟨rfl, rfl, rfl, by decide +kernel, rfl, by decide +kernel, by decide +kernel⟩
theorem l_law_figures_g : l_law_figures_I.good tabL = true := by decide +kernel
theorem l_law_line_b : l_law_line_I.bd := fun _ _ _ _ _ _ us hl => match us, hl with | [_], _ => rfl
theorem l_law_line_s : FnScope l_law_line_I.N l_law_line_I.ps (defScope l_law_line_I.st) := ⟨rfl, rfl, rfl, by decide +kernel, rfl, by decide +kernel, by decide +kernel⟩
theorem l_law_line_g : l_law_line_I.good tabL = true := by decide +kernel
theorem llaw_b : llaw_I.bd := fun _ _ _ _ _ _ us hl => match us, hl with | [_], _ => rfl
theorem llaw_s : FnScope llaw_I.N llaw_I.ps (defScope llaw_I.st) := ⟨rfl, rfl, rfl, by decide +kernel, rfl, by decide +kernel, by decide +kernel⟩
theorem llaw_g : llaw_I.good tabL = true := by decide +kernel
theorem all_b : ∀ x ∈ defsL, x.bd := by
  intro x hx
  simp only [defsL, List.mem_cons, List.not_mem_nil, or_false] at hx
  rcases hx with rfl | rfl | rfl | rfl | rfl | rfl | rfl | rfl | rfl | rfl | rfl | rfl | rfl | rfl | rfl | rfl | rfl | rfl | rfl | rfl | rfl | rfl | rfl | rfl | rfl | rfl | rfl | rfl | rfl | rfl | rfl | rfl
  · exact p_floors_is_whole_b
  · exact p_floors_is_size_b
  · exact p_rows_Rows___init___b
  · exact p_rows_Rows_number_b
  · exact p_rows_Rows_quarters_b
  · exact p_rows_Rows_take_b
  · exact p_rows_Rows_order_b
  · exact p_rows_Rows_shape_b
  · exact p_rows_one_of_b
  · exact p_tellings_is_number_b
  · exact p_tellings_is_row_b
  · exact p_tellings_depths_of_b
  · exact p_tellings_is_telling_b
  · exact p_tellings_is_shape_b
  · exact p_tellings_want_shape_b
  · exact p_shapetexts_line_of_b
  · exact p_shapetexts_shape_text_b
  · exact p_shapetexts_number_in_b
  · exact p_shapetexts_numbers_in_b
  · exact p_shapetexts_read_shape_b
  · exact l_law_pot_b
  · exact l_law_digit_b
  · exact l_law_cells_b
  · exact l_law_box_b
  · exact l_law_boxes_b
  · exact l_law_meets_b
  · exact l_law_has_b
  · exact l_law_number_b
  · exact l_law_shape_b
  · exact l_law_figures_b
  · exact l_law_line_b
  · exact llaw_b
theorem all_s : ∀ x ∈ defsL, FnScope x.N x.ps (defScope x.st) := by
  intro x hx
  simp only [defsL, List.mem_cons, List.not_mem_nil, or_false] at hx
  rcases hx with rfl | rfl | rfl | rfl | rfl | rfl | rfl | rfl | rfl | rfl | rfl | rfl | rfl | rfl | rfl | rfl | rfl | rfl | rfl | rfl | rfl | rfl | rfl | rfl | rfl | rfl | rfl | rfl | rfl | rfl | rfl | rfl
  · exact p_floors_is_whole_s
  · exact p_floors_is_size_s
  · exact p_rows_Rows___init___s
  · exact p_rows_Rows_number_s
  · exact p_rows_Rows_quarters_s
  · exact p_rows_Rows_take_s
  · exact p_rows_Rows_order_s
  · exact p_rows_Rows_shape_s
  · exact p_rows_one_of_s
  · exact p_tellings_is_number_s
  · exact p_tellings_is_row_s
  · exact p_tellings_depths_of_s
  · exact p_tellings_is_telling_s
  · exact p_tellings_is_shape_s
  · exact p_tellings_want_shape_s
  · exact p_shapetexts_line_of_s
  · exact p_shapetexts_shape_text_s
  · exact p_shapetexts_number_in_s
  · exact p_shapetexts_numbers_in_s
  · exact p_shapetexts_read_shape_s
  · exact l_law_pot_s
  · exact l_law_digit_s
  · exact l_law_cells_s
  · exact l_law_box_s
  · exact l_law_boxes_s
  · exact l_law_meets_s
  · exact l_law_has_s
  · exact l_law_number_s
  · exact l_law_shape_s
  · exact l_law_figures_s
  · exact l_law_line_s
  · exact llaw_s
theorem all_g : ∀ x ∈ defsL, x.good tabL = true := by
  intro x hx
  simp only [defsL, List.mem_cons, List.not_mem_nil, or_false] at hx
  rcases hx with rfl | rfl | rfl | rfl | rfl | rfl | rfl | rfl | rfl | rfl | rfl | rfl | rfl | rfl | rfl | rfl | rfl | rfl | rfl | rfl | rfl | rfl | rfl | rfl | rfl | rfl | rfl | rfl | rfl | rfl | rfl | rfl
  · exact p_floors_is_whole_g
  · exact p_floors_is_size_g
  · exact p_rows_Rows___init___g
  · exact p_rows_Rows_number_g
  · exact p_rows_Rows_quarters_g
  · exact p_rows_Rows_take_g
  · exact p_rows_Rows_order_g
  · exact p_rows_Rows_shape_g
  · exact p_rows_one_of_g
  · exact p_tellings_is_number_g
  · exact p_tellings_is_row_g
  · exact p_tellings_depths_of_g
  · exact p_tellings_is_telling_g
  · exact p_tellings_is_shape_g
  · exact p_tellings_want_shape_g
  · exact p_shapetexts_line_of_g
  · exact p_shapetexts_shape_text_g
  · exact p_shapetexts_number_in_g
  · exact p_shapetexts_numbers_in_g
  · exact p_shapetexts_read_shape_g
  · exact l_law_pot_g
  · exact l_law_digit_g
  · exact l_law_cells_g
  · exact l_law_box_g
  · exact l_law_boxes_g
  · exact l_law_meets_g
  · exact l_law_has_g
  · exact l_law_number_g
  · exact l_law_shape_g
  · exact l_law_figures_g
  · exact l_law_line_g
  · exact llaw_g
theorem all_n : tabL.nd = true := by decide +kernel
/-! the head -/
abbrev rowR : PySem.W.OpenRow := PySem.W.OpenLaw.row PySem.Challenge.rw_quarterfold_k14_whole_texts_of_shapes
abbrev hkL : PySem.W.Hook := hookQ 6 tabL.fas tabL.fns
noncomputable def obL (s : PySem.W.SharedT) : He.Al := obsQG 6 tabL.fas tabL.fns (HandSHeadRun.getT s)
theorem obL_eq (s : PySem.W.SharedT) : obL s = hkL.obs s.abs := obsQG_eq (HandSHeadRun.getT_eq s)
def looseL : List PySem.Str := (["__name__", "FloorError", "NoShape", "NoText", "MOST_SIZE", "is_whole", "is_size", "Rows", "one_of", "is_number", "is_row", "depths_of", "is_telling", "is_shape", "want_shape", "FIGURES", "MOST_FIGURES", "line_of", "shape_text", "number_in", "numbers_in", "read_shape", "_law_pot", "_law_digit", "_law_cells", "_law_box", "_law_boxes", "_law_meets", "_law_has", "_law_number"] : List PySem.Str) ++ (["_law_shape", "_law_figures", "_law_line"] : List PySem.Str)
abbrev lawIx : Nat := 38
theorem runL (w : World) : HandSHeadRun.RunEq rowR (PySem.W.view rowR.prog [lawIx]) hkL obL 6000 looseL w := by
  intro os
  kernel_rfl

/- law: id 511, parameter ['_law_script'] -/
abbrev lawId : Nat := 511
abbrev lawI : DefI := llaw_I
end Q
end
section
set_option linter.all false
set_option Elab.async false
set_option maxRecDepth 100000
namespace Q
open PySem
/-! the evaluator, step by step: rules for simp -/
def OB {α β : Type} (o : Option α) (f : α → β) (d : β) : β := match o with
  | some a => f a
  | none => d
theorem OB_some {α β : Type} (a : α) (f : α → β) (d : β) : OB (some a) f d = f a := rfl
@[simp] theorem OB_some_s {α β : Type} (a : α) (f : α → β) (d : β) : OB (some a) f d = f a := Eq.trans rfl rfl
theorem OB_none {α β : Type} (f : α → β) (d : β) : OB none f d = d := rfl
@[simp] theorem OB_none_s {α β : Type} (f : α → β) (d : β) : OB none f d = d := Eq.trans rfl rfl
theorem R.bind_ok {α β : Type} (a : α) (S : Sl) (f : α → Sl → R β) : (R.ok a S).bind f = f a S := rfl
@[simp] theorem R.bind_ok_s {α β : Type} (a : α) (S : Sl) (f : α → Sl → R β) : (R.ok a S).bind f = f a S := Eq.trans rfl rfl
theorem R.bind_er {α β : Type} (c : Nat) (S : Sl) (f : α → Sl → R β) : (R.er c S).bind f = .er c S := rfl
@[simp] theorem R.bind_er_s {α β : Type} (c : Nat) (S : Sl) (f : α → Sl → R β) : (R.er c S).bind f = .er c S := Eq.trans rfl rfl
theorem R.bind_no {α β : Type} (f : α → Sl → R β) : (R.no).bind f = .no := rfl
@[simp] theorem R.bind_no_s {α β : Type} (f : α → Sl → R β) : (R.no).bind f = .no := Eq.trans rfl rfl
theorem R.fl_ok {α : Type} (a : α) (S : Sl) (f : α → Sl → Fl) : (R.ok a S).fl f = f a S := rfl
@[simp] theorem R.fl_ok_s {α : Type} (a : α) (S : Sl) (f : α → Sl → Fl) : (R.ok a S).fl f = f a S := Eq.trans rfl rfl
theorem R.fl_er {α : Type} (c : Nat) (S : Sl) (f : α → Sl → Fl) : (R.er c S : R α).fl f = .er c S := rfl
@[simp] theorem R.fl_er_s {α : Type} (c : Nat) (S : Sl) (f : α → Sl → Fl) : (R.er c S : R α).fl f = .er c S := Eq.trans rfl rfl
theorem R.fl_no {α : Type} (f : α → Sl → Fl) : (R.no : R α).fl f = .no := rfl
@[simp] theorem R.fl_no_s {α : Type} (f : α → Sl → Fl) : (R.no : R α).fl f = .no := Eq.trans rfl rfl
theorem R.of_some {α : Type} (S : Sl) (a : α) : R.of S (some a) = .ok a S := rfl
@[simp] theorem R.of_some_s {α : Type} (S : Sl) (a : α) : R.of S (some a) = .ok a S := Eq.trans rfl rfl
theorem R.of_none {α : Type} (S : Sl) : R.of S (none : Option α) = .no := rfl
@[simp] theorem R.of_none_s {α : Type} (S : Sl) : R.of S (none : Option α) = .no := Eq.trans rfl rfl
def Fl.sq (r : Fl) (f : Sl → Fl) : Fl := match r with
  | .nx S => f S
  | r => r
theorem Fl.sq_nx (S : Sl) (f : Sl → Fl) : (Fl.nx S).sq f = f S := rfl
@[simp] theorem Fl.sq_nx_s (S : Sl) (f : Sl → Fl) : (Fl.nx S).sq f = f S := Eq.trans rfl rfl
theorem Fl.sq_rt (d : D) (S : Sl) (f : Sl → Fl) : (Fl.rt d S).sq f = .rt d S := rfl
@[simp] theorem Fl.sq_rt_s (d : D) (S : Sl) (f : Sl → Fl) : (Fl.rt d S).sq f = .rt d S := Eq.trans rfl rfl
theorem Fl.sq_bk (S : Sl) (f : Sl → Fl) : (Fl.bk S).sq f = .bk S := rfl
@[simp] theorem Fl.sq_bk_s (S : Sl) (f : Sl → Fl) : (Fl.bk S).sq f = .bk S := Eq.trans rfl rfl
theorem Fl.sq_ct (S : Sl) (f : Sl → Fl) : (Fl.ct S).sq f = .ct S := rfl
@[simp] theorem Fl.sq_ct_s (S : Sl) (f : Sl → Fl) : (Fl.ct S).sq f = .ct S := Eq.trans rfl rfl
theorem Fl.sq_er (c : Nat) (S : Sl) (f : Sl → Fl) : (Fl.er c S).sq f = .er c S := rfl
@[simp] theorem Fl.sq_er_s (c : Nat) (S : Sl) (f : Sl → Fl) : (Fl.er c S).sq f = .er c S := Eq.trans rfl rfl
/-- by a truth -/
def tst {β : Type} (d : D) (a b n : β) : β := match d with
  | .bl true => a
  | .bl false => b
  | _ => n
theorem tst_t {β : Type} (a b n : β) : tst (.bl true) a b n = a := rfl
@[simp] theorem tst_t_s {β : Type} (a b n : β) : tst (.bl true) a b n = a := Eq.trans rfl rfl
theorem tst_f {β : Type} (a b n : β) : tst (.bl false) a b n = b := rfl
@[simp] theorem tst_f_s {β : Type} (a b n : β) : tst (.bl false) a b n = b := Eq.trans rfl rfl
/-- by an open truth -/
theorem tst_bl {β : Type} (c : Bool) (a b n : β) : tst (.bl c) a b n = if c = true then a else b := by cases c <;> rfl
/-! values -/
@[simp] theorem pure_non : D.non.pure = true := rfl
@[simp] theorem pure_bl (b : Bool) : (D.bl b).pure = true := rfl
@[simp] theorem pure_int (i : Int) : (D.int i).pure = true := rfl
@[simp] theorem pure_str (i : Str) : (D.str i).pure = true := rfl
@[simp] theorem pure_tup (xs : List D) : (D.tup xs).pure = true := rfl
@[simp] theorem pure_ktup (xs : List D) : (D.ktup xs).pure = true := rfl
@[simp] theorem pure_fls (xs : List D) : (D.fls xs).pure = true := rfl
@[simp] theorem pure_lst (xs : List D) : (D.lst xs).pure = false := rfl
@[simp] theorem pure_dk (xs : List (Ky × D)) : (D.dk xs).pure = false := rfl
@[simp] theorem pure_dt (xs : List (List Ky × D)) : (D.dt xs).pure = false := rfl
@[simp] theorem pure_obj (c : Nat) (xs : List D) : (D.obj c xs).pure = false := rfl
@[simp] theorem pure_hole : D.hole.pure = false := rfl
@[simp] theorem pure_lk (d : D) : (D.lk d).pure = false := rfl
@[simp] theorem lin_non : D.non.lin = false := rfl
@[simp] theorem lin_bl (b : Bool) : (D.bl b).lin = false := rfl
@[simp] theorem lin_int (i : Int) : (D.int i).lin = false := rfl
@[simp] theorem lin_str (i : Str) : (D.str i).lin = false := rfl
@[simp] theorem lin_tup (xs : List D) : (D.tup xs).lin = false := rfl
@[simp] theorem lin_ktup (xs : List D) : (D.ktup xs).lin = false := rfl
@[simp] theorem lin_fls (xs : List D) : (D.fls xs).lin = false := rfl
@[simp] theorem lin_lst (xs : List D) : (D.lst xs).lin = true := rfl
@[simp] theorem lin_dk (xs : List (Ky × D)) : (D.dk xs).lin = true := rfl
@[simp] theorem lin_dt (xs : List (List Ky × D)) : (D.dt xs).lin = true := rfl
@[simp] theorem lin_obj (c : Nat) (xs : List D) : (D.obj c xs).lin = true := rfl
@[simp] theorem lin_hole : D.hole.lin = false := rfl
@[simp] theorem lin_lk (d : D) : (D.lk d).lin = true := rfl
theorem lin_pure {d : D} (h : d.pure = true) : d.lin = false := by cases d <;> first | rfl | cases h
@[simp] theorem mov_non : D.non.movable = true := rfl
@[simp] theorem mov_bl (b : Bool) : (D.bl b).movable = true := rfl
@[simp] theorem mov_int (i : Int) : (D.int i).movable = true := rfl
@[simp] theorem mov_str (i : Str) : (D.str i).movable = true := rfl
@[simp] theorem mov_tup (xs : List D) : (D.tup xs).movable = true := rfl
@[simp] theorem mov_lst (xs : List D) : (D.lst xs).movable = true := rfl
@[simp] theorem mov_dk (xs : List (Ky × D)) : (D.dk xs).movable = true := rfl
@[simp] theorem mov_dt (xs : List (List Ky × D)) : (D.dt xs).movable = true := rfl
@[simp] theorem mov_obj (c : Nat) (xs : List D) : (D.obj c xs).movable = true := rfl
@[simp] theorem rep_non : D.non.rep = true := rfl
@[simp] theorem rep_int (i : Int) : (D.int i).rep = true := rfl
@[simp] theorem rep_tup (xs : List D) : (D.tup xs).rep = true := rfl
@[simp] theorem allPure_nil : allPure [] = true := rfl
@[simp] theorem allPure_cons (d : D) (r : List D) : allPure (d :: r) = (d.pure && allPure r) := rfl
theorem allPure_map {α : Type} {f : α → D} (h : ∀ a, (f a).pure = true) : ∀ l : List α, allPure (l.map f) = true
  | [] => rfl
  | a :: l => by simp [h a, allPure_map h l]
@[simp] theorem lim_eq : lim = 16777216 := rfl
/-! places -/
section
variable (sg : Sg)
@[simp] theorem rdF_nil (d : D) : rdF sg d [] = some d := by cases d <;> rfl
@[simp] theorem rdF_obj (c : Nat) (fs : List D) (f : Nat) (r : List Nat) : rdF sg (.obj c fs) (f :: r) = OB (fieldIx (sg.flds c) f) (fun j => OB fs[j]? (fun d => rdF sg d r) none) none := by
  rw [rdF]
  cases fieldIx (sg.flds c) f with
  | none => rfl
  | some j => simp only [OB_some]; cases fs[j]? <;> rfl
@[simp] theorem wrF_nil (d x : D) : wrF sg d [] x = some x := by cases d <;> rfl
@[simp] theorem wrF_obj (c : Nat) (fs : List D) (f : Nat) (r : List Nat) (x : D) : wrF sg (.obj c fs) (f :: r) x = OB (fieldIx (sg.flds c) f) (fun j => OB fs[j]? (fun d => (wrF sg d r x).map fun d' => .obj c (fs.set j d')) none) none := by
  rw [wrF]
  cases fieldIx (sg.flds c) f with
  | none => rfl
  | some j => simp only [OB_some]; cases fs[j]? <;> rfl
@[simp] theorem fieldIx_cons (g : Nat) (r : List Nat) (f : Nat) : fieldIx (g :: r) f = if g = f then some 0 else (fieldIx r f).map (· + 1) := rfl
def oD (o : Option (Option D)) (f : D → Option D) : Option D := match o with
  | some (some d) => f d
  | _ => none
theorem oD_s (d : D) (f : D → Option D) : oD (some (some d)) f = f d := rfl
@[simp] theorem oD_s_s (d : D) (f : D → Option D) : oD (some (some d)) f = f d := Eq.trans rfl rfl
def oS (o : Option (Option D)) (f : D → Option Sl) : Option Sl := match o with
  | some (some d) => f d
  | _ => none
theorem oS_s (d : D) (f : D → Option Sl) : oS (some (some d)) f = f d := rfl
@[simp] theorem oS_s_s (d : D) (f : D → Option Sl) : oS (some (some d)) f = f d := Eq.trans rfl rfl
theorem rdS_eq (s : Option D) (S : Sl) (i : Nat) (p : List Nat) : rdS sg (s :: S) i p = oD (s :: S)[i]? fun d => rdF sg d p := rfl
@[simp] theorem rdS_eq_s (s : Option D) (S : Sl) (i : Nat) (p : List Nat) : rdS sg (s :: S) i p = oD (s :: S)[i]? fun d => rdF sg d p := Eq.trans rfl rfl
theorem wrS_eq (s : Option D) (S : Sl) (i : Nat) (p : List Nat) (x : D) : wrS sg (s :: S) i p x = oS (s :: S)[i]? fun d => (wrF sg d p x).map fun d' => (s :: S).set i (some d') := rfl
@[simp] theorem wrS_eq_s (s : Option D) (S : Sl) (i : Nat) (p : List Nat) (x : D) : wrS sg (s :: S) i p x = oS (s :: S)[i]? fun d => (wrF sg d p x).map fun d' => (s :: S).set i (some d') := Eq.trans rfl rfl
@[simp] theorem path_var (i : Nat) : pathOf (.var i) = some (i, []) := rfl
@[simp] theorem path_att (a : Ex) (f : Nat) : pathOf (.att a f) = (pathOf a).map fun q => (q.1, q.2 ++ [f]) := rfl
@[simp] theorem path_cst (d : D) : pathOf (.cst d) = none := rfl
@[simp] theorem path_glb (d : Nat) : pathOf (.glb d) = none := rfl
@[simp] theorem path_nop : pathOf .nop = none := rfl
@[simp] theorem path_bin (o : BOp) (a b : Ex) : pathOf (.bin o a b) = none := rfl
@[simp] theorem path_un (o : UOp) (a : Ex) : pathOf (.un o a) = none := rfl
@[simp] theorem path_cmp (o : COp) (a b : Ex) : pathOf (.cmp o a b) = none := rfl
@[simp] theorem path_chain (o o2 : COp) (a b c : Ex) : pathOf (.chain o o2 a b c) = none := rfl
@[simp] theorem path_and (a b : Ex) : pathOf (.and_ a b) = none := rfl
@[simp] theorem path_or (a b : Ex) : pathOf (.or_ a b) = none := rfl
@[simp] theorem path_not (a : Ex) : pathOf (.not_ a) = none := rfl
@[simp] theorem path_ife (c a b : Ex) : pathOf (.ife c a b) = none := rfl
@[simp] theorem path_tup (es : Exs) : pathOf (.tup es) = none := rfl
@[simp] theorem path_lst (es : Exs) : pathOf (.lst es) = none := rfl
@[simp] theorem path_dk0 : pathOf .dk0 = none := rfl
@[simp] theorem path_dt0 : pathOf .dt0 = none := rfl
@[simp] theorem path_slc (a b c : Ex) : pathOf (.slc a b c) = none := rfl
@[simp] theorem path_isi (a : Ex) (ts : List Ty) : pathOf (.isi a ts) = none := rfl
@[simp] theorem path_call (f : Nat) (es : Exs) : pathOf (.call f es) = none := rfl
@[simp] theorem path_meth (c f : Nat) (o : Ex) (es : Exs) : pathOf (.meth c f o es) = none := rfl
@[simp] theorem path_new (c f : Nat) (es : Exs) : pathOf (.new c f es) = none := rfl
@[simp] theorem path_bi (b : Bi) (es : Exs) : pathOf (.bi b es) = none := rfl
@[simp] theorem path_bm (b : Bm) (o : Ex) (es : Exs) : pathOf (.bm b o es) = none := rfl
@[simp] theorem path_mut (m : Mu) (o : Ex) (es : Exs) : pathOf (.mut m o es) = none := rfl
@[simp] theorem path_comp (ts : List Nat) (k : IK) (es : Exs) (own : List Nat) (c e : Ex) : pathOf (.comp ts k es own c e) = none := rfl
@[simp] theorem path_sdf (o a b : Ex) : pathOf (.sdf o a b) = none := rfl
@[simp] theorem path_dgt (o a b : Ex) : pathOf (.dgt o a b) = none := rfl
@[simp] theorem path_dup (o a : Ex) : pathOf (.dup o a) = none := rfl
@[simp] theorem path_dkd (es : Exs) : pathOf (.dkd es) = none := rfl
@[simp] theorem path_dtd (es : Exs) : pathOf (.dtd es) = none := rfl
@[simp] theorem path_lz (es : Exs) : pathOf (.lz es) = none := rfl
@[simp] theorem path_frz (e : Ex) : pathOf (.frz e) = none := rfl
@[simp] theorem path_inc (a : Ex) (ls : List (List Int)) : pathOf (.inc a ls) = none := rfl
@[simp] theorem placeOf_eq (s : Option D) (S : Sl) (e : Ex) : placeOf sg (s :: S) e = OB (pathOf e) (fun q => OB (rdS sg (s :: S) q.1 q.2) (fun d => if d.lin = true then some (.pl q.1 q.2) else none) none) none := by
  unfold placeOf
  cases pathOf e with
  | none => rfl
  | some q =>
    dsimp only [OB_some]
    cases rdS sg (s :: S) q.1 q.2 <;> rfl
@[simp] theorem argOf_eq (s : Option D) (S : Sl) (e : Ex) (r : R D) : argOf sg (s :: S) e r = OB (placeOf sg (s :: S) e) (fun a => .ok a (s :: S)) (r.bind fun d S' => .ok (.val d) S') := by
  unfold argOf
  cases placeOf sg (s :: S) e <;> rfl
theorem argD_val (S : Sl) (d : D) : argD sg S (.val d) = some d := rfl
@[simp] theorem argD_val_s (S : Sl) (d : D) : argD sg S (.val d) = some d := Eq.trans rfl rfl
@[simp] theorem argD_pl (s : Option D) (S : Sl) (i : Nat) (p : List Nat) : argD sg (s :: S) (.pl i p) = OB (rdS sg (s :: S) i p) (fun d => if d.lin = true then some d else none) none := by
  unfold argD
  dsimp only
  cases rdS sg (s :: S) i p <;> rfl
theorem argDs_nil (S : Sl) : argDs sg S [] = some [] := rfl
@[simp] theorem argDs_nil_s (S : Sl) : argDs sg S [] = some [] := Eq.trans rfl rfl
@[simp] theorem argDs_cons (S : Sl) (a : Arg) (r : List Arg) : argDs sg S (a :: r) = OB (argD sg S a) (fun d => OB (argDs sg S r) (fun ds => some (d :: ds)) none) none := by
  show (match argD sg S a, argDs sg S r with
    | some d, some ds => some (d :: ds)
    | _, _ => none) = _
  cases argD sg S a <;> cases argDs sg S r <;> rfl
theorem takes_nil (S : Sl) : takes sg [] S = some ([], S) := rfl
@[simp] theorem takes_nil_s (S : Sl) : takes sg [] S = some ([], S) := Eq.trans rfl rfl
@[simp] theorem takes_val (d : D) (r : List Arg) (S : Sl) : takes sg (.val d :: r) S = OB (takes sg r S) (fun x => some (d :: x.1, x.2)) none := by
  show (match takes sg r S with
    | some (ds, S') => some (d :: ds, S')
    | none => none) = _
  cases takes sg r S <;> rfl
@[simp] theorem takes_pl (i : Nat) (p : List Nat) (r : List Arg) (S : Sl) : takes sg (.pl i p :: r) S = OB (rdS sg S i p) (fun d => OB (wrS sg S i p .hole) (fun S1 => if d.lin = true then OB (takes sg r S1) (fun x => some (d :: x.1, x.2)) none else none) none) none := by
  rw [takes]
  cases rdS sg S i p with
  | none => rfl
  | some d =>
    cases wrS sg S i p .hole with
    | none => rfl
    | some S1 =>
      simp only [OB_some]
      split
      · cases takes sg r S1 <;> rfl
      · rfl
@[simp] theorem puts_nil (ps S : Sl) : puts sg [] ps S = some S := by cases ps <;> rfl
theorem puts_val (d : D) (r : List Arg) (x : Option D) (ps S : Sl) : puts sg (.val d :: r) (x :: ps) S = puts sg r ps S := rfl
@[simp] theorem puts_val_s (d : D) (r : List Arg) (x : Option D) (ps S : Sl) : puts sg (.val d :: r) (x :: ps) S = puts sg r ps S := Eq.trans rfl rfl
def isHole : Option D → Bool
  | some .hole => true
  | _ => false
@[simp] theorem isHole_h : isHole (some .hole) = true := rfl
@[simp] theorem puts_pl (i : Nat) (p : List Nat) (r : List Arg) (d : D) (ps S : Sl) : puts sg (.pl i p :: r) (some d :: ps) S = if isHole (rdS sg S i p) = true then OB (wrS sg S i p d) (fun S1 => puts sg r ps S1) none else none := by
  rw [puts]
  cases rdS sg S i p with
  | none => simp [isHole]
  | some e =>
    cases wrS sg S i p d with
    | none => cases e <;> simp [isHole]
    | some S1 => cases e <;> simp [isHole]
theorem puts_pn (i : Nat) (r : List Arg) (ps S : Sl) : puts sg (.pl i [] :: r) (none :: ps) S = puts sg r ps (S.set i none) := rfl
@[simp] theorem puts_pn_s (i : Nat) (r : List Arg) (ps S : Sl) : puts sg (.pl i [] :: r) (none :: ps) S = puts sg r ps (S.set i none) := Eq.trans rfl rfl
/-! calls -/
def rCall (r : FR) (f : D → Sl → R D) (e : Nat → Sl → R D) : R D := match r with
  | .ok d ps => f d ps
  | .er c ps => e c ps
  | .no => .no
theorem rCall_ok (d : D) (ps : Sl) (f : D → Sl → R D) (e : Nat → Sl → R D) : rCall (FR.ok d ps) f e = f d ps := rfl
@[simp] theorem rCall_ok_s (d : D) (ps : Sl) (f : D → Sl → R D) (e : Nat → Sl → R D) : rCall (FR.ok d ps) f e = f d ps := Eq.trans rfl rfl
theorem rCall_er (c : Nat) (ps : Sl) (f : D → Sl → R D) (e : Nat → Sl → R D) : rCall (FR.er c ps) f e = e c ps := rfl
@[simp] theorem rCall_er_s (c : Nat) (ps : Sl) (f : D → Sl → R D) (e : Nat → Sl → R D) : rCall (FR.er c ps) f e = e c ps := Eq.trans rfl rfl
variable (cf : Nat → List D → FR)
@[simp] theorem callU_eq (f : Nat) (as : List Arg) (S : Sl) : callU sg cf f as S = OB (takes sg as S) (fun x => rCall (cf f x.1) (fun d ps => OB (puts sg as ps x.2) (fun S2 => .ok d S2) .no) (fun c ps => OB (puts sg as ps x.2) (fun S2 => .er c S2) .no)) .no := by
  unfold callU
  cases takes sg as S with
  | none => rfl
  | some x =>
    dsimp only [OB_some]
    cases cf f x.1 with
    | ok d ps => simp only [rCall_ok]; cases puts sg as ps x.2 <;> rfl
    | er c ps => simp only [rCall_er]; cases puts sg as ps x.2 <;> rfl
    | no => rfl
def oN (r : FR) (S : Sl) : R D := match r with
  | FR.ok .non (some d :: _) => .ok d S
  | FR.er c' _ => .er c' S
  | _ => .no
theorem oN_ok (d : D) (ps S : Sl) : oN (FR.ok .non (some d :: ps)) S = .ok d S := rfl
@[simp] theorem oN_ok_s (d : D) (ps S : Sl) : oN (FR.ok .non (some d :: ps)) S = .ok d S := Eq.trans rfl rfl
theorem newU_eq (c f : Nat) (ds : List D) (S : Sl) : newU cf c f ds S = oN (cf f (.obj c [] :: ds)) S := rfl
@[simp] theorem newU_eq_s (c f : Nat) (ds : List D) (S : Sl) : newU cf c f ds S = oN (cf f (.obj c [] :: ds)) S := Eq.trans rfl rfl
@[simp] theorem mutU_pl (m : Mu) (i : Nat) (p : List Nat) (ds : List D) (S : Sl) : mutU sg m (.pl i p) ds S = OB (rdS sg S i p) (fun d => OB (opMu m d ds) (fun x => OB (wrS sg S i p x.1) (fun S' => .ok x.2 S') .no) .no) .no := by
  unfold mutU
  dsimp only
  cases rdS sg S i p with
  | none => rfl
  | some d =>
    dsimp only [OB_some]
    cases opMu m d ds with
    | none => rfl
    | some x =>
      dsimp only [OB_some]
      cases wrS sg S i p x.1 <;> rfl
/-! expressions -/
def rV (S : Sl) (i : Nat) (o : Option (Option D)) : R D := match o with
  | some (some d) => if d.pure then .ok d S else if d.movable then .ok d (S.set i none) else .no
  | _ => .no
theorem rV_s (S : Sl) (i : Nat) (d : D) : rV S i (some (some d)) = if d.pure = true then .ok d S else if d.movable = true then .ok d (S.set i none) else .no := rfl
@[simp] theorem rV_s_s (S : Sl) (i : Nat) (d : D) : rV S i (some (some d)) = if d.pure = true then .ok d S else if d.movable = true then .ok d (S.set i none) else .no := Eq.trans rfl rfl
@[simp] theorem evE_var (i : Nat) (s : Option D) (S : Sl) : evE sg cf (.var i) (s :: S) = rV (s :: S) i (s :: S)[i]? := by rw [evE]; rfl
@[simp] theorem evE_cst (d : D) (s : Option D) (S : Sl) : evE sg cf (.cst d) (s :: S) = .ok d (s :: S) := by rw [evE]
@[simp] theorem evE_nop (s : Option D) (S : Sl) : evE sg cf .nop (s :: S) = .ok .non (s :: S) := by rw [evE]
@[simp] theorem evE_glb (g : Nat) (s : Option D) (S : Sl) : evE sg cf (.glb g) (s :: S) = .of (s :: S) (sg.glob g) := by rw [evE]
@[simp] theorem evE_bin (o : BOp) (a b : Ex) (s : Option D) (S : Sl) : evE sg cf (.bin o a b) (s :: S) = (argOf sg (s :: S) a (evE sg cf a (s :: S))).bind fun x S1 => (argOf sg S1 b (evE sg cf b S1)).bind fun y S2 => OB (argD sg S2 x) (fun d => OB (argD sg S2 y) (fun e => .of S2 (opB o d e)) .no) .no := by
  rw [evE]; congr; funext x S1; congr; funext y S2
  cases argD sg S2 x <;> cases argD sg S2 y <;> rfl
@[simp] theorem evE_un (o : UOp) (a : Ex) (s : Option D) (S : Sl) : evE sg cf (.un o a) (s :: S) = (evE sg cf a (s :: S)).bind fun d S1 => .of S1 (opU o d) := by rw [evE]
@[simp] theorem evE_cmp (o : COp) (a b : Ex) (s : Option D) (S : Sl) : evE sg cf (.cmp o a b) (s :: S) = (argOf sg (s :: S) a (evE sg cf a (s :: S))).bind fun x S1 => (argOf sg S1 b (evE sg cf b S1)).bind fun y S2 => OB (argD sg S2 x) (fun d => OB (argD sg S2 y) (fun e => .of S2 ((opC o d e).map .bl)) .no) .no := by
  rw [evE]; congr; funext x S1; congr; funext y S2
  cases argD sg S2 x <;> cases argD sg S2 y <;> rfl
def oB (o : Option Bool) (a b n : R D) : R D := match o with
  | some true => a
  | some false => b
  | none => n
theorem oB_t (a b n : R D) : oB (some true) a b n = a := rfl
@[simp] theorem oB_t_s (a b n : R D) : oB (some true) a b n = a := Eq.trans rfl rfl
theorem oB_f (a b n : R D) : oB (some false) a b n = b := rfl
@[simp] theorem oB_f_s (a b n : R D) : oB (some false) a b n = b := Eq.trans rfl rfl
theorem oB_s (c : Bool) (a b n : R D) : oB (some c) a b n = if c = true then a else b := by cases c <;> rfl
@[simp] theorem oB_dec (p : Prop) [Decidable p] (a b n : R D) : oB (some (decide p)) a b n = if p then a else b := by
  by_cases h : p
  · rw [decide_eq_true h, oB_t, if_pos h]
  · rw [decide_eq_false h, oB_f, if_neg h]
@[simp] theorem evE_chain (o o2 : COp) (a b c : Ex) (s : Option D) (S : Sl) : evE sg cf (.chain o o2 a b c) (s :: S) = (evE sg cf a (s :: S)).bind fun x S1 => (evE sg cf b S1).bind fun y S2 => if (x.pure && y.pure) = true then oB (opC o x y) ((evE sg cf c S2).bind fun z S3 => if z.pure = true then .of S3 ((opC o2 y z).map .bl) else .no) (.ok (.bl false) S2) .no else .no := by
  rw [evE]; congr; funext x S1; congr; funext y S2
  cases x.pure && y.pure
  · rw [if_neg (by simp)]
  · rw [if_pos rfl]
    cases opC o x y with
    | none => rfl
    | some b => cases b <;> rfl
@[simp] theorem evE_and (a b : Ex) (s : Option D) (S : Sl) : evE sg cf (.and_ a b) (s :: S) = (evE sg cf a (s :: S)).bind fun d S1 => tst d (evE sg cf b S1) (.ok (.bl false) S1) .no := by rw [evE]; rfl
@[simp] theorem evE_or (a b : Ex) (s : Option D) (S : Sl) : evE sg cf (.or_ a b) (s :: S) = (evE sg cf a (s :: S)).bind fun d S1 => tst d (.ok (.bl true) S1) (evE sg cf b S1) .no := by rw [evE]; rfl
@[simp] theorem evE_not (a : Ex) (s : Option D) (S : Sl) : evE sg cf (.not_ a) (s :: S) = (evE sg cf a (s :: S)).bind fun d S1 => tst d (.ok (.bl false) S1) (.ok (.bl true) S1) .no := by
  rw [evE]; congr; funext d S1
  cases d with
  | bl b => cases b <;> rfl
  | _ => rfl
@[simp] theorem evE_ife (c a b : Ex) (s : Option D) (S : Sl) : evE sg cf (.ife c a b) (s :: S) = (evE sg cf c (s :: S)).bind fun d S1 => tst d (evE sg cf a S1) (evE sg cf b S1) .no := by rw [evE]; rfl
@[simp] theorem evE_tup (es : Exs) (s : Option D) (S : Sl) : evE sg cf (.tup es) (s :: S) = (evX sg cf es (s :: S)).bind fun ds S1 => if (allPure ds && decide (ds.length ≤ lim)) = true then .ok (.tup ds) S1 else .no := by rw [evE]
@[simp] theorem evE_lst (es : Exs) (s : Option D) (S : Sl) : evE sg cf (.lst es) (s :: S) = (evX sg cf es (s :: S)).bind fun ds S1 => if (allPure ds && decide (ds.length ≤ lim)) = true then .ok (.lst ds) S1 else .no := by rw [evE]
@[simp] theorem evE_dk0 (s : Option D) (S : Sl) : evE sg cf .dk0 (s :: S) = .ok (.dk []) (s :: S) := by rw [evE]
@[simp] theorem evE_dt0 (s : Option D) (S : Sl) : evE sg cf .dt0 (s :: S) = .ok (.dt []) (s :: S) := by rw [evE]
@[simp] theorem evE_slc (a lo hi : Ex) (s : Option D) (S : Sl) : evE sg cf (.slc a lo hi) (s :: S) = (argOf sg (s :: S) a (evE sg cf a (s :: S))).bind fun x S1 => (pOf lo (evE sg cf lo S1)).bind fun l S2 => (pOf hi (evE sg cf hi S2)).bind fun h S3 => OB (argD sg S3 x) (fun d => .of S3 (opSl d l h)) .no := by
  rw [evE]; congr; funext x S1; congr; funext l S2; congr; funext h S3
  cases argD sg S3 x <;> rfl
@[simp] theorem pOf_eq (e : Ex) (r : R D) : pOf e r = r.bind fun d S => OB (partOf e d) (fun o => .ok o S) .no := by
  unfold pOf; congr; funext d S
  cases partOf e d <;> rfl
@[simp] theorem partOf_nop (d : D) : partOf .nop d = some none := by cases d <;> rfl
@[simp] theorem partOf_cst (c : D) (i : Int) : partOf (.cst c) (.int i) = some (some i) := rfl
@[simp] theorem partOf_var (c : Nat) (i : Int) : partOf (.var c) (.int i) = some (some i) := rfl
@[simp] theorem partOf_bin (o : BOp) (a b : Ex) (i : Int) : partOf (.bin o a b) (.int i) = some (some i) := rfl
@[simp] theorem partOf_un (o : UOp) (a : Ex) (i : Int) : partOf (.un o a) (.int i) = some (some i) := rfl
@[simp] theorem partOf_call (o : Nat) (a : Exs) (i : Int) : partOf (.call o a) (.int i) = some (some i) := rfl
@[simp] theorem evE_att (a : Ex) (f : Nat) (s : Option D) (S : Sl) : evE sg cf (.att a f) (s :: S) = OB (pathOf (.att a f)) (fun q => OB (rdS sg (s :: S) q.1 q.2) (fun d => if d.pure = true then .ok d (s :: S) else .no) .no) .no := by
  rw [evE]
  cases pathOf (.att a f) with
  | none => rfl
  | some q =>
    dsimp only [OB_some]
    cases rdS sg (s :: S) q.1 q.2 <;> rfl
@[simp] theorem evE_isi (a : Ex) (ts : List Ty) (s : Option D) (S : Sl) : evE sg cf (.isi a ts) (s :: S) = (argOf sg (s :: S) a (evE sg cf a (s :: S))).bind fun x S1 => OB (argD sg S1 x) (fun d => .of S1 ((isTys ts d).map .bl)) .no := by
  rw [evE]; congr; funext x S1
  cases argD sg S1 x <;> rfl
@[simp] theorem evE_call (f : Nat) (es : Exs) (s : Option D) (S : Sl) : evE sg cf (.call f es) (s :: S) = (evA sg cf es (s :: S)).bind fun as S1 => callU sg cf f as S1 := by rw [evE]
def oO (c : Nat) (o : Option D) (r : R D) : R D := match o with
  | some (.obj c' _) => if c' = c then r else .no
  | _ => .no
theorem oO_s (c c' : Nat) (fs : List D) (r : R D) : oO c (some (.obj c' fs)) r = if c' = c then r else .no := rfl
@[simp] theorem oO_s_s (c c' : Nat) (fs : List D) (r : R D) : oO c (some (.obj c' fs)) r = if c' = c then r else .no := Eq.trans rfl rfl
@[simp] theorem evE_meth (c f : Nat) (o : Ex) (es : Exs) (s : Option D) (S : Sl) : evE sg cf (.meth c f o es) (s :: S) = (argOf sg (s :: S) o (evE sg cf o (s :: S))).bind fun x S1 => oO c (argD sg S1 x) ((evA sg cf es S1).bind fun as S2 => callU sg cf f (x :: as) S2) := by
  rw [evE]; refine congrArg (R.bind _) ?_; funext x S1
  cases argD sg S1 x with
  | none => rfl
  | some d => cases d <;> rfl
@[simp] theorem evE_new (c f : Nat) (es : Exs) (s : Option D) (S : Sl) : evE sg cf (.new c f es) (s :: S) = (evX sg cf es (s :: S)).bind fun ds S1 => newU cf c f ds S1 := by rw [evE]
@[simp] theorem evE_bi (b : Bi) (es : Exs) (s : Option D) (S : Sl) : evE sg cf (.bi b es) (s :: S) = (evA sg cf es (s :: S)).bind fun as S1 => OB (argDs sg S1 as) (fun ds => .of S1 (opBi b ds)) .no := by
  rw [evE]; congr; funext x S1
  cases argDs sg S1 x <;> rfl
def oL (o : Option D) (r : R D) : R D := match o with
  | some (.lst _) => r
  | _ => .no
theorem oL_s (xs : List D) (r : R D) : oL (some (.lst xs)) r = r := rfl
@[simp] theorem oL_s_s (xs : List D) (r : R D) : oL (some (.lst xs)) r = r := Eq.trans rfl rfl
@[simp] theorem evE_mut (m : Mu) (o : Ex) (es : Exs) (s : Option D) (S : Sl) : evE sg cf (.mut m o es) (s :: S) = (argOf sg (s :: S) o (evE sg cf o (s :: S))).bind fun x S1 => oL (argD sg S1 x) ((evA sg cf es S1).bind fun as S2 => OB (argDs sg S2 as) (fun ds => mutU sg m x ds S2) .no) := by
  rw [evE]; congr; funext x S1
  cases argD sg S1 x with
  | none => rfl
  | some d =>
    cases d <;> try rfl
    show R.bind _ _ = R.bind _ _
    congr 1; funext as S2
    cases argDs sg S2 as <;> rfl
@[simp] theorem evE_comp (ts : List Nat) (k : IK) (es : Exs) (own : List Nat) (c e : Ex) (s : Option D) (S : Sl) : evE sg cf (.comp ts k es own c e) (s :: S) = (evA sg cf es (s :: S)).bind fun as S1 => OB (argDs sg S1 as) (fun ds => OB (itemsOf k ds) (fun xs => OB (lockZ sg k es as S1) (fun q => if ownOk S1 own = true then (loopC (evE sg cf c) (evE sg cf e) ts own xs [] (wipeS q.1 own)).bind fun d S3 => OB (unlockS sg as q.2 (backS S1 own S3)) (fun S4 => .ok d S4) .no else .no) .no) .no) .no := by
  rw [evE]; congr; funext as S1
  cases argDs sg S1 as with
  | none => rfl
  | some ds =>
    simp only [OB_some]
    cases itemsOf k ds with
    | none => rfl
    | some xs =>
      cases lockZ sg k es as S1 with
      | none => rfl
      | some q =>
        cases h : ownOk S1 own with
        | false => rfl
        | true =>
          show R.bind _ _ = R.bind _ _
          congr 1; funext d S3
          cases unlockS sg as q.2 (backS S1 own S3) <;> rfl
@[simp] theorem evE_sdf (o a b : Ex) (s : Option D) (S : Sl) : evE sg cf (.sdf o a b) (s :: S) = (argOf sg (s :: S) o (evE sg cf o (s :: S))).bind fun x S1 => if isDk (argD sg S1 x) = true then (evE sg cf a S1).bind fun k S2 => (evE sg cf b S2).bind fun v S3 => sdfU sg x k v S3 else .no := by rw [evE]
@[simp] theorem evE_dgt (o a b : Ex) (s : Option D) (S : Sl) : evE sg cf (.dgt o a b) (s :: S) = (argOf sg (s :: S) o (evE sg cf o (s :: S))).bind fun x S1 => if isDk (argD sg S1 x) = true then (evE sg cf a S1).bind fun k S2 => (evE sg cf b S2).bind fun v S3 => dgtU sg x k v S3 else .no := by rw [evE]
@[simp] theorem evE_dup (o a : Ex) (s : Option D) (S : Sl) : evE sg cf (.dup o a) (s :: S) = (argOf sg (s :: S) o (evE sg cf o (s :: S))).bind fun x S1 => if isDk (argD sg S1 x) = true then (argOf sg S1 a (evE sg cf a S1)).bind fun y S2 => dupU sg x y S2 else .no := by rw [evE]
@[simp] theorem evE_inc (a : Ex) (ls : List (List Int)) (s : Option D) (S : Sl) : evE sg cf (.inc a ls) (s :: S) = (argOf sg (s :: S) a (evE sg cf a (s :: S))).bind fun x S1 => OB (argD sg S1 x) (fun d => if (shp 60 d && (decide (ls.length ≤ 100) && ls.all fun l => decide (l.length ≤ 100))) = true then .ok (.bl (ls.any fun l => deq (.lst (l.map .int)) d)) S1 else .no) .no := by
  rw [evE]; congr; funext x S1
  cases argD sg S1 x <;> rfl
def lzD : List D → Option D
  | [d, e] => match tupI d, tupI e with
    | some xs, some ys => some (.lst ((xs.zip ys).map fun p => .tup [p.1, p.2]))
    | _, _ => none
  | _ => none
@[simp] theorem lzD_tt (xs ys : List D) : lzD [.tup xs, .tup ys] = some (.lst ((xs.zip ys).map fun p => .tup [p.1, p.2])) := rfl
@[simp] theorem frzR_lst (xs : List D) (S : Sl) : frzR (.lst xs) S = .ok (.fls xs) S := Eq.trans rfl rfl
@[simp] theorem evE_bm (b : Bm) (o : Ex) (es : Exs) (s : Option D) (S : Sl) : evE sg cf (.bm b o es) (s :: S) = (argOf sg (s :: S) o (evE sg cf o (s :: S))).bind fun x S1 => if bmOf b (argD sg S1 x) = true then (evA sg cf es S1).bind fun as S2 => OB (argD sg S2 x) (fun d => OB (argDs sg S2 as) (fun ds => .of S2 (opBm b (d :: ds))) .no) .no else .no := by
  rw [evE]; congr; funext x S1
  split
  · congr; funext as S2
    cases argD sg S2 x with
    | none => rfl
    | some d => cases argDs sg S2 as <;> rfl
  · rfl
@[simp] theorem evE_frz (a : Ex) (s : Option D) (S : Sl) : evE sg cf (.frz a) (s :: S) = (evE sg cf a (s :: S)).bind frzR := by rw [evE]
@[simp] theorem evE_lz (es : Exs) (s : Option D) (S : Sl) : evE sg cf (.lz es) (s :: S) = (evA sg cf es (s :: S)).bind fun as S1 => OB (argDs sg S1 as) (fun ds => .of S1 (lzD ds)) .no := by
  rw [evE]; congr; funext as S1
  cases argDs sg S1 as with
  | none => rfl
  | some ds =>
    simp only [OB_some]
    match ds with
    | [] => rfl
    | [_] => rfl
    | [d, e] =>
      simp only [lzD]
      cases tupI d <;> cases tupI e <;> rfl
    | _ :: _ :: _ :: _ => rfl
@[simp] theorem isDk_dk (k : List (Ky × D)) : isDk (some (.dk k)) = true := rfl
@[simp] theorem isDk_dt (k : List (List Ky × D)) : isDk (some (.dt k)) = true := rfl
@[simp] theorem evE_dkd (es : Exs) (s : Option D) (S : Sl) : evE sg cf (.dkd es) (s :: S) = (evX sg cf es (s :: S)).bind fun ds S1 => OB (prsK ds) (fun l => if l.length ≤ 15 then .ok (.dk (kmerge [] l)) S1 else .no) .no := by
  rw [evE]; congr; funext ds S1
  cases prsK ds <;> rfl
@[simp] theorem evE_dtd (es : Exs) (s : Option D) (S : Sl) : evE sg cf (.dtd es) (s :: S) = (evX sg cf es (s :: S)).bind fun ds S1 => OB (prsT ds) (fun l => if l.length ≤ 15 then .ok (.dt (kmerge [] l)) S1 else .no) .no := by
  rw [evE]; congr; funext ds S1
  cases prsT ds <;> rfl
@[simp] theorem evX_nil (s : Option D) (S : Sl) : evX sg cf .nil (s :: S) = .ok [] (s :: S) := by rw [evX]
@[simp] theorem evX_cons (e : Ex) (es : Exs) (s : Option D) (S : Sl) : evX sg cf (.cons e es) (s :: S) = (evE sg cf e (s :: S)).bind fun d S1 => (evX sg cf es S1).bind fun ds S2 => .ok (d :: ds) S2 := by rw [evX]
@[simp] theorem evA_nil (s : Option D) (S : Sl) : evA sg cf .nil (s :: S) = .ok [] (s :: S) := by rw [evA]
@[simp] theorem evA_cons (e : Ex) (es : Exs) (s : Option D) (S : Sl) : evA sg cf (.cons e es) (s :: S) = (argOf sg (s :: S) e (evE sg cf e (s :: S))).bind fun d S1 => (evA sg cf es S1).bind fun ds S2 => .ok (d :: ds) S2 := by rw [evA]
/-! statements -/
@[simp] theorem evC_set (pn : List Nat) (i : Nat) (e : Ex) (s : Option D) (S : Sl) : evC sg cf pn (.set i e) (s :: S) = (evE sg cf e (s :: S)).fl fun d S1 => OB (setV pn S1 i d) (fun S2 => .nx S2) .no := by
  rw [evC]; congr; funext d S1
  cases setV pn S1 i d <;> rfl
theorem setV_eq (pn : List Nat) (s : Option D) (S : Sl) (i : Nat) (d : D) : setV pn (s :: S) i d = if i < (s :: S).length ∧ i ∉ pn then some ((s :: S).set i (some d)) else none := rfl
@[simp] theorem setV_eq_s (pn : List Nat) (s : Option D) (S : Sl) (i : Nat) (d : D) : setV pn (s :: S) i d = if i < (s :: S).length ∧ i ∉ pn then some ((s :: S).set i (some d)) else none := Eq.trans rfl rfl
@[simp] theorem evC_unp (pn : List Nat) (i j : Nat) (is : List Nat) (e : Ex) (s : Option D) (S : Sl) : evC sg cf pn (.unp (i :: j :: is) e) (s :: S) = (evE sg cf e (s :: S)).fl fun d S1 => OB (bindN pn (i :: j :: is) d S1) (fun S2 => .nx S2) .no := by
  rw [evC]; congr; funext d S1
  dsimp only
  cases bindN pn (i :: j :: is) d S1 <;> rfl
@[simp] theorem bindN_1 (pn : List Nat) (i : Nat) (x : D) (S : Sl) : bindN pn [i] x S = setV pn S i x := by cases x <;> rfl
@[simp] theorem bindN_2 (pn : List Nat) (i j : Nat) (x y : D) (S : Sl) : bindN pn [i, j] (.tup [x, y]) S = OB (setV pn S i x) (fun S1 => setV pn S1 j y) none := by
  show (setV pn S i x).bind _ = _
  cases setV pn S i x <;> rfl
@[simp] theorem bindN_2l (pn : List Nat) (i j : Nat) (x y : D) (S : Sl) : bindN pn [i, j] (.lst [x, y]) S = OB (setV pn S i x) (fun S1 => setV pn S1 j y) none := by
  show (setV pn S i x).bind _ = _
  cases setV pn S i x <;> rfl
@[simp] theorem bindN_3l (pn : List Nat) (i j k : Nat) (x y z : D) (S : Sl) : bindN pn [i, j, k] (.lst [x, y, z]) S = OB (setV pn S i x) (fun S1 => OB (setV pn S1 j y) (fun S2 => setV pn S2 k z) none) none := by
  show ((setV pn S i x).bind _).bind _ = _
  cases setV pn S i x with
  | none => rfl
  | some S1 => simp only [Option.bind_some, OB_some]; cases setV pn S1 j y <;> rfl
@[simp] theorem bindN_3 (pn : List Nat) (i j k : Nat) (x y z : D) (S : Sl) : bindN pn [i, j, k] (.tup [x, y, z]) S = OB (setV pn S i x) (fun S1 => OB (setV pn S1 j y) (fun S2 => setV pn S2 k z) none) none := by
  show ((setV pn S i x).bind _).bind _ = _
  cases setV pn S i x with
  | none => rfl
  | some S1 => simp only [Option.bind_some, OB_some]; cases setV pn S1 j y <;> rfl
@[simp] theorem bindN_4 (pn : List Nat) (i j k l : Nat) (x y z u : D) (S : Sl) : bindN pn [i, j, k, l] (.tup [x, y, z, u]) S = OB (setV pn S i x) (fun S1 => OB (setV pn S1 j y) (fun S2 => OB (setV pn S2 k z) (fun S3 => setV pn S3 l u) none) none) none := by
  show (((setV pn S i x).bind _).bind _).bind _ = _
  cases setV pn S i x with
  | none => rfl
  | some S1 =>
    simp only [Option.bind_some, OB_some]
    cases setV pn S1 j y with
    | none => rfl
    | some S2 => simp only [Option.bind_some, OB_some]; cases setV pn S2 k z <;> rfl
@[simp] theorem evC_par (pn : List Nat) (i j : Nat) (a b : Ex) (s : Option D) (S : Sl) : evC sg cf pn (.par i j a b) (s :: S) = (evE sg cf a (s :: S)).fl fun x S1 => (evE sg cf b S1).fl fun y S2 => OB (setV pn S2 i x) (fun S3 => OB (setV pn S3 j y) (fun S4 => .nx S4) .no) .no := by
  rw [evC]; congr; funext x S1; congr; funext y S2
  cases setV pn S2 i x with
  | none => rfl
  | some S3 => simp only [Option.bind_some, OB_some]; cases setV pn S3 j y <;> rfl
@[simp] theorem evC_sts (pn : List Nat) (o i e : Ex) (s : Option D) (S : Sl) : evC sg cf pn (.sts o i e) (s :: S) = (evE sg cf e (s :: S)).fl fun v S1 => (argOf sg S1 o (evE sg cf o S1)).fl fun x S2 => (evE sg cf i S2).fl fun k S3 => stsU sg v x k S3 := by rw [evC]
def stsD (sg : Sg) (v k : D) (r : Nat) (p : List Nat) (S3 : Sl) (d : D) : Fl := match d with
  | .lst xs => match k with
    | .int n => if (v.pure && decide (0 ≤ n ∧ n < xs.length)) = true then OB (wrS sg S3 r p (.lst (xs.set n.toNat v))) (fun S4 => .nx S4) .no else .no
    | _ => .no
  | .dk kvs => OB (kyOf k) (fun q => if (v.pure && decide (kvs.length < lim)) = true then OB (wrS sg S3 r p (.dk (kput kvs q v))) (fun S4 => .nx S4) .no else .no) .no
  | .dt kvs => OB (tkOf k) (fun q => if (v.pure && decide (kvs.length < lim)) = true then OB (wrS sg S3 r p (.dt (kput kvs q v))) (fun S4 => .nx S4) .no else .no) .no
  | _ => .no
@[simp] theorem stsU_pl (v : D) (r : Nat) (p : List Nat) (k : D) (S : Sl) : stsU sg v (.pl r p) k S = OB (rdS sg S r p) (fun d => stsD sg v k r p S d) .no := by
  unfold stsU
  dsimp only
  cases rdS sg S r p with
  | none => rfl
  | some d =>
    cases d with
    | lst xs =>
      cases k with
      | int n =>
        dsimp only [OB_some, stsD]
        split
        · cases wrS sg S r p (.lst (xs.set n.toNat v)) <;> rfl
        · rfl
      | _ => rfl
    | dk kvs =>
      dsimp only [OB_some, stsD]
      cases kyOf k with
      | none => rfl
      | some q =>
        dsimp only [OB_some]
        split
        · cases wrS sg S r p (.dk (kput kvs q v)) <;> rfl
        · rfl
    | dt kvs =>
      dsimp only [OB_some, stsD]
      cases tkOf k with
      | none => rfl
      | some q =>
        dsimp only [OB_some]
        split
        · cases wrS sg S r p (.dt (kput kvs q v)) <;> rfl
        · rfl
    | _ => rfl
theorem stsD_lst (v : D) (n : Int) (r : Nat) (p : List Nat) (S : Sl) (xs : List D) : stsD sg v (.int n) r p S (.lst xs) = if (v.pure && decide (0 ≤ n ∧ n < xs.length)) = true then OB (wrS sg S r p (.lst (xs.set n.toNat v))) (fun S4 => .nx S4) .no else .no := rfl
@[simp] theorem stsD_lst_s (v : D) (n : Int) (r : Nat) (p : List Nat) (S : Sl) (xs : List D) : stsD sg v (.int n) r p S (.lst xs) = if (v.pure && decide (0 ≤ n ∧ n < xs.length)) = true then OB (wrS sg S r p (.lst (xs.set n.toNat v))) (fun S4 => .nx S4) .no else .no := Eq.trans rfl rfl
theorem stsD_dk (v k : D) (r : Nat) (p : List Nat) (S : Sl) (xs : List (Ky × D)) : stsD sg v k r p S (.dk xs) = OB (kyOf k) (fun q => if (v.pure && decide (xs.length < lim)) = true then OB (wrS sg S r p (.dk (kput xs q v))) (fun S4 => .nx S4) .no else .no) .no := rfl
@[simp] theorem stsD_dk_s (v k : D) (r : Nat) (p : List Nat) (S : Sl) (xs : List (Ky × D)) : stsD sg v k r p S (.dk xs) = OB (kyOf k) (fun q => if (v.pure && decide (xs.length < lim)) = true then OB (wrS sg S r p (.dk (kput xs q v))) (fun S4 => .nx S4) .no else .no) .no := Eq.trans rfl rfl
theorem stsD_dt (v k : D) (r : Nat) (p : List Nat) (S : Sl) (xs : List (List Ky × D)) : stsD sg v k r p S (.dt xs) = OB (tkOf k) (fun q => if (v.pure && decide (xs.length < lim)) = true then OB (wrS sg S r p (.dt (kput xs q v))) (fun S4 => .nx S4) .no else .no) .no := rfl
@[simp] theorem stsD_dt_s (v k : D) (r : Nat) (p : List Nat) (S : Sl) (xs : List (List Ky × D)) : stsD sg v k r p S (.dt xs) = OB (tkOf k) (fun q => if (v.pure && decide (xs.length < lim)) = true then OB (wrS sg S r p (.dt (kput xs q v))) (fun S4 => .nx S4) .no else .no) .no := Eq.trans rfl rfl
def stfD (sg : Sg) (v : D) (f r : Nat) (p : List Nat) (S1 : Sl) (d : D) : Fl := match d with
  | .obj c fs => if v.movable && decide (fs.length < 1000) then OB (fieldIx (sg.flds c) f) (fun j => if j = fs.length then OB (wrS sg S1 r p (.obj c (fs ++ [v]))) (fun S2 => .nx S2) .no else
      OB fs[j]? (fun d => if d.rep = true then OB (wrS sg S1 r p (.obj c (fs.set j v))) (fun S2 => .nx S2) .no else .no) .no) .no else .no
  | _ => .no
@[simp] theorem stfD_obj (v : D) (f r : Nat) (p : List Nat) (S1 : Sl) (c : Nat) (fs : List D) : stfD sg v f r p S1 (.obj c fs) = if (v.movable && decide (fs.length < 1000)) = true then OB (fieldIx (sg.flds c) f) (fun j => if j = fs.length then OB (wrS sg S1 r p (.obj c (fs ++ [v]))) (fun S2 => .nx S2) .no else
      OB fs[j]? (fun d => if d.rep = true then OB (wrS sg S1 r p (.obj c (fs.set j v))) (fun S2 => .nx S2) .no else .no) .no) .no else .no := rfl
@[simp] theorem evC_stf (pn : List Nat) (o : Ex) (f : Nat) (e : Ex) (s : Option D) (S : Sl) : evC sg cf pn (.stf o f e) (s :: S) = (evE sg cf e (s :: S)).fl fun v S1 => OB (pathOf o) (fun q => OB (rdS sg S1 q.1 q.2) (fun d => stfD sg v f q.1 q.2 S1 d) .no) .no := by
  rw [evC]; congr; funext v S1
  cases pathOf o with
  | none => rfl
  | some q =>
    obtain ⟨r, p⟩ := q
    simp only [OB_some]
    cases rdS sg S1 r p with
    | none => rfl
    | some d =>
      cases d with
      | obj c fs =>
        simp only [OB_some, stfD]
        split
        · cases fieldIx (sg.flds c) f with
          | none => rfl
          | some j =>
            simp only [OB_some]
            split
            · cases wrS sg S1 r p (.obj c (fs ++ [v])) <;> rfl
            · cases fs[j]? with
              | none => rfl
              | some d =>
                simp only [OB_some]
                split
                · cases wrS sg S1 r p (.obj c (fs.set j v)) <;> rfl
                · rfl
        · rfl
      | _ => rfl
@[simp] theorem evC_exp (pn : List Nat) (e : Ex) (s : Option D) (S : Sl) : evC sg cf pn (.exp e) (s :: S) = (evE sg cf e (s :: S)).fl fun _ S1 => .nx S1 := by rw [evC]
@[simp] theorem evC_ret (pn : List Nat) (e : Ex) (s : Option D) (S : Sl) : evC sg cf pn (.ret e) (s :: S) = (evE sg cf e (s :: S)).fl fun d S1 => .rt d S1 := by rw [evC]
@[simp] theorem evC_retN (pn : List Nat) (s : Option D) (S : Sl) : evC sg cf pn .retN (s :: S) = .rt .non (s :: S) := by rw [evC]
@[simp] theorem evC_pass (pn : List Nat) (s : Option D) (S : Sl) : evC sg cf pn .pass (s :: S) = .nx (s :: S) := by rw [evC]
@[simp] theorem evC_brk (pn : List Nat) (s : Option D) (S : Sl) : evC sg cf pn .brk (s :: S) = .bk (s :: S) := by rw [evC]
@[simp] theorem evC_cnt (pn : List Nat) (s : Option D) (S : Sl) : evC sg cf pn .cnt (s :: S) = .ct (s :: S) := by rw [evC]
@[simp] theorem evC_ite (pn : List Nat) (c : Ex) (a b : Cms) (s : Option D) (S : Sl) : evC sg cf pn (.ite c a b) (s :: S) = (evE sg cf c (s :: S)).fl fun d S1 => tst d (evCs sg cf pn a S1) (evCs sg cf pn b S1) .no := by rw [evC]; rfl
@[simp] theorem evC_rais (pn : List Nat) (c : Nat) (s : Option D) (S : Sl) : evC sg cf pn (.rais c) (s :: S) = .er c (s :: S) := by rw [evC]
@[simp] theorem evC_for (pn ts : List Nat) (k : IK) (es : Exs) (body : Cms) (s : Option D) (S : Sl) : evC sg cf pn (.for_ ts k es body) (s :: S) = (evA sg cf es (s :: S)).fl fun as S1 => OB (argDs sg S1 as) (fun ds => OB (itemsOf k ds) (fun xs => OB (lockS sg as S1) (fun q => (loopF (q.2 ++ pn) (evCs sg cf (q.2 ++ pn) body) ts xs q.1).unl q.2 (unlockS sg as q.2)) .no) .no) .no := by
  rw [evC]; congr; funext as S1
  cases argDs sg S1 as with
  | none => rfl
  | some ds =>
    simp only [OB_some]
    cases itemsOf k ds with
    | none => rfl
    | some xs => cases lockS sg as S1 <;> rfl
@[simp] theorem evC_while (pn : List Nat) (c : Ex) (body : Cms) (s : Option D) (S : Sl) : evC sg cf pn (.while_ c body) (s :: S) = loopW (evE sg cf c) (evCs sg cf pn body) loopMax (s :: S) := by rw [evC]
@[simp] theorem evCs_nil (pn : List Nat) (s : Option D) (S : Sl) : evCs sg cf pn .nil (s :: S) = .nx (s :: S) := by rw [evCs]
@[simp] theorem evCs_cons (pn : List Nat) (c : Cm) (cs : Cms) (s : Option D) (S : Sl) : evCs sg cf pn (.cons c cs) (s :: S) = (evC sg cf pn c (s :: S)).sq (evCs sg cf pn cs) := by
  rw [evCs]; cases evC sg cf pn c S <;> rfl
@[simp] theorem unl_nil_nx (f : Sl → Option Sl) (S : Sl) : (Fl.nx S).unl [] f = OB (f S) (fun S' => .nx S') .no := by
  unfold Fl.unl
  dsimp only
  cases f S <;> rfl
@[simp] theorem unl_nx (ls : List Nat) (f : Sl → Option Sl) (S : Sl) : (Fl.nx S).unl ls f = OB (f S) (fun S' => .nx S') .no := by
  unfold Fl.unl
  dsimp only
  cases f S <;> rfl
@[simp] theorem unl_rt (ls : List Nat) (f : Sl → Option Sl) (d : D) (S : Sl) : (Fl.rt d S).unl ls f = OB (f S) (fun S' => .rt d S') .no := by
  unfold Fl.unl
  dsimp only
  cases f S <;> rfl
theorem unl_er (f : Sl → Option Sl) (c : Nat) (S : Sl) : (Fl.er c S).unl [] f = .er c S := rfl
@[simp] theorem unl_er_s (f : Sl → Option Sl) (c : Nat) (S : Sl) : (Fl.er c S).unl [] f = .er c S := Eq.trans rfl rfl
end
/-! operations -/
@[simp] theorem opB_add (i j : Int) : opB .add (.int i) (.int j) = some (.int (i + j)) := Eq.trans rfl rfl
@[simp] theorem opB_sub (i j : Int) : opB .sub (.int i) (.int j) = some (.int (i - j)) := Eq.trans rfl rfl
@[simp] theorem opB_mul (i j : Int) : opB .mul (.int i) (.int j) = if i.natAbs < 18446744073709551616 ∨ j.natAbs < 18446744073709551616 then some (.int (i * j)) else none := Eq.trans rfl rfl
theorem opB_mulT (xs : List D) (k : Int) : opB .mul (.tup xs) (.int k) = if xs.isEmpty = false ∧ 2 ≤ k ∧ k ≤ 1000 ∧ xs.length ≤ 1000 then some (.tup (List.replicate k.toNat xs).flatten) else none := Eq.trans rfl rfl
@[simp] theorem opB_fdiv (i j : Int) : opB .fdiv (.int i) (.int j) = if 0 < j ∧ (j < 1073741824 ∨ j.natAbs.log2 < 9000) then some (.int (i / j)) else none := Eq.trans rfl rfl
@[simp] theorem opB_mod (i j : Int) : opB .mod (.int i) (.int j) = if 0 < j then some (.int (i % j)) else none := Eq.trans rfl rfl
@[simp] theorem opB_pow (i j : Int) : opB .pow (.int i) (.int j) = if 0 ≤ j ∧ j ≤ 1000000 ∧ i.natAbs < 18446744073709551616 then some (.int (i ^ j.toNat)) else none := Eq.trans rfl rfl
@[simp] theorem opB_shl (i j : Int) : opB .shl (.int i) (.int j) = if 0 ≤ j ∧ j ≤ 1000000 ∧ i.natAbs < 18446744073709551616 then some (.int (i * 2 ^ j.toNat)) else none := Eq.trans rfl rfl
@[simp] theorem opB_shr (i j : Int) : opB .shr (.int i) (.int j) = if 0 ≤ j then some (.int (i / 2 ^ j.toNat)) else none := Eq.trans rfl rfl
@[simp] theorem opB_band1 (i : Int) : opB .band (.int i) (.int 1) = some (.int (i % 2)) := Eq.trans rfl rfl
theorem opB_band (i j : Int) : opB .band (.int i) (.int j) = if j = 1 then some (.int (i % 2)) else if 0 ≤ i ∧ 0 ≤ j then some (.int (i.toNat &&& j.toNat : Nat)) else none := Eq.trans rfl rfl
theorem opB_bor (i j : Int) : opB .bor (.int i) (.int j) = if 0 ≤ i ∧ 0 ≤ j then some (.int (i.toNat ||| j.toNat : Nat)) else none := Eq.trans rfl rfl
theorem opB_bxor (i j : Int) : opB .bxor (.int i) (.int j) = if 0 ≤ i ∧ 0 ≤ j then some (.int (i.toNat ^^^ j.toNat : Nat)) else none := Eq.trans rfl rfl
@[simp] theorem opB_addT (xs ys : List D) : opB .add (.tup xs) (.tup ys) = if xs.length + ys.length ≤ lim then some (.tup (xs ++ ys)) else none := Eq.trans rfl rfl
@[simp] theorem opB_addL (xs ys : List D) : opB .add (.lst xs) (.lst ys) = if xs.length + ys.length ≤ lim then some (.lst (xs ++ ys)) else none := Eq.trans rfl rfl
@[simp] theorem opB_ixT (xs : List D) (i : Int) : opB .ix (.tup xs) (.int i) = atZ xs i := Eq.trans rfl rfl
@[simp] theorem opB_ixKT (xs : List D) (i : Int) : opB .ix (.ktup xs) (.int i) = atZ xs i := Eq.trans rfl rfl
@[simp] theorem opB_ixF (xs : List D) (i : Int) : opB .ix (.fls xs) (.int i) = atZ xs i := Eq.trans rfl rfl
@[simp] theorem opB_ixL (xs : List D) (i : Int) : opB .ix (.lst xs) (.int i) = atZ xs i := Eq.trans rfl rfl
@[simp] theorem opB_ixLL (xs : List D) (i : Int) : opB .ix (.lk (.lst xs)) (.int i) = atZ xs i := Eq.trans rfl rfl
@[simp] theorem opB_ixK (xs : List (Ky × D)) (k : D) : opB .ix (.dk xs) k = (kyOf k).bind (kget xs) := by cases k <;> rfl
@[simp] theorem opB_ixKL (xs : List (Ky × D)) (k : D) : opB .ix (.lk (.dk xs)) k = (kyOf k).bind (kget xs) := by cases k <;> rfl
@[simp] theorem opB_ixD (xs : List (List Ky × D)) (k : D) : opB .ix (.dt xs) k = (tkOf k).bind (kget xs) := by cases k <;> rfl
@[simp] theorem opB_ixDL (xs : List (List Ky × D)) (k : D) : opB .ix (.lk (.dt xs)) k = (tkOf k).bind (kget xs) := by cases k <;> rfl
@[simp] theorem kyOf_int (i : Int) : kyOf (.int i) = some (.inl i) := Eq.trans rfl rfl
@[simp] theorem kyOf_str (i : Str) : kyOf (.str i) = some (.inr i) := Eq.trans rfl rfl
@[simp] theorem tkOf_tup (xs : List D) : tkOf (.tup xs) = kysOf xs := Eq.trans rfl rfl
@[simp] theorem kysOf_nil : kysOf [] = some [] := Eq.trans rfl rfl
@[simp] theorem kysOf_cons (x : D) (xs : List D) : kysOf (x :: xs) = OB (kyOf x) (fun k => OB (kysOf xs) (fun ks => some (k :: ks)) none) none := by
  show (match kyOf x, kysOf xs with
    | some k, some ks => some (k :: ks)
    | _, _ => none) = _
  cases kyOf x <;> cases kysOf xs <;> rfl
@[simp] theorem opU_neg (i : Int) : opU .neg (.int i) = some (.int (-i)) := Eq.trans rfl rfl
@[simp] theorem opC_lt (i j : Int) : opC .lt (.int i) (.int j) = some (decide (i < j)) := Eq.trans rfl rfl
@[simp] theorem opC_le (i j : Int) : opC .le (.int i) (.int j) = some (decide (i ≤ j)) := Eq.trans rfl rfl
@[simp] theorem opC_gt (i j : Int) : opC .gt (.int i) (.int j) = some (decide (j < i)) := Eq.trans rfl rfl
@[simp] theorem opC_ge (i j : Int) : opC .ge (.int i) (.int j) = some (decide (j ≤ i)) := Eq.trans rfl rfl
@[simp] theorem opC_is (x : D) : opC .is_ x .non = isNon x := by cases x <;> rfl
@[simp] theorem opC_isB (a b : Bool) : opC .is_ (.bl a) (.bl b) = some (decide (a = b)) := Eq.trans rfl rfl
@[simp] theorem opC_isnB (a b : Bool) : opC .isn (.bl a) (.bl b) = some (!decide (a = b)) := Eq.trans rfl rfl
@[simp] theorem opC_isn (x : D) : opC .isn x .non = (isNon x).map (!·) := by cases x <;> rfl
@[simp] theorem opC_in (x y : D) : opC .in_ x y = opIn x y := by cases x <;> cases y <;> rfl
@[simp] theorem opC_nin (x y : D) : opC .nin x y = (opIn x y).map (!·) := by cases x <;> cases y <;> rfl
@[simp] theorem opC_eqI (i j : Int) : opC .eq (.int i) (.int j) = some (decide (i = j)) := by
  have e : opC .eq (.int i) (.int j) = if (shp 60 (.int i) && shp 60 (.int j)) = true then some (deq (.int i) (.int j)) else none := rfl
  rw [e]
  simp only [shp, deq, Bool.and_self, if_true]
  rfl
@[simp] theorem opC_neI (i j : Int) : opC .ne (.int i) (.int j) = some (decide (i ≠ j)) := by
  have e : opC .ne (.int i) (.int j) = if (shp 60 (.int i) && shp 60 (.int j)) = true then some (!deq (.int i) (.int j)) else none := rfl
  rw [e]
  simp only [shp, deq, Bool.and_self, if_true]
  show some (!(decide (i = j))) = _
  rw [decide_not]
theorem opC_eq (x y : D) : opC .eq x y = if (shp 60 x && shp 60 y) = true then some (deq x y) else none := by cases x <;> cases y <;> rfl
theorem opC_ne (x y : D) : opC .ne x y = if (shp 60 x && shp 60 y) = true then some (!deq x y) else none := by cases x <;> cases y <;> rfl
@[simp] theorem isNon_non : isNon .non = some true := Eq.trans rfl rfl
@[simp] theorem isNon_int (i : Int) : isNon (.int i) = some false := Eq.trans rfl rfl
@[simp] theorem isNon_tup (i : List D) : isNon (.tup i) = some false := Eq.trans rfl rfl
@[simp] theorem opIn_dk (x : D) (kvs : List (Ky × D)) : opIn x (.dk kvs) = OB (kyOf x) (fun k => some (kget kvs k).isSome) none := by
  unfold opIn
  cases h : kyOf x with
  | none => simp [dget, h]
  | some k => simp [dget, h]
@[simp] theorem opIn_dt (x : D) (kvs : List (List Ky × D)) : opIn x (.dt kvs) = OB (tkOf x) (fun k => some (kget kvs k).isSome) none := by
  unfold opIn
  cases h : tkOf x with
  | none => simp [dget, h]
  | some k => simp [dget, h]
@[simp] theorem opIn_tup (x : D) (ys : List D) : opIn x (.tup ys) = if (shp 60 x && shps 60 ys) = true then some (ys.any fun z => deq z x) else none := Eq.trans rfl rfl
@[simp] theorem opIn_ktup (x : D) (ys : List D) : opIn x (.ktup ys) = if (shp 60 x && shps 60 ys) = true then some (ys.any fun z => deq z x) else none := Eq.trans rfl rfl
@[simp] theorem opIn_lst (x : D) (ys : List D) : opIn x (.lst ys) = if (shp 60 x && shps 60 ys) = true then some (ys.any fun z => deq z x) else none := Eq.trans rfl rfl
@[simp] theorem items_tup (xs : List D) : (D.tup xs).items = some xs := Eq.trans rfl rfl
@[simp] theorem items_ktup (xs : List D) : (D.ktup xs).items = some xs := Eq.trans rfl rfl
@[simp] theorem items_fls (xs : List D) : (D.fls xs).items = some xs := Eq.trans rfl rfl
@[simp] theorem items_lst (xs : List D) : (D.lst xs).items = some xs := Eq.trans rfl rfl
@[simp] theorem items_lkl (xs : List D) : (D.lk (.lst xs)).items = some xs := Eq.trans rfl rfl
@[simp] theorem litems_fls (xs : List D) : (D.fls xs).litems = some xs := Eq.trans rfl rfl
@[simp] theorem litems_lst (xs : List D) : (D.lst xs).litems = some xs := Eq.trans rfl rfl
@[simp] theorem litems_tup (xs : List D) : (D.tup xs).litems = none := Eq.trans rfl rfl
@[simp] theorem bi_lenT (xs : List D) : opBi .len [.tup xs] = some (.int xs.length) := Eq.trans rfl rfl
@[simp] theorem bi_lenF (xs : List D) : opBi .len [.fls xs] = some (.int xs.length) := Eq.trans rfl rfl
@[simp] theorem bi_lenL (xs : List D) : opBi .len [.lst xs] = some (.int xs.length) := Eq.trans rfl rfl
@[simp] theorem bi_lenLL (xs : List D) : opBi .len [.lk (.lst xs)] = some (.int xs.length) := Eq.trans rfl rfl
@[simp] theorem bi_lenK (xs : List (Ky × D)) : opBi .len [.dk xs] = some (.int xs.length) := Eq.trans rfl rfl
@[simp] theorem bi_lenD (xs : List (List Ky × D)) : opBi .len [.dt xs] = some (.int xs.length) := Eq.trans rfl rfl
@[simp] theorem bi_tupL (xs : List D) : opBi .tuple [.lst xs] = some (.tup xs) := Eq.trans rfl rfl
@[simp] theorem bi_tupT (xs : List D) : opBi .tuple [.tup xs] = some (.tup xs) := Eq.trans rfl rfl
@[simp] theorem bi_tupD (kvs : List (List Ky × D)) : opBi .tuple [.dt kvs] = some (.tup (kvs.map fun kv => .tup (kv.1.map kyD))) := Eq.trans rfl rfl
@[simp] theorem bi_lstL (xs : List D) : opBi .list [.lst xs] = some (.lst xs) := Eq.trans rfl rfl
@[simp] theorem bi_lstT (xs : List D) : opBi .list [.tup xs] = some (.lst xs) := Eq.trans rfl rfl
@[simp] theorem bi_lstK (xs : List (Ky × D)) : opBi .list [.dk xs] = some (.lst (xs.map fun kv => kyD kv.1)) := Eq.trans rfl rfl
@[simp] theorem bi_lstD (xs : List (List Ky × D)) : opBi .list [.dt xs] = some (.lst (xs.map fun kv => .tup (kv.1.map kyD))) := Eq.trans rfl rfl
@[simp] theorem bi_max2 (i j : Int) : opBi .max [.int i, .int j] = some (.int (max i j)) := Eq.trans rfl rfl
@[simp] theorem bi_min2 (i j : Int) : opBi .min [.int i, .int j] = some (.int (min i j)) := Eq.trans rfl rfl
@[simp] theorem bi_abs (i : Int) : opBi .abs [.int i] = some (.int (i.natAbs : Nat)) := Eq.trans rfl rfl
@[simp] theorem bi_intI (i : Int) : opBi .int [.int i] = some (.int i) := Eq.trans rfl rfl
@[simp] theorem bi_intB (b : Bool) : opBi .int [.bl b] = some (.int (b2 b)) := Eq.trans rfl rfl
@[simp] theorem bi_all (xs : List D) : opBi .all [.lst xs] = (boolsOf xs).map fun l => .bl (l.all id) := by
  show ((some xs).bind boolsOf).map _ = _
  rfl
@[simp] theorem bi_any (xs : List D) : opBi .any [.lst xs] = (boolsOf xs).map fun l => .bl (l.any id) := by
  show ((some xs).bind boolsOf).map _ = _
  rfl
@[simp] theorem bi_sum (xs : List D) : opBi .sum [.lst xs] = (intsOf xs).map fun l => .int l.sum := by
  show ((some xs).bind intsOf).map _ = _
  rfl
@[simp] theorem bi_sumT (xs : List D) : opBi .sum [.tup xs] = (intsOf xs).map fun l => .int l.sum := Eq.trans rfl rfl
@[simp] theorem mu_app (xs : List D) (x : D) : opMu .append (.lst xs) [x] = if (x.pure && decide (xs.length < lim)) = true then some (.lst (xs ++ [x]), .non) else none := Eq.trans rfl rfl
@[simp] theorem mu_ext (xs ys : List D) : opMu .extend (.lst xs) [.lst ys] = if xs.length + ys.length ≤ lim then some (.lst (xs ++ ys), .non) else none := Eq.trans rfl rfl
@[simp] theorem mu_pop (xs : List D) : opMu .pop (.lst xs) [] = OB xs.getLast? (fun x => some (.lst xs.dropLast, x)) none := by
  unfold opMu
  dsimp only
  cases xs.getLast? <;> rfl
@[simp] theorem it_lst (xs : List D) : itemsOf .seq [.lst xs] = some xs := Eq.trans rfl rfl
@[simp] theorem it_tup (xs : List D) : itemsOf .seq [.tup xs] = some xs := Eq.trans rfl rfl
@[simp] theorem it_ktup (xs : List D) : itemsOf .seq [.ktup xs] = some xs := Eq.trans rfl rfl
@[simp] theorem it_fls (xs : List D) : itemsOf .seq [.fls xs] = some xs := Eq.trans rfl rfl
@[simp] theorem it_lkl (xs : List D) : itemsOf .seq [.lk (.lst xs)] = some xs := Eq.trans rfl rfl
@[simp] theorem it_dk (kvs : List (Ky × D)) : itemsOf .seq [.dk kvs] = some (kvs.map fun kv => kyD kv.1) := Eq.trans rfl rfl
@[simp] theorem it_lkk (kvs : List (Ky × D)) : itemsOf .seq [.lk (.dk kvs)] = some (kvs.map fun kv => kyD kv.1) := Eq.trans rfl rfl
@[simp] theorem it_dt (kvs : List (List Ky × D)) : itemsOf .seq [.dt kvs] = some (kvs.map fun kv => .tup (kv.1.map kyD)) := Eq.trans rfl rfl
@[simp] theorem it_lkt (kvs : List (List Ky × D)) : itemsOf .seq [.lk (.dt kvs)] = some (kvs.map fun kv => .tup (kv.1.map kyD)) := Eq.trans rfl rfl
@[simp] theorem it_rng1 (n : Int) : itemsOf .rng [.int n] = if -4611686018427387904 ≤ n ∧ n < 4611686018427387904 then some ((List.range n.toNat).map fun k => .int (k : Nat)) else none := Eq.trans rfl rfl
@[simp] theorem it_enum (d : D) : itemsOf .enum [d] = d.items.map (enumL 0) := Eq.trans rfl rfl
@[simp] theorem kyD_inl (i : Int) : kyD (.inl i) = .int i := Eq.trans rfl rfl
@[simp] theorem kyD_inr (i : Str) : kyD (.inr i) = .str i := Eq.trans rfl rfl
/-! locks -/
section
variable (sg : Sg)
theorem lock_nil (S : Sl) : lockS sg [] S = some (S, []) := rfl
@[simp] theorem lock_nil_s (S : Sl) : lockS sg [] S = some (S, []) := Eq.trans rfl rfl
@[simp] theorem lock_val (d : D) (r : List Arg) (S : Sl) : lockS sg (.val d :: r) S = if allVal (.val d :: r) = true then some (S, []) else none := by cases r <;> rfl
@[simp] theorem lock_2 (a b : Arg) (r : List Arg) (S : Sl) : lockS sg (a :: b :: r) S = if allVal (a :: b :: r) = true then some (S, []) else none := by cases a <;> rfl
@[simp] theorem allVal_nil : allVal [] = true := rfl
@[simp] theorem allVal_int (d : Int) (r : List Arg) : allVal (.val (.int d) :: r) = allVal r := rfl
@[simp] theorem allVal_lst (d : List D) (r : List Arg) : allVal (.val (.lst d) :: r) = allVal r := rfl
@[simp] theorem allVal_tup (d : List D) (r : List Arg) : allVal (.val (.tup d) :: r) = allVal r := rfl
@[simp] theorem allVal_ktup (d : List D) (r : List Arg) : allVal (.val (.ktup d) :: r) = allVal r := rfl
@[simp] theorem allVal_fls (d : List D) (r : List Arg) : allVal (.val (.fls d) :: r) = allVal r := rfl
@[simp] theorem allVal_str (d : Str) (r : List Arg) : allVal (.val (.str d) :: r) = allVal r := rfl
@[simp] theorem allVal_pl (i : Nat) (p : List Nat) (r : List Arg) : allVal (.pl i p :: r) = false := rfl
def lkD (sg : Sg) (i : Nat) (p : List Nat) (S : Sl) (d : D) : Option (Sl × List Nat) := match d with
  | .lk _ => some (S, [])
  | .lst xs => (wrS sg S i p (D.lk (D.lst xs))).map fun S' => (S', [i])
  | .dk xs => (wrS sg S i p (D.lk (D.dk xs))).map fun S' => (S', [i])
  | .dt xs => (wrS sg S i p (D.lk (D.dt xs))).map fun S' => (S', [i])
  | _ => none
@[simp] theorem lock_pl (i : Nat) (p : List Nat) (S : Sl) : lockS sg [.pl i p] S = OB (rdS sg S i p) (fun d => lkD sg i p S d) none := by
  unfold lockS
  dsimp only
  cases rdS sg S i p with
  | none => rfl
  | some d => cases d <;> rfl
theorem lkD_lk (i : Nat) (p : List Nat) (S : Sl) (d : D) : lkD sg i p S (.lk d) = some (S, []) := rfl
@[simp] theorem lkD_lk_s (i : Nat) (p : List Nat) (S : Sl) (d : D) : lkD sg i p S (.lk d) = some (S, []) := Eq.trans rfl rfl
theorem lkD_lst (i : Nat) (p : List Nat) (S : Sl) (xs : List D) : lkD sg i p S (.lst xs) = (wrS sg S i p (.lk (.lst xs))).map fun S' => (S', [i]) := rfl
@[simp] theorem lkD_lst_s (i : Nat) (p : List Nat) (S : Sl) (xs : List D) : lkD sg i p S (.lst xs) = (wrS sg S i p (.lk (.lst xs))).map fun S' => (S', [i]) := Eq.trans rfl rfl
theorem lkD_dk (i : Nat) (p : List Nat) (S : Sl) (xs : List (Ky × D)) : lkD sg i p S (.dk xs) = (wrS sg S i p (.lk (.dk xs))).map fun S' => (S', [i]) := rfl
@[simp] theorem lkD_dk_s (i : Nat) (p : List Nat) (S : Sl) (xs : List (Ky × D)) : lkD sg i p S (.dk xs) = (wrS sg S i p (.lk (.dk xs))).map fun S' => (S', [i]) := Eq.trans rfl rfl
@[simp] theorem lkD_dt_s (i : Nat) (p : List Nat) (S : Sl) (xs : List (List Ky × D)) : lkD sg i p S (.dt xs) = (wrS sg S i p (.lk (.dt xs))).map fun S' => (S', [i]) := Eq.trans rfl rfl
@[simp] theorem lockZ_seq (es : Exs) (as : List Arg) (S : Sl) : lockZ sg .seq es as S = lockS sg as S := by unfold lockZ; rfl
@[simp] theorem lockZ_rng (es : Exs) (as : List Arg) (S : Sl) : lockZ sg .rng es as S = lockS sg as S := by unfold lockZ; rfl
@[simp] theorem lockZ_enum (es : Exs) (as : List Arg) (S : Sl) : lockZ sg .enum es as S = lockS sg as S := by unfold lockZ; rfl
@[simp] theorem lockZ_zv (k : IK) (es : Exs) (d : D) (r : List Arg) (S : Sl) : lockZ sg k es (.val d :: r) S = lockS sg (.val d :: r) S := by
  unfold lockZ; split
  · rename_i h; cases h
  · rfl
/-- lock an own list -/
def lkL (sg : Sg) (i : Nat) (S : Sl) (d : D) : Option (Sl × List Nat) := match d with
  | .lst xs => (wrS sg S i [] (D.lk (D.lst xs))).map fun S' => (S', [i])
  | _ => none
@[simp] theorem lkL_lst (i : Nat) (S : Sl) (xs : List D) : lkL sg i S (.lst xs) = (wrS sg S i [] (.lk (.lst xs))).map fun S' => (S', [i]) := Eq.trans rfl rfl
@[simp] theorem lockZ_zp (i j i' : Nat) (p : List Nat) (d0 : D) (S : Sl) : lockZ sg .zip (.cons (.var i) (.cons (.var j) .nil)) [.pl i' p, .val d0] S = OB (rdS sg S j []) (fun d => if (d.pure && !d.lin && decide (i ≠ j)) = true then OB (rdS sg S i []) (fun x => lkL sg i S x) none else none) none := by
  unfold lockZ
  dsimp only
  cases rdS sg S j [] with
  | none => rfl
  | some d =>
    cases rdS sg S i [] with
    | none => simp
    | some x =>
      by_cases h : (d.pure && !d.lin && decide (i ≠ j)) = true
      · rw [OB_some, OB_some, if_pos h]; cases x <;> first | rfl | exact if_pos h
      · rw [OB_some, if_neg h]; cases x <;> first | rfl | exact if_neg h
theorem unlock_nil (as : List Arg) (S : Sl) : unlockS sg as [] S = some S := rfl
@[simp] theorem unlock_nil_s (as : List Arg) (S : Sl) : unlockS sg as [] S = some S := Eq.trans rfl rfl
def ulD : D → Option D
  | .lk d => some d
  | _ => none
@[simp] theorem ulD_lk (d : D) : ulD (.lk d) = some d := rfl
@[simp] theorem unlock_pl (l : Nat) (ls : List Nat) (i : Nat) (p : List Nat) (r : List Arg) (S : Sl) : unlockS sg (.pl i p :: r) (l :: ls) S = OB (rdS sg S i p) (fun d => OB (ulD d) (fun e => wrS sg S i p e) none) none := by
  unfold unlockS
  dsimp only
  cases rdS sg S i p with
  | none => rfl
  | some d => cases d <;> rfl
@[simp] theorem wipeS_nil (S : Sl) : wipeS S [] = S := rfl
@[simp] theorem wipeS_cons (S : Sl) (v : Nat) (vs : List Nat) : wipeS S (v :: vs) = (wipeS S vs).set v none := rfl
theorem backS_nil (S S' : Sl) : backS S [] S' = S' := rfl
@[simp] theorem backS_nil_s (S S' : Sl) : backS S [] S' = S' := Eq.trans rfl rfl
theorem backS_cons (S : Sl) (i : Nat) (r : List Nat) (S' : Sl) : backS S (i :: r) S' = (backS S r S').set i (S[i]?.getD none) := rfl
@[simp] theorem backS_cons_s (S : Sl) (i : Nat) (r : List Nat) (S' : Sl) : backS S (i :: r) S' = (backS S r S').set i (S[i]?.getD none) := Eq.trans rfl rfl
theorem ownOk_nil (S : Sl) : ownOk S [] = true := rfl
@[simp] theorem ownOk_nil_s (S : Sl) : ownOk S [] = true := Eq.trans rfl rfl
def okO (o : Option (Option D)) : Bool := match o with
  | some (some d) => d.pure
  | some none => true
  | none => false
@[simp] theorem okO_s (d : D) : okO (some (some d)) = d.pure := rfl
@[simp] theorem okO_n : okO (some none) = true := rfl
theorem ownOk_cons (S : Sl) (i : Nat) (r : List Nat) : ownOk S (i :: r) = (okO S[i]? && ownOk S r) := rfl
@[simp] theorem ownOk_cons_s (S : Sl) (i : Nat) (r : List Nat) : ownOk S (i :: r) = (okO S[i]? && ownOk S r) := Eq.trans rfl rfl
end
/-! how a def ends -/
def Fl.fin (r : Fl) (io : List Nat) (np : Nat) : FR := match r with
  | .rt d S => FR.ok d (outP S io np)
  | .nx S => FR.ok .non (outP S io np)
  | .er c S => FR.er c (outP S io np)
  | _ => FR.no
theorem fin_rt (d : D) (S : Sl) (io : List Nat) (np : Nat) : (Fl.rt d S).fin io np = FR.ok d (outP S io np) := rfl
@[simp] theorem fin_rt_s (d : D) (S : Sl) (io : List Nat) (np : Nat) : (Fl.rt d S).fin io np = FR.ok d (outP S io np) := Eq.trans rfl rfl
theorem fin_nx (S : Sl) (io : List Nat) (np : Nat) : (Fl.nx S).fin io np = FR.ok .non (outP S io np) := rfl
@[simp] theorem fin_nx_s (S : Sl) (io : List Nat) (np : Nat) : (Fl.nx S).fin io np = FR.ok .non (outP S io np) := Eq.trans rfl rfl
theorem fin_er (c : Nat) (S : Sl) (io : List Nat) (np : Nat) : (Fl.er c S).fin io np = FR.er c (outP S io np) := rfl
@[simp] theorem fin_er_s (c : Nat) (S : Sl) (io : List Nat) (np : Nat) : (Fl.er c S).fin io np = FR.er c (outP S io np) := Eq.trans rfl rfl
theorem runB_eq (sg : Sg) (cf : Nat → List D → FR) (fn : Fn) (ds : List D) : runB sg cf fn ds = if ds.length = fn.np then (evCs sg cf fn.io fn.body (ds.map some ++ List.replicate (fn.ns - fn.np) none)).fin fn.io fn.np else FR.no := by
  unfold runB
  split
  · cases evCs sg cf fn.io fn.body (ds.map some ++ List.replicate (fn.ns - fn.np) none) <;> rfl
  · rfl
theorem outP_0 (S : Sl) (io : List Nat) : outP S io 0 = [] := rfl
@[simp] theorem outP_0_s (S : Sl) (io : List Nat) : outP S io 0 = [] := Eq.trans rfl rfl
theorem outP_1 (S : Sl) (io : List Nat) : outP S io 1 = [if 0 ∈ io then S[0]?.getD none else none] := rfl
@[simp] theorem outP_1_s (S : Sl) (io : List Nat) : outP S io 1 = [if 0 ∈ io then S[0]?.getD none else none] := Eq.trans rfl rfl
theorem outP_2 (S : Sl) (io : List Nat) : outP S io 2 = [if 0 ∈ io then S[0]?.getD none else none, if 1 ∈ io then S[1]?.getD none else none] := rfl
@[simp] theorem outP_2_s (S : Sl) (io : List Nat) : outP S io 2 = [if 0 ∈ io then S[0]?.getD none else none, if 1 ∈ io then S[1]?.getD none else none] := Eq.trans rfl rfl
theorem outP_3 (S : Sl) (io : List Nat) : outP S io 3 = [if 0 ∈ io then S[0]?.getD none else none, if 1 ∈ io then S[1]?.getD none else none, if 2 ∈ io then S[2]?.getD none else none] := rfl
@[simp] theorem outP_3_s (S : Sl) (io : List Nat) : outP S io 3 = [if 0 ∈ io then S[0]?.getD none else none, if 1 ∈ io then S[1]?.getD none else none, if 2 ∈ io then S[2]?.getD none else none] := Eq.trans rfl rfl
theorem outP_4 (S : Sl) (io : List Nat) : outP S io 4 = [if 0 ∈ io then S[0]?.getD none else none, if 1 ∈ io then S[1]?.getD none else none, if 2 ∈ io then S[2]?.getD none else none, if 3 ∈ io then S[3]?.getD none else none] := rfl
@[simp] theorem outP_4_s (S : Sl) (io : List Nat) : outP S io 4 = [if 0 ∈ io then S[0]?.getD none else none, if 1 ∈ io then S[1]?.getD none else none, if 2 ∈ io then S[2]?.getD none else none, if 3 ∈ io then S[3]?.getD none else none] := Eq.trans rfl rfl
theorem outP_5 (S : Sl) (io : List Nat) : outP S io 5 = [if 0 ∈ io then S[0]?.getD none else none, if 1 ∈ io then S[1]?.getD none else none, if 2 ∈ io then S[2]?.getD none else none, if 3 ∈ io then S[3]?.getD none else none, if 4 ∈ io then S[4]?.getD none else none] := rfl
@[simp] theorem outP_5_s (S : Sl) (io : List Nat) : outP S io 5 = [if 0 ∈ io then S[0]?.getD none else none, if 1 ∈ io then S[1]?.getD none else none, if 2 ∈ io then S[2]?.getD none else none, if 3 ∈ io then S[3]?.getD none else none, if 4 ∈ io then S[4]?.getD none else none] := Eq.trans rfl rfl
theorem outP_6 (S : Sl) (io : List Nat) : outP S io 6 = [if 0 ∈ io then S[0]?.getD none else none, if 1 ∈ io then S[1]?.getD none else none, if 2 ∈ io then S[2]?.getD none else none, if 3 ∈ io then S[3]?.getD none else none, if 4 ∈ io then S[4]?.getD none else none, if 5 ∈ io then S[5]?.getD none else none] := rfl
@[simp] theorem outP_6_s (S : Sl) (io : List Nat) : outP S io 6 = [if 0 ∈ io then S[0]?.getD none else none, if 1 ∈ io then S[1]?.getD none else none, if 2 ∈ io then S[2]?.getD none else none, if 3 ∈ io then S[3]?.getD none else none, if 4 ∈ io then S[4]?.getD none else none, if 5 ∈ io then S[5]?.getD none else none] := Eq.trans rfl rfl
theorem run_succ {sg : Sg} {tb : Nat → Option Fn} {n f : Nat} {fn : Fn} (h : tb f = some fn) (ds : List D) : run sg tb (n + 1) f ds = runB sg (run sg tb n) fn ds := by
  simp only [run, h]
/-! loops by what holds between the turns -/
/-- a for loop that comes to its end -/
theorem loopF_inv {pn : List Nat} {body : Sl → Fl} {ts : List Nat} (I : List D → Sl → Prop) (xs : List D) : ∀ (S : Sl) (pre : List D), I pre S →
    (∀ pre x post S, pre ++ x :: post = xs → I pre S → ∃ S1, bindN pn ts x S = some S1 ∧ ∃ S2, (body S1 = .nx S2 ∨ body S1 = .ct S2) ∧ I (pre ++ [x]) S2) → ∀ post, pre ++ post = xs →
    ∃ S', loopF pn body ts post S = .nx S' ∧ I xs S'
  | S, pre, h, step, [], e => ⟨S, rfl, by rw [← e, List.append_nil]; exact h⟩
  | S, pre, h, step, x :: post, e => by
    obtain ⟨S1, b1, S2, b2, h2⟩ := step pre x post S e h
    obtain ⟨S', l, h'⟩ := loopF_inv I xs S2 (pre ++ [x]) h2 step post (by rw [List.append_assoc]; exact e)
    refine ⟨S', ?_, h'⟩
    rw [loopF, b1]
    rcases b2 with b2 | b2
    · simp only [b2]; exact l
    · simp only [b2]; exact l
theorem loopF_all {pn : List Nat} {body : Sl → Fl} {ts : List Nat} {xs : List D} {S : Sl} (I : List D → Sl → Prop) (h0 : I [] S)
    (step : ∀ pre x post S, pre ++ x :: post = xs → I pre S → ∃ S1, bindN pn ts x S = some S1 ∧ ∃ S2, (body S1 = .nx S2 ∨ body S1 = .ct S2) ∧ I (pre ++ [x]) S2) :
    ∃ S', loopF pn body ts xs S = .nx S' ∧ I xs S' := loopF_inv I xs S [] h0 step xs rfl
theorem loopF_elim {pn : List Nat} {body : Sl → Fl} {ts : List Nat} {xs : List D} {S : Sl} {r : Fl} (I : List D → Sl → Prop) (hL : loopF pn body ts xs S = r) (h0 : I [] S)
    (step : ∀ pre x post S, pre ++ x :: post = xs → I pre S → ∃ S1, bindN pn ts x S = some S1 ∧ ∃ S2, (body S1 = .nx S2 ∨ body S1 = .ct S2) ∧ I (pre ++ [x]) S2) :
    ∃ S', r = .nx S' ∧ I xs S' := by
  subst hL
  exact loopF_all I h0 step
/-- .. whose states are known -/
theorem loopF_st {pn : List Nat} {body : Sl → Fl} {ts : List Nat} : ∀ (xs : List D) (St : Nat → Sl),
    (∀ i x, xs[i]? = some x → ∃ S1, bindN pn ts x (St i) = some S1 ∧ (body S1 = .nx (St (i + 1)) ∨ body S1 = .ct (St (i + 1)))) → loopF pn body ts xs (St 0) = .nx (St xs.length)
  | [], St, _ => rfl
  | x :: xs, St, h => by
    obtain ⟨S1, b1, b2⟩ := h 0 x rfl
    have ih := loopF_st xs (fun i => St (i + 1)) fun i y hy => h (i + 1) y (by simpa using hy)
    rw [loopF, b1]
    rcases b2 with b2 | b2 <;> simp only [b2] <;> exact ih
def Fl.lp (r : Fl) (k : Sl → Fl) : Fl := match r with
  | .nx S => k S
  | .ct S => k S
  | .bk S => .nx S
  | r => r
theorem lp_nx (S : Sl) (k : Sl → Fl) : (Fl.nx S).lp k = k S := rfl
@[simp] theorem lp_nx_s (S : Sl) (k : Sl → Fl) : (Fl.nx S).lp k = k S := Eq.trans rfl rfl
theorem lp_ct (S : Sl) (k : Sl → Fl) : (Fl.ct S).lp k = k S := rfl
@[simp] theorem lp_ct_s (S : Sl) (k : Sl → Fl) : (Fl.ct S).lp k = k S := Eq.trans rfl rfl
theorem lp_bk (S : Sl) (k : Sl → Fl) : (Fl.bk S).lp k = .nx S := rfl
@[simp] theorem lp_bk_s (S : Sl) (k : Sl → Fl) : (Fl.bk S).lp k = .nx S := Eq.trans rfl rfl
theorem lp_rt (d : D) (S : Sl) (k : Sl → Fl) : (Fl.rt d S).lp k = .rt d S := rfl
@[simp] theorem lp_rt_s (d : D) (S : Sl) (k : Sl → Fl) : (Fl.rt d S).lp k = .rt d S := Eq.trans rfl rfl
theorem lp_er (c : Nat) (S : Sl) (k : Sl → Fl) : (Fl.er c S).lp k = .er c S := rfl
@[simp] theorem lp_er_s (c : Nat) (S : Sl) (k : Sl → Fl) : (Fl.er c S).lp k = .er c S := Eq.trans rfl rfl
theorem loopF_nil (pn : List Nat) (body : Sl → Fl) (ts : List Nat) (S : Sl) : loopF pn body ts [] S = .nx S := rfl
@[simp] theorem loopF_nil_s (pn : List Nat) (body : Sl → Fl) (ts : List Nat) (S : Sl) : loopF pn body ts [] S = .nx S := Eq.trans rfl rfl
@[simp] theorem loopF_cons (pn : List Nat) (body : Sl → Fl) (ts : List Nat) (x : D) (xs : List D) (s : Option D) (S : Sl) : loopF pn body ts (x :: xs) (s :: S) = OB (bindN pn ts x (s :: S)) (fun S1 => (body S1).lp (loopF pn body ts xs)) .no := by
  rw [loopF]
  cases bindN pn ts x (s :: S) with
  | none => rfl
  | some S1 => dsimp only [OB_some]; cases body S1 <;> rfl
def lcC (r : R D) (f g : Sl → R D) : R D := match r with
  | .ok (.bl true) S => f S
  | .ok (.bl false) S => g S
  | _ => .no
theorem lcC_t (S : Sl) (f g : Sl → R D) : lcC (.ok (.bl true) S) f g = f S := rfl
@[simp] theorem lcC_t_s (S : Sl) (f g : Sl → R D) : lcC (.ok (.bl true) S) f g = f S := Eq.trans rfl rfl
theorem lcC_f (S : Sl) (f g : Sl → R D) : lcC (.ok (.bl false) S) f g = g S := rfl
@[simp] theorem lcC_f_s (S : Sl) (f g : Sl → R D) : lcC (.ok (.bl false) S) f g = g S := Eq.trans rfl rfl
theorem lcC_bl (c : Bool) (S : Sl) (f g : Sl → R D) : lcC (.ok (.bl c) S) f g = if c = true then f S else g S := by cases c <;> rfl
def lcE (r : R D) (f : D → Sl → R D) : R D := match r with
  | .ok d S => f d S
  | _ => .no
theorem lcE_ok (d : D) (S : Sl) (f : D → Sl → R D) : lcE (.ok d S) f = f d S := rfl
@[simp] theorem lcE_ok_s (d : D) (S : Sl) (f : D → Sl → R D) : lcE (.ok d S) f = f d S := Eq.trans rfl rfl
theorem loopC_nil (c e : Sl → R D) (ts own : List Nat) (acc : List D) (S : Sl) : loopC c e ts own [] acc S = .ok (.lst acc) S := rfl
@[simp] theorem loopC_nil_s (c e : Sl → R D) (ts own : List Nat) (acc : List D) (S : Sl) : loopC c e ts own [] acc S = .ok (.lst acc) S := Eq.trans rfl rfl
@[simp] theorem loopC_cons (c e : Sl → R D) (ts own : List Nat) (x : D) (xs acc : List D) (s : Option D) (S : Sl) : loopC c e ts own (x :: xs) acc (s :: S) = OB (bindN [] ts x (s :: S)) (fun S1 => lcC (c S1) (fun S2 => lcE (e S2) fun d S3 => if (d.pure && decide (acc.length < lim)) = true then loopC c e ts own xs (acc ++ [d]) (wipeS S3 own) else .no) (fun S2 => loopC c e ts own xs acc (wipeS S2 own))) .no := by
  rw [loopC]
  cases bindN [] ts x (s :: S) with
  | none => rfl
  | some S1 =>
    dsimp only [OB_some]
    cases c S1 with
    | ok d S2 =>
      cases d with
      | bl b =>
        cases b with
        | true =>
          dsimp only [lcC]
          cases e S2 <;> rfl
        | false => rfl
      | _ => rfl
    | _ => rfl
/-- a comprehension without a test -/
theorem loopC_inv {c e : Sl → R D} {ts own : List Nat} (I : List D → List D → Sl → Prop) (xs : List D) (hc : ∀ S, c S = .ok (.bl true) S) : ∀ (S : Sl) (pre acc : List D), I pre acc S →
    (∀ pre x post acc S, pre ++ x :: post = xs → I pre acc S → acc.length < lim ∧ ∃ S1, bindN [] ts x S = some S1 ∧ ∃ d S3, e S1 = .ok d S3 ∧ d.pure = true ∧ I (pre ++ [x]) (acc ++ [d]) (wipeS S3 own)) → ∀ post, pre ++ post = xs →
    ∃ acc' S', loopC c e ts own post acc S = .ok (.lst acc') S' ∧ I xs acc' S'
  | S, pre, acc, h, step, [], q => ⟨acc, S, rfl, by rw [← q, List.append_nil]; exact h⟩
  | S, pre, acc, h, step, x :: post, q => by
    obtain ⟨hl, S1, b1, d, S3, b2, hp, h2⟩ := step pre x post acc S q h
    obtain ⟨acc', S', l, h'⟩ := loopC_inv I xs hc (wipeS S3 own) (pre ++ [x]) (acc ++ [d]) h2 step post (by rw [List.append_assoc]; exact q)
    refine ⟨acc', S', ?_, h'⟩
    rw [loopC, b1]
    simp only [hc, b2, hp, hl, decide_true, Bool.and_self, if_true]
    exact l
/-- a comprehension, its places changed on the way -/
theorem loopC_gen {c e : Sl → R D} {ts own : List Nat} (I : List D → List D → Sl → Prop) (xs : List D) : ∀ (S : Sl) (pre acc : List D), I pre acc S →
    (∀ pre x post acc S, pre ++ x :: post = xs → I pre acc S → acc.length < lim ∧ ∃ S1, bindN [] ts x S = some S1 ∧ ((∃ S2, c S1 = .ok (.bl true) S2 ∧ ∃ d S3, e S2 = .ok d S3 ∧ d.pure = true ∧ I (pre ++ [x]) (acc ++ [d]) (wipeS S3 own)) ∨ ∃ S2, c S1 = .ok (.bl false) S2 ∧ I (pre ++ [x]) acc (wipeS S2 own))) → ∀ post, pre ++ post = xs →
    ∃ acc' S', loopC c e ts own post acc S = .ok (.lst acc') S' ∧ I xs acc' S'
  | S, pre, acc, h, step, [], q => ⟨acc, S, rfl, by rw [← q, List.append_nil]; exact h⟩
  | S, pre, acc, h, step, x :: post, q => by
    obtain ⟨hl, S1, b1, t⟩ := step pre x post acc S q h
    rcases t with ⟨S2, b2, d, S3, b3, hp, h2⟩ | ⟨S2, b2, h2⟩
    · obtain ⟨acc', S', l, h'⟩ := loopC_gen I xs (wipeS S3 own) (pre ++ [x]) (acc ++ [d]) h2 step post (by rw [List.append_assoc]; exact q)
      refine ⟨acc', S', ?_, h'⟩
      rw [loopC, b1]
      simp only [b2, b3, hp, hl, decide_true, Bool.and_self, if_true]
      exact l
    · obtain ⟨acc', S', l, h'⟩ := loopC_gen I xs (wipeS S2 own) (pre ++ [x]) acc h2 step post (by rw [List.append_assoc]; exact q)
      refine ⟨acc', S', ?_, h'⟩
      rw [loopC, b1]
      simp only [b2]
      exact l
theorem loopC_elim {c e : Sl → R D} {ts own : List Nat} {xs : List D} {S : Sl} {r : R D} (I : List D → List D → Sl → Prop) (hL : loopC c e ts own xs [] S = r) (h0 : I [] [] S)
    (step : ∀ pre x post acc S, pre ++ x :: post = xs → I pre acc S → acc.length < lim ∧ ∃ S1, bindN [] ts x S = some S1 ∧ ((∃ S2, c S1 = .ok (.bl true) S2 ∧ ∃ d S3, e S2 = .ok d S3 ∧ d.pure = true ∧ I (pre ++ [x]) (acc ++ [d]) (wipeS S3 own)) ∨ ∃ S2, c S1 = .ok (.bl false) S2 ∧ I (pre ++ [x]) acc (wipeS S2 own))) :
    ∃ acc' S', r = .ok (.lst acc') S' ∧ I xs acc' S' := hL ▸ loopC_gen I xs S [] [] h0 step xs rfl
/-- .. of which each element stands for itself: a map -/
theorem loopC_map {c e : Sl → R D} {ts own : List Nat} {S : Sl} (f : D → D) (xs : List D) (hc : ∀ S, c S = .ok (.bl true) S)
    (h : ∀ x ∈ xs, ∃ S1, bindN [] ts x S = some S1 ∧ ∃ S3, e S1 = .ok (f x) S3 ∧ (f x).pure = true ∧ wipeS S3 own = S) (hl : xs.length ≤ lim) : loopC c e ts own xs [] S = .ok (.lst (xs.map f)) S := by
  obtain ⟨acc', S', l, h1, h2⟩ := loopC_inv (c := c) (e := e) (ts := ts) (own := own) (fun pre acc S' => S' = S ∧ acc = pre.map f) xs hc S [] [] ⟨rfl, rfl⟩ (fun pre x post acc S' q hI => by
    obtain ⟨rfl, rfl⟩ := hI
    obtain ⟨S1, b1, S3, b2, hp, hw⟩ := h x (by rw [← q]; simp)
    refine ⟨?_, S1, b1, f x, S3, b2, hp, hw, by simp⟩
    have := congrArg List.length q
    simp at this
    rw [List.length_map]
    omega) xs rfl
  rw [l, h1, h2]
/-- a comprehension with a test: a filter, a map -/
theorem loopC_fm {c e : Sl → R D} {ts own : List Nat} {S : Sl} (p : D → Bool) (f : D → D) : ∀ (xs acc : List D),
    (∀ x ∈ xs, ∃ S1, bindN [] ts x S = some S1 ∧ ∃ S2, c S1 = .ok (.bl (p x)) S2 ∧ (p x = true → ∃ S3, e S2 = .ok (f x) S3 ∧ (f x).pure = true ∧ wipeS S3 own = S) ∧ (p x = false → wipeS S2 own = S)) → acc.length + xs.length ≤ lim →
    loopC c e ts own xs acc S = .ok (.lst (acc ++ (xs.filter p).map f)) S
  | [], acc, _, _ => by simp [loopC]
  | x :: xs, acc, h, hl => by
    obtain ⟨S1, b1, S2, b2, h1, h0⟩ := h x (by simp)
    have hl' : acc.length + xs.length + 1 ≤ lim := by rw [List.length_cons] at hl; omega
    rw [loopC, b1]
    simp only [b2]
    cases q : p x with
    | true =>
      obtain ⟨S3, e3, hp, hw⟩ := h1 q
      have ih := loopC_fm p f xs (acc ++ [f x]) (fun y hy => h y (List.mem_cons_of_mem _ hy)) (by rw [List.length_append]; simp only [List.length_singleton]; omega)
      simp only [e3, hp, hw, decide_eq_true (show acc.length < lim by omega), Bool.and_self, if_true]
      rw [ih, List.filter_cons, if_pos q]
      simp
    | false =>
      have ih := loopC_fm p f xs acc (fun y hy => h y (List.mem_cons_of_mem _ hy)) (by omega)
      simp only [h0 q]
      rw [ih, List.filter_cons, if_neg (by simp [q])]
/-- a comprehension, item by item -/
theorem loopC_ix {c e : Sl → R D} {ts own : List Nat} {S : Sl} (hc : ∀ S, c S = .ok (.bl true) S) : ∀ (xs ys acc : List D), xs.length = ys.length →
    (∀ (i : Nat) (x y : D), xs[i]? = some x → ys[i]? = some y → ∃ S1, bindN [] ts x S = some S1 ∧ ∃ S3, e S1 = .ok y S3 ∧ y.pure = true ∧ wipeS S3 own = S) → acc.length + xs.length ≤ lim →
    loopC c e ts own xs acc S = .ok (.lst (acc ++ ys)) S
  | [], [], acc, _, _, _ => by simp [loopC]
  | [], _ :: _, _, h, _, _ => by simp at h
  | _ :: _, [], _, h, _, _ => by simp at h
  | x :: xs, y :: ys, acc, hl, h, hm => by
    obtain ⟨S1, b1, S3, e3, hp, hw⟩ := h 0 x y rfl rfl
    have hm' : acc.length + xs.length + 1 ≤ lim := by rw [List.length_cons] at hm; omega
    have ih := loopC_ix hc xs ys (acc ++ [y]) (by simpa using hl) (fun i x' y' hx hy => h (i + 1) x' y' (by simpa using hx) (by simpa using hy)) (by rw [List.length_append]; simp only [List.length_singleton]; omega)
    rw [loopC, b1]
    simp only [hc, e3, hp, hw, decide_eq_true (show acc.length < lim by omega), Bool.and_self, if_true]
    rw [ih]
    simp
/-! == on plain data -/
mutual
/-- ints, texts, tuples of these -/
def nice : D → Bool
  | .int _ | .str _ => true
  | .tup xs => nices xs
  | _ => false
def nices : List D → Bool
  | [] => true
  | x :: xs => nice x && nices xs
end
mutual
theorem deq_iff : ∀ (x y : D), nice x = true → nice y = true → (deq x y = true ↔ x = y)
  | .int i, .int j, _, _ => by simp [deq]
  | .int i, .str j, _, _ => by simp [deq]
  | .int i, .tup j, _, _ => by simp [deq]
  | .str i, .int j, _, _ => by simp [deq]
  | .str i, .str j, _, _ => by simp [deq]
  | .str i, .tup j, _, _ => by simp [deq]
  | .tup i, .int j, _, _ => by simp [deq]
  | .tup i, .str j, _, _ => by simp [deq]
  | .tup i, .tup j, h, h' => by
    have := deqs_iff i j (by simpa [nice] using h) (by simpa [nice] using h')
    simpa [deq] using this
theorem deqs_iff : ∀ (x y : List D), nices x = true → nices y = true → (deqs x y = true ↔ x = y)
  | [], [], _, _ => by simp [deqs]
  | [], _ :: _, _, _ => by simp [deqs]
  | _ :: _, [], _, _ => by simp [deqs]
  | x :: xs, y :: ys, h, h' => by
    simp only [nices, Bool.and_eq_true] at h h'
    have h1 := deq_iff x y h.1 h'.1
    have h2 := deqs_iff xs ys h.2 h'.2
    simp only [deqs, Bool.and_eq_true, h1, h2, List.cons.injEq]
end
mutual
theorem deq_self : ∀ (x : D), nice x = true → deq x x = true
  | .int i, _ => by simp [deq]
  | .str i, _ => by simp [deq]
  | .tup i, h => by
    have := deqs_self i (by simpa [nice] using h)
    simpa [deq] using this
theorem deqs_self : ∀ (x : List D), nices x = true → deqs x x = true
  | [], _ => by simp [deqs]
  | x :: xs, h => by
    simp only [nices, Bool.and_eq_true] at h
    simp [deqs, deq_self x h.1, deqs_self xs h.2]
end
theorem nices_map {α : Type} {f : α → D} (h : ∀ a, nice (f a) = true) : ∀ l : List α, nices (l.map f) = true
  | [] => rfl
  | a :: l => by simp [nices, h a, nices_map h l]
theorem shps_map {α : Type} {f : α → D} {k : Nat} (h : ∀ a, shp k (f a) = true) : ∀ l : List α, shps k (l.map f) = true
  | [] => rfl
  | a :: l => by simp [shps, h a, shps_map h l]
/-! dicts -/
section
variable {κ : Type} [DecidableEq κ]
theorem kget_none {l : List (κ × D)} {k : κ} (h : k ∉ l.map (·.1)) : kget l k = none := by
  induction l with
  | nil => rfl
  | cons x r ih =>
    simp only [List.map_cons, List.mem_cons, not_or] at h
    rw [kget, if_neg (fun e => h.1 e.symm)]
    exact ih h.2
theorem kget_mem {l : List (κ × D)} {k : κ} (h : k ∈ l.map (·.1)) : ∃ d, kget l k = some d := by
  induction l with
  | nil => simp at h
  | cons x r ih =>
    rw [kget]
    by_cases e : x.1 = k
    · exact ⟨x.2, by rw [if_pos e]⟩
    · rw [if_neg e]
      simp only [List.map_cons, List.mem_cons] at h
      rcases h with h | h
      · exact (e h.symm).elim
      · exact ih h
theorem kget_isSome (l : List (κ × D)) (k : κ) : (kget l k).isSome = decide (k ∈ l.map (·.1)) := by
  by_cases h : k ∈ l.map (·.1)
  · obtain ⟨d, e⟩ := kget_mem h
    rw [e, decide_eq_true h]; rfl
  · rw [kget_none h, decide_eq_false h]; rfl
theorem kget_append (l m : List (κ × D)) (k : κ) : kget (l ++ m) k = if k ∈ l.map (·.1) then kget l k else kget m k := by
  induction l with
  | nil => simp
  | cons x r ih =>
    rw [List.cons_append, kget, kget]
    by_cases e : x.1 = k
    · rw [if_pos e, if_pos e, if_pos (by simp [e])]
    · rw [if_neg e, if_neg e, ih]
      have : (k ∈ (x :: r).map (·.1)) ↔ k ∈ r.map (·.1) := by
        simp only [List.map_cons, List.mem_cons]
        exact ⟨fun h => h.elim (fun z => (e z.symm).elim) id, .inr⟩
      simp only [this]
theorem kput_new {l : List (κ × D)} {k : κ} {v : D} (h : k ∉ l.map (·.1)) : kput l k v = l ++ [(k, v)] := by
  unfold kput
  rw [if_neg]
  intro z
  rw [List.any_eq_true] at z
  obtain ⟨x, hx, e⟩ := z
  exact h (List.mem_map.mpr ⟨x, hx, of_decide_eq_true e⟩)
end
theorem kmerge_new {κ : Type} [DecidableEq κ] : ∀ (more acc : List (κ × D)), (acc.map (·.1) ++ more.map (·.1)).Nodup → kmerge acc more = acc ++ more
  | [], acc, _ => by simp [kmerge]
  | x :: r, acc, h => by
    have hx : x.1 ∉ acc.map (·.1) := fun z => by
      rw [List.nodup_append] at h
      exact h.2.2 _ z x.1 (by simp) rfl
    have e : kmerge acc (x :: r) = kmerge (kput acc x.1 x.2) r := rfl
    rw [e, kput_new hx, kmerge_new r _ (by simpa using h)]
    simp
def natD (k : Nat) : D := .int (k : Nat)
@[simp] theorem natD_pure (k : Nat) : (natD k).pure = true := rfl
@[simp] theorem natD_lin (k : Nat) : (natD k).lin = false := rfl
@[simp] theorem natD_mov (k : Nat) : (natD k).movable = true := rfl
@[simp] theorem natD_rep (k : Nat) : (natD k).rep = true := rfl
theorem natD_eq (k : Nat) : natD k = .int (k : Nat) := rfl
/-- keys with their places from i on -/
def ixD {κ : Type} : List κ → Nat → List (κ × D)
  | [], _ => []
  | k :: r, i => (k, natD i) :: ixD r (i + 1)
theorem ixD_keys {κ : Type} : ∀ (l : List κ) (i : Nat), (ixD l i).map (·.1) = l
  | [], _ => rfl
  | k :: r, i => by simp [ixD, ixD_keys r (i + 1)]
theorem ixD_length {κ : Type} (l : List κ) (i : Nat) : (ixD l i).length = l.length := by
  have := congrArg List.length (ixD_keys l i)
  simpa using this
theorem ixD_snoc {κ : Type} : ∀ (l : List κ) (i : Nat) (k : κ), ixD (l ++ [k]) i = ixD l i ++ [(k, natD (i + l.length))]
  | [], _, _ => rfl
  | x :: r, i, k => by
    simp only [List.cons_append, ixD, ixD_snoc r (i + 1) k, List.length_cons]
    rw [show i + 1 + r.length = i + (r.length + 1) by omega]
theorem ixD_at {κ : Type} [DecidableEq κ] : ∀ (l : List κ) (i j : Nat) (k : κ), l.Nodup → l[j]? = some k → kget (ixD l i) k = some (natD (i + j))
  | [], _, _, _, _, h => by simp at h
  | x :: r, i, 0, k, _, h => by
    simp at h
    subst h
    rw [ixD, kget, if_pos rfl]; rfl
  | x :: r, i, j + 1, k, hn, h => by
    rw [List.getElem?_cons_succ] at h
    have hn2 := List.nodup_cons.mp hn
    have e : x ≠ k := fun e => hn2.1 (e ▸ List.mem_of_getElem? h)
    rw [ixD, kget, if_neg e, ixD_at r (i + 1) j k hn2.2 h]
    rw [show i + 1 + j = i + (j + 1) by omega]
theorem atZ_nat {α : Type} (xs : List α) (k : Nat) : atZ xs (k : Int) = xs[k]? := by
  unfold atZ
  rw [if_pos (by omega), Int.toNat_natCast]
theorem atZ_of {α : Type} {xs : List α} {i : Int} {k : Nat} (h : i = k) : atZ xs i = xs[k]? := by rw [h, atZ_nat]
end Q
end
section
set_option linter.all false
set_option Elab.async false
namespace Q
open PySem
/-! plain law: squares as trees; their one telling -/
inductive T where | lf (b : Bool) | nd (a b c d : T)
  deriving DecidableEq
instance : Inhabited T := ⟨.lf false⟩
def T.isLf : T → Bool
  | .lf _ => true
  | .nd .. => false
def T.kids : T → List T
  | .lf b => [.lf b, .lf b, .lf b, .lf b]
  | .nd a b c d => [a, b, c, d]
/-- four squares beside one another -/
def T.mk (a b c d : T) : T := if a.isLf = true ∧ a = b ∧ b = c ∧ c = d then a else .nd a b c d
def T.Nm : T → Prop
  | .lf _ => True
  | .nd a b c d => a.Nm ∧ b.Nm ∧ c.Nm ∧ d.Nm ∧ ¬ (a.isLf = true ∧ a = b ∧ b = c ∧ c = d)
def T.dep : T → Nat
  | .lf _ => 0
  | .nd a b c d => 1 + max (max a.dep b.dep) (max c.dep d.dep)
def T.sz : T → Nat
  | .lf _ => 0
  | .nd a b c d => 1 + a.sz + b.sz + c.sz + d.sz
theorem T.mk_lf (x : Bool) : T.mk (.lf x) (.lf x) (.lf x) (.lf x) = .lf x := by simp [T.mk, T.isLf]
theorem T.mk_nd {a b c d : T} (h : (T.nd a b c d).Nm) : T.mk a b c d = .nd a b c d := if_neg h.2.2.2.2
theorem T.mk_nm {a b c d : T} (ha : a.Nm) (hb : b.Nm) (hc : c.Nm) (hd : d.Nm) : (T.mk a b c d).Nm := by
  unfold T.mk
  split
  · exact ha
  · exact ⟨ha, hb, hc, hd, by assumption⟩
theorem T.mk_kids {t : T} (h : t.Nm) : ∀ {a b c d : T}, t.kids = [a, b, c, d] → T.mk a b c d = t := by
  intro a b c d e
  cases t with
  | lf x => simp [T.kids] at e; obtain ⟨rfl, rfl, rfl, rfl⟩ := e; exact T.mk_lf x
  | nd a' b' c' d' => simp [T.kids] at e; obtain ⟨rfl, rfl, rfl, rfl⟩ := e; exact T.mk_nd h
theorem T.kids_mk {a b c d : T} : (T.mk a b c d).kids = [a, b, c, d] := by
  unfold T.mk
  split
  · rename_i h
    obtain ⟨h, rfl, rfl, rfl⟩ := h
    cases a with
    | lf x => rfl
    | nd _ _ _ _ => simp [T.isLf] at h
  · rfl
theorem T.kids4 (t : T) : ∃ a b c d, t.kids = [a, b, c, d] := by cases t <;> exact ⟨_, _, _, _, rfl⟩
theorem T.kids_nm {t : T} (h : t.Nm) : ∀ s ∈ t.kids, s.Nm := by
  cases t with
  | lf x => intro s hs; simp [T.kids] at hs; subst hs; trivial
  | nd a b c d =>
    intro s hs
    simp [T.kids] at hs
    obtain ⟨h1, h2, h3, h4, _⟩ := h
    rcases hs with rfl | rfl | rfl | rfl <;> assumption
theorem T.dep_mk (a b c d : T) : (T.mk a b c d).dep ≤ 1 + max (max a.dep b.dep) (max c.dep d.dep) := by
  unfold T.mk
  split
  · omega
  · exact Nat.le_refl _
theorem T.dep_kids {t s : T} (h : s ∈ t.kids) : s.dep ≤ t.dep - 1 := by
  cases t with
  | lf x => simp [T.kids] at h; subst h; simp [T.dep]
  | nd a b c d =>
    simp [T.kids] at h
    simp only [T.dep]
    rcases h with rfl | rfl | rfl | rfl <;> omega
theorem T.sz_kids {a b c d s : T} (h : s ∈ (T.nd a b c d).kids) : s.sz < (T.nd a b c d).sz := by
  simp [T.kids] at h
  simp only [T.sz]
  rcases h with rfl | rfl | rfl | rfl <;> omega
/-- a full tree has so many parted squares at most -/
def cap : Nat → Nat
  | 0 => 0
  | n + 1 => 1 + 4 * cap n
theorem cap_mono : ∀ {m n : Nat}, m ≤ n → cap m ≤ cap n
  | 0, n, _ => Nat.zero_le _
  | m + 1, 0, h => absurd h (by omega)
  | m + 1, n + 1, h => by
    have := cap_mono (m := m) (n := n) (by omega)
    simp only [cap]
    omega
theorem T.sz_cap : ∀ t : T, t.sz ≤ cap t.dep
  | .lf _ => Nat.zero_le _
  | .nd a b c d => by
    have ha := T.sz_cap a
    have hb := T.sz_cap b
    have hc := T.sz_cap c
    have hd := T.sz_cap d
    simp only [T.dep, T.sz]
    rw [show 1 + max (max a.dep b.dep) (max c.dep d.dep) = max (max a.dep b.dep) (max c.dep d.dep) + 1 by omega]
    simp only [cap]
    have h1 : cap a.dep ≤ cap (max (max a.dep b.dep) (max c.dep d.dep)) := cap_mono (by omega)
    have h2 : cap b.dep ≤ cap (max (max a.dep b.dep) (max c.dep d.dep)) := cap_mono (by omega)
    have h3 : cap c.dep ≤ cap (max (max a.dep b.dep) (max c.dep d.dep)) := cap_mono (by omega)
    have h4 : cap d.dep ≤ cap (max (max a.dep b.dep) (max c.dep d.dep)) := cap_mono (by omega)
    omega
/-! ### lists of parted squares -/
def In (L : List T) (t : T) : Prop := t.isLf = true ∨ t ∈ L
instance (L : List T) (t : T) : Decidable (In L t) := inferInstanceAs (Decidable (_ ∨ _))
structure Cls (L : List T) : Prop where
  nd : L.Nodup
  nl : ∀ s ∈ L, s.isLf = false
  nm : ∀ s ∈ L, s.Nm
  cl : ∀ i s, L[i]? = some s → ∀ c ∈ s.kids, In (L.take i) c
theorem Cls.nil : Cls [] := ⟨.nil, by simp, by simp, by simp⟩
theorem In.mono {L L' : List T} {t : T} (h : In L t) (p : L <+: L') : In L' t := h.imp id fun m => p.subset m
theorem In.lf {L : List T} {b : Bool} : In L (.lf b) := .inl rfl
theorem Cls.kid {L : List T} {s c : T} (h : Cls L) (hs : In L s) (hc : c ∈ s.kids) : In L c := by
  rcases hs with hs | hs
  · cases s with
    | lf x => simp [T.kids] at hc; subst hc; exact .inl rfl
    | nd => simp [T.isLf] at hs
  · obtain ⟨i, e⟩ := List.getElem?_of_mem hs
    exact (h.cl i s e c hc).mono (List.take_prefix _ _)
theorem Cls.inm {L : List T} {s : T} (h : Cls L) (hs : In L s) : s.Nm := by
  rcases hs with hs | hs
  · cases s with
    | lf x => trivial
    | nd => simp [T.isLf] at hs
  · exact h.nm s hs
/-- one more -/
theorem Cls.snoc {L : List T} {t : T} (h : Cls L) (hl : t.isLf = false) (hn : t ∉ L) (hm : t.Nm) (hk : ∀ c ∈ t.kids, In L c) : Cls (L ++ [t]) where
  nd := by
    rw [List.nodup_append]
    exact ⟨h.nd, by simp, fun a ha b hb e => hn (by simp at hb; rw [← hb, ← e]; exact ha)⟩
  nl := by
    intro s hs
    rcases List.mem_append.mp hs with hs | hs
    · exact h.nl s hs
    · simp at hs; subst hs; exact hl
  nm := by
    intro s hs
    rcases List.mem_append.mp hs with hs | hs
    · exact h.nm s hs
    · simp at hs; subst hs; exact hm
  cl := by
    intro i s e c hc
    by_cases hi : i < L.length
    · rw [List.getElem?_append_left hi] at e
      have := h.cl i s e c hc
      rwa [List.take_append_of_le_length (by omega)]
    · rw [List.getElem?_append_right (by omega)] at e
      have hi2 : i - L.length = 0 := by
        cases hz : i - L.length with
        | zero => rfl
        | succ k => rw [hz] at e; simp at e
      rw [hi2] at e
      simp at e
      subst e
      have hi3 : i = L.length := by omega
      subst hi3
      rw [List.take_append_of_le_length (Nat.le_refl _), List.take_length]
      exact hk c hc
def put (L : List T) (t : T) : List T := if In L t then L else L ++ [t]
theorem put_pre (L : List T) (t : T) : L <+: put L t := by
  unfold put
  split
  · exact List.prefix_refl _
  · exact List.prefix_append _ _
theorem put_in (L : List T) (t : T) : In (put L t) t := by
  unfold put
  split
  · assumption
  · exact .inr (by simp)
theorem put_cls {L : List T} {t : T} (h : Cls L) (hm : t.Nm) (hk : ∀ c ∈ t.kids, In L c) : Cls (put L t) := by
  unfold put
  split
  · exact h
  · rename_i hn
    refine h.snoc ?_ (fun z => hn (.inr z)) hm hk
    cases e : t.isLf with
    | false => rfl
    | true => exact (hn (.inl e)).elim
theorem put_of_in {L : List T} {t : T} (h : In L t) : put L t = L := if_pos h
theorem nodup_ix {α : Type} {L : List α} (h : L.Nodup) {i j : Nat} {hi : i < L.length} {hj : j < L.length} (e : L[i] = L[j]) : i = j := by
  have p := List.pairwise_iff_getElem.mp h
  rcases Nat.lt_trichotomy i j with q | q | q
  · exact (p i j hi hj q e).elim
  · exact q
  · exact (p j i hj hi q e.symm).elim
/-- the number of a square -/
def num (L : List T) : T → Nat
  | .lf b => b.toNat
  | .nd a b c d => L.idxOf (.nd a b c d) + 2
theorem num_lt {L : List T} {t : T} (h : In L t) : num L t < L.length + 2 := by
  cases t with
  | lf b => cases b <;> simp [num]
  | nd a b c d =>
    rcases h with h | h
    · simp [T.isLf] at h
    · simp only [num]
      have := List.idxOf_lt_length_iff.mpr h
      omega
theorem num_inj {L : List T} {s t : T} (hs : In L s) (ht : In L t) (e : num L s = num L t) : s = t := by
  cases s with
  | lf x =>
    cases t with
    | lf y => cases x <;> cases y <;> simp_all [num]
    | nd => simp only [num] at e; cases x <;> simp at e <;> omega
  | nd a b c d =>
    cases t with
    | lf y => simp only [num] at e; cases y <;> simp at e <;> omega
    | nd a' b' c' d' =>
      simp only [num] at e
      rcases hs with h | h
      · simp [T.isLf] at h
      rcases ht with h' | h'
      · simp [T.isLf] at h'
      have e2 : L.idxOf (T.nd a b c d) = L.idxOf (T.nd a' b' c' d') := by omega
      have h1 := List.getElem_idxOf (List.idxOf_lt_length_iff.mpr h)
      have h2 := List.getElem_idxOf (List.idxOf_lt_length_iff.mpr h')
      rw [← h1, ← h2]
      congr 1
theorem num_pre {L L' : List T} {t : T} (h : In L t) (p : L <+: L') : num L' t = num L t := by
  cases t with
  | lf b => rfl
  | nd a b c d =>
    rcases h with h | h
    · simp [T.isLf] at h
    · obtain ⟨M, rfl⟩ := p
      simp only [num]
      rw [List.idxOf_append, if_pos h]
theorem num_at {L : List T} (h : Cls L) {i : Nat} {s : T} (e : L[i]? = some s) : num L s = i + 2 := by
  obtain ⟨hi, e2⟩ := List.getElem?_eq_some_iff.mp e
  have hm : s ∈ L := e2 ▸ List.getElem_mem hi
  cases s with
  | lf b => have := h.nl _ hm; simp [T.isLf] at this
  | nd a b c d =>
    simp only [num]
    have h1 := List.getElem_idxOf (List.idxOf_lt_length_iff.mpr hm)
    have h2 : L.idxOf (T.nd a b c d) = i := by
      refine nodup_ix h.nd (hi := List.idxOf_lt_length_iff.mpr hm) (hj := hi) ?_
      rw [h1, e2]
    omega
theorem num_lf {L : List T} {t : T} (h : In L t) : num L t < 2 ↔ t.isLf = true := by
  cases t with
  | lf b => cases b <;> simp [num, T.isLf]
  | nd a b c d => simp [num, T.isLf]
/-- the rows -/
def rowOf (L : List T) (s : T) : List Nat := s.kids.map (num L)
def rowsOf (L : List T) : List (List Nat) := L.map (rowOf L)
theorem rowOf_pre {L L' : List T} {s : T} (h : ∀ c ∈ s.kids, In L c) (p : L <+: L') : rowOf L' s = rowOf L s := List.map_congr_left fun c hc => num_pre (h c hc) p
theorem rowsOf_snoc {L : List T} {t : T} (h : Cls L) (hk : ∀ c ∈ t.kids, In L c) : rowsOf (L ++ [t]) = rowsOf L ++ [rowOf L t] := by
  unfold rowsOf
  rw [List.map_append]
  congr 1
  · exact List.map_congr_left fun s hs => rowOf_pre (fun c hc => h.kid (.inr hs) hc) (List.prefix_append _ _)
  · simp only [List.map_cons, List.map_nil]
    rw [rowOf_pre hk (List.prefix_append _ _)]
theorem rowsOf_len (L : List T) : (rowsOf L).length = L.length := List.length_map _
/-- a row tells its square -/
theorem row_inj {L : List T} {s t : T} (h : Cls L) (hs : s.Nm) (ht : t.Nm) (ks : ∀ c ∈ s.kids, In L c) (kt : ∀ c ∈ t.kids, In L c) (e : rowOf L s = rowOf L t) : s = t := by
  have e2 : s.kids = t.kids := by
    obtain ⟨a, b, c, d, e1⟩ := s.kids4
    obtain ⟨a', b', c', d', e3⟩ := t.kids4
    unfold rowOf at e
    rw [e1, e3] at e ⊢
    rw [e1] at ks
    rw [e3] at kt
    simp at e ks kt
    obtain ⟨q1, q2, q3, q4⟩ := e
    obtain ⟨k1, k2, k3, k4⟩ := ks
    obtain ⟨k1', k2', k3', k4'⟩ := kt
    rw [num_inj k1 k1' q1, num_inj k2 k2' q2, num_inj k3 k3' q3, num_inj k4 k4' q4]
  obtain ⟨a, b, c, d, e1⟩ := s.kids4
  rw [← T.mk_kids hs e1, ← T.mk_kids ht (e2 ▸ e1)]
/-! ### the order in which they end -/
def po : T → List T → List T
  | .lf _, P => P
  | .nd a b c d, P => if .nd a b c d ∈ P then P else po d (po c (po b (po a P))) ++ [.nd a b c d]
theorem po_pre : ∀ (t : T) (P : List T), P <+: po t P
  | .lf _, P => List.prefix_refl _
  | .nd a b c d, P => by
    unfold po
    split
    · exact List.prefix_refl _
    · exact (((po_pre a P).trans (po_pre b _)).trans ((po_pre c _).trans (po_pre d _))).trans (List.prefix_append _ _)
theorem po_sz : ∀ (t : T) (P : List T), ∀ s ∈ po t P, s ∈ P ∨ s.sz ≤ t.sz
  | .lf _, P, s, hs => .inl hs
  | .nd a b c d, P, s, hs => by
    unfold po at hs
    split at hs
    · exact .inl hs
    · rcases List.mem_append.mp hs with hs | hs
      · simp only [T.sz]
        rcases po_sz d _ s hs with hs | hs
        · rcases po_sz c _ s hs with hs | hs
          · rcases po_sz b _ s hs with hs | hs
            · rcases po_sz a _ s hs with hs | hs
              · exact .inl hs
              · exact .inr (by omega)
            · exact .inr (by omega)
          · exact .inr (by omega)
        · exact .inr (by omega)
      · simp at hs; subst hs; exact .inr (Nat.le_refl _)
theorem po_ok : ∀ (t : T) (P : List T), t.Nm → Cls P → Cls (po t P) ∧ In (po t P) t
  | .lf _, P, _, h => ⟨h, .inl rfl⟩
  | .nd a b c d, P, hm, h => by
    unfold po
    split
    · exact ⟨h, .inr (by assumption)⟩
    · rename_i hn
      obtain ⟨ma, mb, mc, md, mn⟩ := id hm
      have h1 := po_ok a P ma h
      have h2 := po_ok b _ mb h1.1
      have h3 := po_ok c _ mc h2.1
      have h4 := po_ok d _ md h3.1
      refine ⟨h4.1.snoc rfl ?_ hm ?_, .inr (by simp)⟩
      · intro z
        rcases po_sz d _ _ z with z | z
        · rcases po_sz c _ _ z with z | z
          · rcases po_sz b _ _ z with z | z
            · rcases po_sz a _ _ z with z | z
              · exact hn z
              · simp only [T.sz] at z; omega
            · simp only [T.sz] at z; omega
          · simp only [T.sz] at z; omega
        · simp only [T.sz] at z; omega
      · intro e he
        simp [T.kids] at he
        rcases he with rfl | rfl | rfl | rfl
        · exact h1.2.mono ((po_pre b _).trans ((po_pre c _).trans (po_pre d _)))
        · exact h2.2.mono ((po_pre c _).trans (po_pre d _))
        · exact h3.2.mono (po_pre d _)
        · exact h4.2
theorem po_len : ∀ (t : T) (P : List T), (po t P).length ≤ P.length + t.sz
  | .lf _, P => by simp [po, T.sz]
  | .nd a b c d, P => by
    unfold po
    split
    · simp only [T.sz]; omega
    · have h1 := po_len a P
      have h2 := po_len b (po a P)
      have h3 := po_len c (po b (po a P))
      have h4 := po_len d (po c (po b (po a P)))
      rw [List.length_append]
      simp only [T.sz, List.length_singleton]
      omega
theorem po_in : ∀ (t : T) (P : List T), Cls P → In P t → po t P = P
  | .lf _, P, _, _ => rfl
  | .nd a b c d, P, _, h => by
    unfold po
    rcases h with h | h
    · simp [T.isLf] at h
    · rw [if_pos h]
/-- the parted squares of a tree, in order -/
def sub (t : T) : List T := po t []
theorem sub_cls {t : T} (h : t.Nm) : Cls (sub t) := (po_ok t [] h .nil).1
theorem sub_in {t : T} (h : t.Nm) : In (sub t) t := (po_ok t [] h .nil).2
/-! ### what rows tell -/
def nth (acc : List T) (k : Nat) : T := acc.getD k (.lf false)
def mkq (acc : List T) : List Nat → T
  | [a, b, c, d] => T.mk (nth acc a) (nth acc b) (nth acc c) (nth acc d)
  | _ => .lf false
def dens (rows : List (List Nat)) : List T := rows.foldl (fun acc q => acc ++ [mkq acc q]) [.lf false, .lf true]
def den (rows : List (List Nat)) (k : Nat) : T := nth (dens rows) k
theorem dens_snoc (rows : List (List Nat)) (q : List Nat) : dens (rows ++ [q]) = dens rows ++ [mkq (dens rows) q] := by
  unfold dens
  rw [List.foldl_append]
  rfl
theorem dens_rowsOf {L : List T} (h : Cls L) : dens (rowsOf L) = .lf false :: .lf true :: L := by
  suffices ∀ n, n ≤ L.length → dens (rowsOf (L.take n)) = .lf false :: .lf true :: L.take n by
    have := this L.length (Nat.le_refl _)
    rwa [List.take_length] at this
  have take_cls : ∀ n, Cls (L.take n) := fun n => by
    refine ⟨h.nd.sublist (List.take_sublist _ _), fun s hs => h.nl s (List.mem_of_mem_take hs), fun s hs => h.nm s (List.mem_of_mem_take hs), fun i s e c hc => ?_⟩
    rw [List.getElem?_take] at e
    split at e
    · have := h.cl i s e c hc
      rwa [List.take_take, Nat.min_eq_left (by omega)]
    · simp at e
  intro n
  induction n with
  | zero => intro _; rfl
  | succ n ih =>
    intro hn
    have hn' : n < L.length := by omega
    have e : L[n]? = some L[n] := List.getElem?_eq_getElem hn'
    rw [List.take_succ_eq_append_getElem hn']
    have ck := h.cl n L[n] e
    rw [rowsOf_snoc (take_cls n) ck, dens_snoc, ih (by omega)]
    rw [List.cons_append, List.cons_append]
    congr 3
    have hm : L[n].Nm := h.nm _ (List.getElem_mem hn')
    obtain ⟨a, b, c, d, e1⟩ := L[n].kids4
    have nthk : ∀ x, In (L.take n) x → nth (.lf false :: .lf true :: L.take n) (num (L.take n) x) = x := by
      intro x hx
      cases x with
      | lf b => cases b <;> rfl
      | nd a b c d =>
        rcases hx with hx | hx
        · simp [T.isLf] at hx
        · simp only [num, nth]
          rw [List.getD_eq_getElem?_getD, List.getElem?_cons_succ, List.getElem?_cons_succ, List.getElem?_eq_getElem (List.idxOf_lt_length_iff.mpr hx), List.getElem_idxOf]
          rfl
    rw [e1] at ck
    simp at ck
    obtain ⟨k1, k2, k3, k4⟩ := ck
    unfold rowOf
    rw [e1]
    simp only [List.map_cons, List.map_nil, mkq]
    rw [nthk _ k1, nthk _ k2, nthk _ k3, nthk _ k4]
    rw [T.mk_kids hm e1]
theorem den_num {L : List T} (h : Cls L) {t : T} (ht : In L t) : den (rowsOf L) (num L t) = t := by
  unfold den
  rw [dens_rowsOf h]
  cases t with
  | lf b => cases b <;> rfl
  | nd a b c d =>
    rcases ht with hx | hx
    · simp [T.isLf] at hx
    · simp only [num, nth]
      rw [List.getD_eq_getElem?_getD, List.getElem?_cons_succ, List.getElem?_cons_succ, List.getElem?_eq_getElem (List.idxOf_lt_length_iff.mpr hx), List.getElem_idxOf]
      rfl
end Q
end
section
set_option linter.all false
set_option Elab.async false
set_option maxRecDepth 100000
set_option maxHeartbeats 4000000
namespace Q
open PySem
/-! rows: what the program's defs come to -/
def rowD (q : List Nat) : D := .tup (q.map natD)
def keyQ (q : List Nat) : List Ky := q.map fun k => (Sum.inl ((k : Nat) : Int) : Ky)
def rowsO (L : List T) : D := .obj 10 [.lst ((rowsOf L).map rowD), .dt (ixD ((rowsOf L).map keyQ) 2)]
structure RowsE (sg : Sg) (tb : Nat → Option Fn) : Prop where
  f : sg.flds 10 = [0, 18]
  init : tb 150 = some p_rows_Rows___init__
  number : tb 151 = some p_rows_Rows_number
  quarters : tb 152 = some p_rows_Rows_quarters
  take : tb 153 = some p_rows_Rows_take
  order : tb 154 = some p_rows_Rows_order
  shape : tb 155 = some p_rows_Rows_shape
@[simp] theorem rowD_pure (q : List Nat) : (rowD q).pure = true := rfl
@[simp] theorem rowD_lin (q : List Nat) : (rowD q).lin = false := rfl
@[simp] theorem rowsO_pure (L : List T) : (rowsO L).pure = false := rfl
@[simp] theorem rowsO_lin (L : List T) : (rowsO L).lin = true := rfl
@[simp] theorem rowsO_mov (L : List T) : (rowsO L).movable = true := rfl
@[simp] theorem oO_rows (L : List T) (r : R D) : oO 10 (some (rowsO L)) r = r := rfl
theorem rowD_nice (q : List Nat) : nice (rowD q) = true := by
  show nices (q.map natD) = true
  exact nices_map (fun a => rfl) q
theorem rowD_shp (q : List Nat) : shp 60 (rowD q) = true := by
  show (decide (0 < 60) && shps 59 (q.map natD)) = true
  rw [shps_map (fun a => rfl)]; rfl
theorem natD_inj {a b : Nat} : natD a = natD b ↔ a = b := by
  unfold natD
  constructor
  · intro h; have := D.int.inj h; omega
  · intro h; rw [h]
theorem map_natD_inj : ∀ {a b : List Nat}, a.map natD = b.map natD ↔ a = b
  | [], [] => by simp
  | [], _ :: _ => by simp
  | _ :: _, [] => by simp
  | x :: xs, y :: ys => by simp [natD_inj, map_natD_inj]
theorem rowD_inj {a b : List Nat} : rowD a = rowD b ↔ a = b := by
  unfold rowD
  constructor
  · intro h; exact map_natD_inj.mp (D.tup.inj h)
  · intro h; rw [h]
theorem keyQ_inj : ∀ {a b : List Nat}, keyQ a = keyQ b ↔ a = b
  | [], [] => by simp [keyQ]
  | [], _ :: _ => by simp [keyQ]
  | _ :: _, [] => by simp [keyQ]
  | x :: xs, y :: ys => by
    have := keyQ_inj (a := xs) (b := ys)
    unfold keyQ at this ⊢
    simp only [List.map_cons, List.cons.injEq, this]
    constructor
    · rintro ⟨h, e⟩
      have := Sum.inl.inj h
      exact ⟨by omega, e⟩
    · rintro ⟨h, e⟩
      exact ⟨by rw [h], e⟩
theorem kysOf_nats : ∀ q : List Nat, kysOf (q.map natD) = some (keyQ q)
  | [] => rfl
  | k :: q => by
    rw [List.map_cons, kysOf_cons, kysOf_nats q, natD_eq, kyOf_int]
    rfl
@[simp] theorem tkOf_rowD (q : List Nat) : tkOf (rowD q) = some (keyQ q) := kysOf_nats q
theorem deq_rowD (a b : List Nat) : deq (rowD a) (rowD b) = decide (a = b) := by
  have := deq_iff (rowD a) (rowD b) (rowD_nice a) (rowD_nice b)
  rw [rowD_inj] at this
  by_cases h : a = b
  · rw [decide_eq_true h]; exact this.mpr h
  · rw [decide_eq_false h]
    cases q : deq (rowD a) (rowD b) with
    | false => rfl
    | true => exact (h (this.mp q)).elim
theorem key_mem {q : List Nat} {R : List (List Nat)} : keyQ q ∈ R.map keyQ ↔ q ∈ R := by
  rw [List.mem_map]
  exact ⟨fun ⟨x, hx, e⟩ => keyQ_inj.mp e ▸ hx, fun h => ⟨q, h, rfl⟩⟩
theorem row_mem {L : List T} {t : T} (h : Cls L) (hm : t.Nm) (hk : ∀ c ∈ t.kids, In L c) (hl : t.isLf = false) : rowOf L t ∈ rowsOf L ↔ t ∈ L := by
  unfold rowsOf
  rw [List.mem_map]
  constructor
  · rintro ⟨s, hs, e⟩
    have := row_inj h (h.nm s hs) hm (fun c hc => h.kid (.inr hs) hc) hk e
    exact this ▸ hs
  · intro ht
    exact ⟨t, ht, rfl⟩
theorem keys_nd {L : List T} (h : Cls L) : ((rowsOf L).map keyQ).Nodup := by
  unfold rowsOf
  rw [List.map_map]
  refine List.pairwise_map.mpr (List.Pairwise.imp_of_mem (fun {a b} ha hb hne e => hne ?_) h.nd)
  exact row_inj h (h.nm _ ha) (h.nm _ hb) (fun c hc => h.kid (.inr ha) hc) (fun c hc => h.kid (.inr hb) hc) (keyQ_inj.mp e)
theorem key_at {L : List T} {t : T} (ht : t ∈ L) : ((rowsOf L).map keyQ)[L.idxOf t]? = some (keyQ (rowOf L t)) := by
  have hi : L.idxOf t < L.length := List.idxOf_lt_length_iff.mpr ht
  unfold rowsOf
  rw [List.getElem?_map, List.getElem?_map, List.getElem?_eq_getElem hi, List.getElem_idxOf]; rfl
theorem num_nd {L : List T} {t : T} (h : t.isLf = false) : num L t = L.idxOf t + 2 := by
  cases t with
  | lf => simp [T.isLf] at h
  | nd => rfl
/-- what the dict holds -/
theorem numbers_get {L : List T} (h : Cls L) {t : T} (ht : t ∈ L) : kget (ixD ((rowsOf L).map keyQ) 2) (keyQ (rowOf L t)) = some (natD (num L t)) := by
  rw [ixD_at _ 2 _ _ (keys_nd h) (key_at ht), num_nd (h.nl t ht), Nat.add_comm]
theorem numbers_in {L : List T} (h : Cls L) {t : T} (hm : t.Nm) (hk : ∀ c ∈ t.kids, In L c) (hl : t.isLf = false) : (kget (ixD ((rowsOf L).map keyQ) 2) (keyQ (rowOf L t))).isSome = decide (t ∈ L) := by
  rw [kget_isSome, ixD_keys]
  have := key_mem (q := rowOf L t) (R := rowsOf L)
  rw [row_mem h hm hk hl] at this
  simp only [this]
theorem rows_put {L : List T} (h : Cls L) {t : T} (hk : ∀ c ∈ t.kids, In L c) : rowsO (L ++ [t]) = .obj 10 [.lst ((rowsOf L).map rowD ++ [rowD (rowOf L t)]), .dt (ixD ((rowsOf L).map keyQ) 2 ++ [(keyQ (rowOf L t), natD (L.length + 2))])] := by
  unfold rowsO
  rw [rowsOf_snoc h hk, List.map_append, List.map_append]
  simp only [List.map_cons, List.map_nil]
  rw [ixD_snoc, List.length_map, rowsOf_len, Nat.add_comm 2]
theorem num_last {L : List T} {t : T} (hl : t.isLf = false) (hn : t ∉ L) : num (L ++ [t]) t = L.length + 2 := by
  rw [num_nd hl, List.idxOf_append, if_neg hn]
  simp
section
variable {sg : Sg} {tb : Nat → Option Fn}
theorem ev_number (E : RowsE sg tb) (n : Nat) {L : List T} (h : Cls L) {a b c d : T} (ha : In L a) (hb : In L b) (hc : In L c) (hd : In L d) (hl : (put L (T.mk a b c d)).length ≤ lim) :
    run sg tb (n + 1) 151 [rowsO L, rowD [num L a, num L b, num L c, num L d]] = FR.ok (natD (num (put L (T.mk a b c d)) (T.mk a b c d))) [some (rowsO (put L (T.mk a b c d))), some (rowD [num L a, num L b, num L c, num L d])] := by
  rw [run_succ E.number, runB_eq]
  generalize ht : T.mk a b c d = t at hl ⊢
  have hkids : t.kids = [a, b, c, d] := by rw [← ht]; exact T.kids_mk
  have hm : t.Nm := by rw [← ht]; exact T.mk_nm (h.inm ha) (h.inm hb) (h.inm hc) (h.inm hd)
  have hk : ∀ x ∈ t.kids, In L x := by rw [hkids]; simp; exact ⟨ha, hb, hc, hd⟩
  have hrow : [num L a, num L b, num L c, num L d] = rowOf L t := by unfold rowOf; rw [hkids]; rfl
  have hq0 : D.tup [D.int 0, D.int 0, D.int 0, D.int 0] = rowD [0, 0, 0, 0] := rfl
  have hq1 : D.tup [D.int 1, D.int 1, D.int 1, D.int 1] = rowD [1, 1, 1, 1] := rfl
  by_cases hleaf : t.isLf = true
  · cases t with
    | nd => simp [T.isLf] at hleaf
    | lf x =>
      simp [T.kids] at hkids
      obtain ⟨rfl, rfl, rfl, rfl⟩ := hkids
      rw [put_of_in (.inl rfl)]
      cases x with
      | false => simp [p_rows_Rows_number, rowsO, rowD, num, natD, deq, deqs, shp, shps, atZ]
      | true => simp [p_rows_Rows_number, rowsO, rowD, num, natD, deq, deqs, shp, shps, atZ]
  · have hl0 : t.isLf = false := by simpa using hleaf
    have np : ∀ x : Bool, ¬ [x.toNat, x.toNat, x.toNat, x.toNat] = rowOf L t := fun x e => by
      have : t = .lf x := row_inj h hm trivial hk (fun c hc => by simp [T.kids] at hc; subst hc; exact .inl rfl) (by rw [← e]; rfl)
      rw [this] at hl0; cases hl0
    have n0 : ¬ [0, 0, 0, 0] = rowOf L t := np false
    have n1 : ¬ [1, 1, 1, 1] = rowOf L t := np true
    rw [hrow]
    have hin := numbers_in h hm hk hl0
    by_cases hmem : t ∈ L
    · rw [put_of_in (.inr hmem)]
      have hget := numbers_get h hmem
      simp [p_rows_Rows_number, rowsO, E.f, hq0, hq1, deq_rowD, rowD_shp, shps, n0, n1, hin, hmem, hget]
    · have hput : put L t = L ++ [t] := if_neg (fun z => z.elim (fun z => hleaf z) hmem)
      rw [hput] at hl ⊢
      rw [rows_put h hk, num_last hl0 hmem]
      simp at hl
      have hl2 : L.length < 16777216 := by omega
      have hnk : keyQ (rowOf L t) ∉ (ixD ((rowsOf L).map keyQ) 2).map (·.1) := by
        rw [ixD_keys, key_mem, row_mem h hm hk hl0]; exact hmem
      have e1 : ∀ v, kput (ixD ((rowsOf L).map keyQ) 2) (keyQ (rowOf L t)) v = _ := fun v => kput_new hnk
      have e2 : ∀ v, kget (ixD ((rowsOf L).map keyQ) 2 ++ [(keyQ (rowOf L t), v)]) (keyQ (rowOf L t)) = some v := fun v => by
        rw [kget_append, if_neg hnk, kget, if_pos rfl]
      simp [p_rows_Rows_number, rowsO, E.f, hq0, hq1, deq_rowD, rowD_shp, shps, n0, n1, hin, hmem, hl2, rowsOf_len, ixD_length, e1, e2, natD]
      omega
theorem ev_init (E : RowsE sg tb) (n : Nat) : run sg tb (n + 1) 150 [.obj 10 []] = FR.ok .non [some (rowsO [])] := by
  rw [run_succ E.init, runB_eq]
  simp [p_rows_Rows___init__, E.f, rowsO, rowsOf, ixD]
theorem rowD_lit (k : Nat) : rowD [k, k, k, k] = .tup [.int k, .int k, .int k, .int k] := rfl
theorem rows_at {L : List T} {t : T} (ht : t ∈ L) : ((rowsOf L).map rowD)[L.idxOf t]? = some (rowD (rowOf L t)) := by
  have hi : L.idxOf t < L.length := List.idxOf_lt_length_iff.mpr ht
  unfold rowsOf
  rw [List.getElem?_map, List.getElem?_map, List.getElem?_eq_getElem hi, List.getElem_idxOf]; rfl
theorem ev_quarters (E : RowsE sg tb) (n : Nat) {L : List T} {t : T} (ht : In L t) :
    run sg tb (n + 1) 152 [rowsO L, natD (num L t)] = FR.ok (rowD (rowOf L t)) [some (rowsO L), some (natD (num L t))] := by
  rw [run_succ E.quarters, runB_eq]
  cases t with
  | lf x => cases x <;> simp [p_rows_Rows_quarters, rowsO, num, natD, rowOf, T.kids, rowD]
  | nd a b c d =>
    rcases ht with hz | hz
    · simp [T.isLf] at hz
    have e1 : ¬ ((num L (T.nd a b c d) : Nat) : Int) < 2 := by simp only [num]; omega
    have e2 : atZ ((rowsOf L).map rowD) (((num L (T.nd a b c d) : Nat) : Int) - 2) = some (rowD (rowOf L (T.nd a b c d))) := by
      rw [atZ_of (k := L.idxOf (T.nd a b c d)) (by simp only [num]; omega)]
      exact rows_at hz
    simp [p_rows_Rows_quarters, rowsO, natD, e1, e2, E.f]
/-- what is found so far -/
def fkey (L : List T) (s : T) : Ky := (Sum.inl ((num L s : Nat) : Int) : Ky)
def fndO (L P : List T) : D := .dk (ixD (P.map (fkey L)) 2)
@[simp] theorem fndO_pure (L P : List T) : (fndO L P).pure = false := rfl
@[simp] theorem fndO_lin (L P : List T) : (fndO L P).lin = true := rfl
theorem fkey_inj {L : List T} {s t : T} (hs : In L s) (ht : In L t) (e : fkey L s = fkey L t) : s = t := num_inj hs ht (by have := Sum.inl.inj e; omega)
theorem fkey_mem {L P : List T} {t : T} (hP : ∀ s ∈ P, s ∈ L) (ht : In L t) : fkey L t ∈ P.map (fkey L) ↔ t ∈ P := by
  rw [List.mem_map]
  exact ⟨fun ⟨x, hx, e⟩ => fkey_inj (.inr (hP x hx)) ht e ▸ hx, fun h => ⟨t, h, rfl⟩⟩
theorem fnd_in {L P : List T} {t : T} (hP : ∀ s ∈ P, s ∈ L) (ht : In L t) : (kget (ixD (P.map (fkey L)) 2) (fkey L t)).isSome = decide (t ∈ P) := by
  rw [kget_isSome, ixD_keys]
  have := fkey_mem hP ht
  simp only [this]
theorem fkeys_nd {L P : List T} (hP : ∀ s ∈ P, s ∈ L) (hn : P.Nodup) : (P.map (fkey L)).Nodup :=
  List.pairwise_map.mpr (List.Pairwise.imp_of_mem (fun {a b} ha hb hne e => hne (fkey_inj (.inr (hP a ha)) (.inr (hP b hb)) e)) hn)
theorem po_sub {L : List T} (h : Cls L) : ∀ (t : T) (P : List T), In L t → (∀ s ∈ P, s ∈ L) → ∀ s ∈ po t P, s ∈ L
  | .lf _, P, _, hP => hP
  | .nd a b c d, P, ht, hP => by
    unfold po
    split
    · exact hP
    · have hk := fun c hc => h.kid ht (c := c) hc
      intro s hs
      rcases List.mem_append.mp hs with hs | hs
      · exact po_sub h d _ (hk d (by simp [T.kids])) (po_sub h c _ (hk c (by simp [T.kids])) (po_sub h b _ (hk b (by simp [T.kids])) (po_sub h a _ (hk a (by simp [T.kids])) hP))) s hs
      · simp at hs; subst hs; exact ht.elim (fun z => by simp [T.isLf] at z) id
theorem ev_order (E : RowsE sg tb) {L : List T} (h : Cls L) (n : Nat) : ∀ (t : T) (P : List T), In L t → (∀ s ∈ P, s ∈ L) → Cls P → P.length + t.sz ≤ lim →
    run sg tb (t.dep + 2 + n) 154 [rowsO L, natD (num L t), fndO L P] = FR.ok .non [some (rowsO L), some (natD (num L t)), some (fndO L (po t P))]
  | .lf x, P, ht, hP, cP, hl => by
    rw [show (T.lf x).dep + 2 + n = (1 + n) + 1 by simp only [T.dep]; omega, run_succ E.order, runB_eq]
    cases x <;> simp [p_rows_Rows_order, num, natD, po]
  | .nd a b c d, P, ht, hP, cP, hl => by
    obtain ⟨k, hk⟩ : ∃ k, k = max (max a.dep b.dep) (max c.dep d.dep) + 1 + n := ⟨_, rfl⟩
    rw [show (T.nd a b c d).dep + 2 + n = (k + 1) + 1 by simp only [T.dep]; omega, run_succ E.order, runB_eq]
    have h1 : (1 : Int) < ((num L (T.nd a b c d) : Nat) : Int) := by simp only [num]; omega
    have hin := fnd_in hP ht
    have hq := ev_quarters E k ht
    have hrow : rowD (rowOf L (T.nd a b c d)) = .tup [natD (num L a), natD (num L b), natD (num L c), natD (num L d)] := rfl
    rw [hrow] at hq
    have hf : (Sum.inl ((num L (T.nd a b c d) : Nat) : Int) : Ky) = fkey L (T.nd a b c d) := rfl
    by_cases hm : T.nd a b c d ∈ P
    · have hpo : po (T.nd a b c d) P = P := by unfold po; rw [if_pos hm]
      rw [hpo]
      simp [p_rows_Rows_order, h1, natD_eq, fndO, hf, hin, hm]
    · have hpo : po (T.nd a b c d) P = po d (po c (po b (po a P))) ++ [.nd a b c d] := by rw [po, if_neg hm]
      have kd := fun c hc => h.kid ht (c := c) hc
      have ia := kd a (by simp [T.kids])
      have ib := kd b (by simp [T.kids])
      have ic := kd c (by simp [T.kids])
      have id' := kd d (by simp [T.kids])
      simp only [T.sz] at hl
      have la := po_len a P
      have lb := po_len b (po a P)
      have lc := po_len c (po b (po a P))
      have ld := po_len d (po c (po b (po a P)))
      have Pa := po_sub h a P ia hP
      have Pb := po_sub h b _ ib Pa
      have Pc := po_sub h c _ ic Pb
      have Pd := po_sub h d _ id' Pc
      have Ca := (po_ok a P (h.inm ia) cP).1
      have Cb := (po_ok b _ (h.inm ib) Ca).1
      have Cc := (po_ok c _ (h.inm ic) Cb).1
      have Cd := (po_ok d _ (h.inm id') Cc).1
      have ea := ev_order E h (k + 1 - (a.dep + 2)) a P ia hP cP (by omega)
      have eb := ev_order E h (k + 1 - (b.dep + 2)) b _ ib Pa Ca (by omega)
      have ec := ev_order E h (k + 1 - (c.dep + 2)) c _ ic Pb Cb (by omega)
      have ed := ev_order E h (k + 1 - (d.dep + 2)) d _ id' Pc Cc (by omega)
      rw [show a.dep + 2 + (k + 1 - (a.dep + 2)) = k + 1 by omega] at ea
      rw [show b.dep + 2 + (k + 1 - (b.dep + 2)) = k + 1 by omega] at eb
      rw [show c.dep + 2 + (k + 1 - (c.dep + 2)) = k + 1 by omega] at ec
      rw [show d.dep + 2 + (k + 1 - (d.dep + 2)) = k + 1 by omega] at ed
      have cP' := (po_ok (.nd a b c d) P (h.inm ht) cP).1
      rw [hpo] at cP' ⊢
      generalize hQ : po d (po c (po b (po a P))) = Q at *
      have hn : T.nd a b c d ∉ Q := fun z => by
        have := (List.nodup_append.mp cP'.nd).2.2 _ z _ (List.mem_singleton.mpr rfl)
        exact this rfl
      have hkp : ∀ v, kput (ixD (Q.map (fkey L)) 2) (fkey L (T.nd a b c d)) v = _ := fun v => kput_new (by
        rw [ixD_keys, fkey_mem Pd ht]; exact hn)
      have hfq : fndO L (Q ++ [.nd a b c d]) = .dk (ixD (Q.map (fkey L)) 2 ++ [(fkey L (T.nd a b c d), natD (Q.length + 2))]) := by
        unfold fndO
        rw [List.map_append, List.map_cons, List.map_nil, ixD_snoc, List.length_map, Nat.add_comm 2]
      have hlq : Q.length < lim := by omega
      generalize hN : num L (T.nd a b c d) = N at *
      have hgt : opC .gt (natD N) (.int 1) = some true := by rw [natD_eq, opC_gt, decide_eq_true h1]
      have hnin : opIn (natD N) (fndO L P) = some false := by
        unfold fndO
        rw [natD_eq, opIn_dk, kyOf_int, OB_some, hf, hin, decide_eq_false hm]
      have hlen : opBi .len [fndO L Q] = some (.int Q.length) := by
        unfold fndO
        rw [bi_lenK, ixD_length, List.length_map]
      have hst : ∀ r p S v, v.pure = true → stsD sg v (natD N) r p S (fndO L Q) = OB (wrS sg S r p (.dk (ixD (Q.map (fkey L)) 2 ++ [(fkey L (T.nd a b c d), v)]))) (fun S4 => .nx S4) .no := fun r p S v hv => by
        unfold fndO
        rw [natD_eq, stsD_dk, kyOf_int, OB_some, hf, hkp, hv, ixD_length, List.length_map, decide_eq_true hlq]
        rfl
      simp [p_rows_Rows_order, hgt, hnin, hq, ea, eb, ec, ed, hlen]
      rw [hst _ _ _ _ rfl]
      simp
      rw [hfq, natD_eq]
      rfl
/-- a telling -/
def telD (n : Nat) (top : Nat) (rows : List (List Nat)) : D := .tup [natD n, natD top, .tup (rows.map rowD)]
def shapeD (n : Nat) (t : T) : D := telD n (num (sub t) t) (rowsOf (sub t))
theorem num_sub_lf {t : T} (h : t.isLf = true) : num (sub t) t = num [] t := by
  cases t with
  | lf => rfl
  | nd => simp [T.isLf] at h
/-- what stands in new, the two plain numbers too -/
def newL (L P : List T) : List (Ky × D) := ixD (P.map (fkey L)) 2 ++ [(.inl 0, natD 0), (.inl 1, natD 1)]
theorem new_get {L P : List T} (hP : ∀ s ∈ P, s ∈ L) (hn : Cls P) {t : T} (ht : In P t) : kget (newL L P) (fkey L t) = some (natD (num P t)) := by
  unfold newL
  rw [kget_append, ixD_keys]
  cases t with
  | lf x =>
    rw [if_neg]
    · cases x <;> simp [fkey, num, kget, natD]
    · intro z
      obtain ⟨s, hs, e⟩ := List.mem_map.mp z
      have := num_inj (L := L) (.inr (hP s hs)) (.inl rfl) (by have := Sum.inl.inj e; omega : num L s = num L (.lf x))
      subst this
      have := hn.nl _ hs
      simp [T.isLf] at this
  | nd a b c d =>
    rcases ht with hz | hz
    · simp [T.isLf] at hz
    rw [if_pos (List.mem_map.mpr ⟨_, hz, rfl⟩)]
    have hi : P.idxOf (T.nd a b c d) < P.length := List.idxOf_lt_length_iff.mpr hz
    rw [ixD_at _ 2 (P.idxOf (T.nd a b c d)) _ (fkeys_nd hP hn.nd) (by rw [List.getElem?_map, List.getElem?_eq_getElem hi, List.getElem_idxOf]; rfl)]
    simp only [num]
    rw [Nat.add_comm]
theorem new_keys (L P : List T) : (newL L P).map (fun kv => kyD kv.1) = P.map (fun s => natD (num L s)) ++ [natD 0, natD 1] := by
  unfold newL
  rw [List.map_append]
  congr 1
  have : ∀ (l : List Ky) (i : Nat), (ixD l i).map (fun kv => kyD kv.1) = l.map kyD := by
    intro l
    induction l with
    | nil => intro i; rfl
    | cons x r ih => intro i; simp [ixD, ih]
  rw [this, List.map_map]
  rfl
theorem ev_shape (E : RowsE sg tb) {L : List T} (h : Cls L) (m n : Nat) (t : T) (ht : In L t) (hl : t.sz + 2 ≤ lim) :
    run sg tb (t.dep + 3 + n) 155 [rowsO L, natD m, natD (num L t)] = FR.ok (shapeD m t) [some (rowsO L), some (natD m), some (natD (num L t))] := by
  rw [show t.dep + 3 + n = (t.dep + 2 + n) + 1 by omega, run_succ E.shape, runB_eq]
  have eo := ev_order E h n t [] ht (by simp) .nil (by show 0 + t.sz ≤ lim; omega)
  have hsub : ∀ s ∈ sub t, s ∈ L := po_sub h t [] ht (by simp)
  have hcl : Cls (sub t) := sub_cls (h.inm ht)
  have hlen : (sub t).length ≤ t.sz := by have := po_len t []; simp at this; exact this
  have hin : In (sub t) t := sub_in (h.inm ht)
  rw [show po t [] = sub t from rfl, show fndO L [] = .dk [] from rfl] at eo
  generalize hK : t.dep + 2 + n = K at *
  obtain ⟨K', rfl⟩ : ∃ K', K = K' + 1 := ⟨t.dep + 1 + n, by omega⟩
  generalize hP : sub t = P at *
  have nk : ∀ x : Bool, fkey L (.lf x) ∉ (ixD (P.map (fkey L)) 2).map (·.1) := fun x z => by
    rw [ixD_keys] at z
    obtain ⟨s, hs, e⟩ := List.mem_map.mp z
    have := fkey_inj (.inr (hsub s hs)) (.inl rfl) e
    subst this
    have := hcl.nl _ hs
    simp [T.isLf] at this
  have k0 : kput (ixD (P.map (fkey L)) 2) (.inl 0) (.int 0) = ixD (P.map (fkey L)) 2 ++ [(.inl 0, natD 0)] := kput_new (nk false)
  have k1 : kput (ixD (P.map (fkey L)) 2 ++ [(.inl 0, natD 0)]) (.inl 1) (.int 1) = newL L P := by
    rw [kput_new]
    · unfold newL; rw [List.append_assoc]; rfl
    · rw [List.map_append, List.mem_append, not_or]
      refine ⟨nk true, ?_⟩
      simp
  have hfd : fndO L P = .dk (ixD (P.map (fkey L)) 2) := rfl
  rw [hfd] at eo
  have l1 : P.length < 16777216 := by have : lim = 16777216 := rfl; omega
  have l2 : P.length + 1 < 16777216 := by have : lim = 16777216 := rfl; omega
  have hkey := new_keys L P
  have hg := fun {s} (hs : In P s) => new_get hsub hcl hs
  have hq := fun {s} (hs : s ∈ P) => ev_quarters E K' (.inr (hsub s hs))
  simp [p_rows_Rows_shape, eo, k0, k1, l1, l2, ixD_length, hkey]
  obtain ⟨xs, hxs⟩ : ∃ xs : List D, xs = P.map (fun s => natD (num L s)) ++ [natD 0, natD 1] := ⟨_, rfl⟩
  obtain ⟨St, hSt⟩ : ∃ St : Nat → Sl, St = fun i => [some (rowsO L), some (natD m), some (natD (num L t)), some (.lk (.dk (newL L P))), some (.lst (((rowsOf P).take i).map rowD)), (if i = 0 then none else xs[i - 1]?), none] := ⟨_, rfl⟩
  have h0 : [some (rowsO L), some (natD m), some (natD (num L t)), some (.lk (.dk (newL L P))), some (.lst []), none, none] = St 0 := by rw [hSt]; rfl
  have hend : St xs.length = [some (rowsO L), some (natD m), some (natD (num L t)), some (.lk (.dk (newL L P))), some (.lst ((rowsOf P).map rowD)), some (natD 1), none] := by
    rw [hSt, hxs]
    simp [rowsOf_len, List.take_of_length_le]
  rw [← hxs, h0, loopF_st xs St ?_, hend]
  · have ht' := hg hin
    have hf : (Sum.inl ((num L t : Nat) : Int) : Ky) = fkey L t := rfl
    simp [natD_eq (num L t), hf, ht', shapeD, telD, hP]
  · intro i x hx
    have hx0 := hx
    rw [hxs] at hx
    by_cases hi : i < P.length
    · rw [List.getElem?_append_left (by simpa using hi), List.getElem?_map, List.getElem?_eq_getElem hi] at hx
      simp at hx
      have hs : P[i] ∈ P := List.getElem_mem hi
      obtain ⟨a, b, c, d, hk⟩ := (P[i]).kids4
      have hq' := hq hs
      rw [hx] at hq'
      have hr : rowD (rowOf L P[i]) = .tup [natD (num L a), natD (num L b), natD (num L c), natD (num L d)] := by unfold rowOf; rw [hk]; rfl
      rw [hr] at hq'
      have hgt : opC .gt x (.int 1) = some true := by
        rw [← hx, num_nd (hcl.nl _ hs), natD_eq, opC_gt, decide_eq_true (by omega)]
      have hgc : ∀ e ∈ (P[i]).kids, (kyOf (natD (num L e))).bind (kget (newL L P)) = some (natD (num P e)) := fun e he => hg (hcl.kid (.inr hs) he)
      rw [hk] at hgc
      have ga := hgc a (by simp)
      have gb := hgc b (by simp)
      have gc := hgc c (by simp)
      have gd := hgc d (by simp)
      have hxp : x.pure = true := by rw [← hx]; rfl
      have hxl : x.lin = false := by rw [← hx]; rfl
      have hlt : min i (rowsOf P).length < 16777216 := by rw [rowsOf_len]; omega
      have hrow : (rowsOf P).take (i + 1) = (rowsOf P).take i ++ [rowOf P P[i]] := by
        rw [List.take_add_one, List.getElem?_eq_getElem (by rw [rowsOf_len]; exact hi)]
        unfold rowsOf
        simp
      have hr2 : rowD (rowOf P P[i]) = .tup [natD (num P a), natD (num P b), natD (num P c), natD (num P d)] := by unfold rowOf; rw [hk]; rfl
      rw [hSt]
      refine ⟨_, by simp; rfl, .inl ?_⟩
      simp [hgt, hxp, hxl, hq', ga, gb, gc, gd, hlt, hrow, hr2, hx0]
    · rw [List.getElem?_append_right (by simpa using hi)] at hx
      have hx1 : x = natD 0 ∨ x = natD 1 := by
        have := List.mem_of_getElem? hx
        simpa using this
      have hgt : opC .gt x (.int 1) = some false := by
        rcases hx1 with rfl | rfl <;> rfl
      have hxp : x.pure = true := by rcases hx1 with rfl | rfl <;> rfl
      have hxl : x.lin = false := by rcases hx1 with rfl | rfl <;> rfl
      have hrow : ∀ j, P.length ≤ j → ((rowsOf P).map rowD).take j = (rowsOf P).map rowD := fun j hj => List.take_of_length_le (by rw [List.length_map, rowsOf_len]; exact hj)
      rw [hSt]
      refine ⟨_, by simp; rfl, .inl ?_⟩
      simp [hgt, hxp, hxl, hx0, hrow i (by omega), hrow (i + 1) (by omega)]
end
end Q
end
section
set_option linter.all false
set_option Elab.async false
set_option maxRecDepth 100000
set_option maxHeartbeats 4000000
namespace Q
open PySem
/-! tellings: taken up, told once, judged -/
theorem snoc_ind {α : Type} {P : List α → Prop} (h0 : P []) (hs : ∀ l a, P l → P (l ++ [a])) (l : List α) : P l := by
  rw [← List.reverse_reverse l]
  induction l.reverse with
  | nil => exact h0
  | cons a r ih => rw [List.reverse_cons]; exact hs _ _ ih
def Vr (rows : List (List Nat)) : Prop := ∀ i q, rows[i]? = some q → q.length = 4 ∧ ∀ k ∈ q, k < i + 2
theorem Vr.take {rows : List (List Nat)} (h : Vr rows) (n : Nat) : Vr (rows.take n) := fun i q e => by
  rw [List.getElem?_take] at e
  split at e
  · exact h i q e
  · simp at e
theorem dens_len (rows : List (List Nat)) : (dens rows).length = rows.length + 2 := by
  refine snoc_ind (P := fun rows => (dens rows).length = rows.length + 2) rfl (fun l a ih => ?_) rows
  rw [dens_snoc, List.length_append, ih]; simp
theorem dens_pre (rows more : List (List Nat)) : dens rows <+: dens (rows ++ more) := by
  refine snoc_ind (P := fun more => dens rows <+: dens (rows ++ more)) (by simp) (fun l a ih => ?_) more
  rw [← List.append_assoc, dens_snoc]
  exact ih.trans (List.prefix_append _ _)
theorem dens_two (rows : List (List Nat)) : [T.lf false, T.lf true] <+: dens rows := dens_pre [] rows
theorem den_at {rows : List (List Nat)} {k : Nat} (h : k < rows.length + 2) : (dens rows)[k]? = some (den rows k) := by
  unfold den nth
  rw [List.getD_eq_getElem?_getD, List.getElem?_eq_getElem (by rw [dens_len]; exact h)]; rfl
theorem den_pre {rows more : List (List Nat)} {k : Nat} (h : k < rows.length + 2) : den (rows ++ more) k = den rows k := by
  obtain ⟨m, e⟩ := dens_pre rows more
  have h1 := den_at h
  have h2 := den_at (rows := rows ++ more) (k := k) (by rw [List.length_append]; omega)
  rw [← e, List.getElem?_append_left (by rw [dens_len]; exact h), h1] at h2
  exact (Option.some.inj h2).symm
/-- the squares of all rows, put to those that are there -/
def takeL (L : List T) (rows : List (List Nat)) : List T := ((dens rows).drop 2).foldl put L
theorem takeL_snoc (L : List T) (rows : List (List Nat)) (q : List Nat) : takeL L (rows ++ [q]) = put (takeL L rows) (mkq (dens rows) q) := by
  unfold takeL
  rw [dens_snoc, List.drop_append_of_le_length (by rw [dens_len]; omega), List.foldl_append]
  rfl
theorem takeL_pre (L : List T) (rows : List (List Nat)) : L <+: takeL L rows := by
  refine snoc_ind (P := fun rows => L <+: takeL L rows) (List.prefix_refl _) (fun l a ih => ?_) rows
  rw [takeL_snoc]
  exact ih.trans (put_pre _ _)
theorem put_len (L : List T) (t : T) : (put L t).length ≤ L.length + 1 := by
  unfold put; split
  · omega
  · simp
theorem takeL_len (L : List T) (rows : List (List Nat)) : (takeL L rows).length ≤ L.length + rows.length := by
  refine snoc_ind (P := fun rows => (takeL L rows).length ≤ L.length + rows.length) (Nat.le_refl _) (fun l a ih => ?_) rows
  rw [takeL_snoc, List.length_append]
  have := put_len (takeL L l) (mkq (dens l) a)
  simp; omega
theorem nth_mem {acc : List T} {k : Nat} (h : k < acc.length) : nth acc k ∈ acc := by
  unfold nth
  rw [List.getD_eq_getElem?_getD, List.getElem?_eq_getElem h]
  exact List.getElem_mem h
theorem takeL_ok {L : List T} (h : Cls L) {rows : List (List Nat)} (v : Vr rows) : Cls (takeL L rows) ∧ ∀ x ∈ dens rows, In (takeL L rows) x := by
  refine snoc_ind (P := fun rows => Vr rows → Cls (takeL L rows) ∧ ∀ x ∈ dens rows, In (takeL L rows) x) (fun _ => ⟨h, ?_⟩) (fun l q ih v => ?_) rows v
  · intro x hx
    have : x = .lf false ∨ x = .lf true := by simpa [dens] using hx
    rcases this with rfl | rfl <;> exact .inl rfl
  · have vl : Vr l := by have := v.take l.length; rwa [List.take_left] at this
    obtain ⟨c1, c2⟩ := ih vl
    obtain ⟨h4, hk⟩ := v l.length q (by rw [List.getElem?_append_right (Nat.le_refl _)]; simp)
    rw [takeL_snoc, dens_snoc]
    obtain ⟨a, b, c, d, rfl⟩ : ∃ a b c d, q = [a, b, c, d] := by
      match q, h4 with
      | [a, b, c, d], _ => exact ⟨a, b, c, d, rfl⟩
    simp at hk
    have iin : ∀ k, k < l.length + 2 → In (takeL L l) (nth (dens l) k) := fun k hk => c2 _ (nth_mem (by rw [dens_len]; exact hk))
    have i1 := iin a hk.1
    have i2 := iin b hk.2.1
    have i3 := iin c hk.2.2.1
    have i4 := iin d hk.2.2.2
    refine ⟨put_cls c1 (T.mk_nm (c1.inm i1) (c1.inm i2) (c1.inm i3) (c1.inm i4)) ?_, ?_⟩
    · rw [show mkq (dens l) [a, b, c, d] = T.mk (nth (dens l) a) (nth (dens l) b) (nth (dens l) c) (nth (dens l) d) from rfl, T.kids_mk]
      intro e he
      simp at he
      rcases he with rfl | rfl | rfl | rfl <;> assumption
    · intro x hx
      rcases List.mem_append.mp hx with hx | hx
      · exact (c2 x hx).mono (put_pre _ _)
      · simp at hx; subst hx; exact put_in _ _
theorem den_nm {rows : List (List Nat)} (v : Vr rows) {x : T} (hx : x ∈ dens rows) : x.Nm := by
  obtain ⟨c, i⟩ := takeL_ok Cls.nil v
  exact c.inm (i x hx)
section
variable {sg : Sg} {tb : Nat → Option Fn}
theorem ev_take (E : RowsE sg tb) (n : Nat) {L : List T} (h : Cls L) {m top : Nat} {rows : List (List Nat)} (v : Vr rows) (ht : top < rows.length + 2) (hl : L.length + rows.length + 2 ≤ lim) :
    run sg tb (n + 2) 153 [rowsO L, telD m top rows] = FR.ok (natD (num (takeL L rows) (den rows top))) [some (rowsO (takeL L rows)), some (telD m top rows)] := by
  rw [run_succ E.take, runB_eq]
  obtain ⟨xs, hxs⟩ : ∃ xs : List D, xs = rows.map rowD := ⟨_, rfl⟩
  obtain ⟨St, hSt⟩ : ∃ St : Nat → Sl, St = fun i => [some (rowsO (takeL L (rows.take i))), some (.tup [natD m, natD top, .tup xs]), some (natD m), some (natD top), some (.tup xs),
      some (.lst ((dens (rows.take i)).map fun x => natD (num (takeL L (rows.take i)) x))), (if i = 0 then none else xs[i - 1]?), none] := ⟨_, rfl⟩
  have h0 : [some (rowsO L), some (.tup [natD m, natD top, .tup xs]), some (natD m), some (natD top), some (.tup xs), some (.lst [.int 0, .int 1]), none, none] = St 0 := by rw [hSt]; rfl
  have hlen : xs.length = rows.length := by rw [hxs, List.length_map]
  simp [p_rows_Rows_take, telD, ← hxs]
  rw [h0, loopF_st xs St ?_]
  · rw [hSt, hlen]
    have e : atZ ((dens rows).map fun x => natD (num (takeL L rows) x)) ((top : Nat) : Int) = some (natD (num (takeL L rows) (den rows top))) := by
      rw [atZ_nat, List.getElem?_map, den_at ht]; rfl
    simp [natD_eq top, e]
  · intro i x hx
    have hi : i < rows.length := by
      have := (List.getElem?_eq_some_iff.mp hx).1
      omega
    have hq : rows[i]? = some rows[i] := List.getElem?_eq_getElem hi
    obtain ⟨h4, hk⟩ := v i _ hq
    have hx2 : x = rowD rows[i] := by
      rw [hxs, List.getElem?_map, hq] at hx
      exact (Option.some.inj hx).symm
    have htake : rows.take (i + 1) = rows.take i ++ [rows[i]] := by rw [List.take_add_one, hq]; rfl
    obtain ⟨c1, c2⟩ := takeL_ok h (v.take i)
    have dl : (dens (rows.take i)).length = i + 2 := by rw [dens_len, List.length_take]; omega
    generalize hqq : rows[i] = q at *
    obtain ⟨a, b, c, d, rfl⟩ : ∃ a b c d, q = [a, b, c, d] := by
      match q, h4 with
      | [a, b, c, d], _ => exact ⟨a, b, c, d, rfl⟩
    simp at hk
    have hS1 : takeL L (rows.take (i + 1)) = put (takeL L (rows.take i)) (mkq (dens (rows.take i)) [a, b, c, d]) := by rw [htake, takeL_snoc]
    have hS2 : dens (rows.take (i + 1)) = dens (rows.take i) ++ [mkq (dens (rows.take i)) [a, b, c, d]] := by rw [htake, dens_snoc]
    have hl2 : (takeL L (rows.take (i + 1))).length ≤ lim := by
      have := takeL_len L (rows.take (i + 1))
      rw [List.length_take] at this
      omega
    rw [hSt]
    dsimp only
    rw [hS1, hS2]
    rw [hS1] at hl2
    generalize takeL L (rows.take i) = M at *
    generalize dens (rows.take i) = acc at *
    have iin : ∀ k, k < i + 2 → In M (nth acc k) := fun k hk => c2 _ (nth_mem (by omega))
    have hnum := ev_number E n c1 (iin a hk.1) (iin b hk.2.1) (iin c hk.2.2.1) (iin d hk.2.2.2) hl2
    rw [show T.mk (nth acc a) (nth acc b) (nth acc c) (nth acc d) = mkq acc [a, b, c, d] from rfl] at hnum
    generalize mkq acc [a, b, c, d] = t at *
    have hat : ∀ k, k < i + 2 → atZ (acc.map fun x => natD (num M x)) ((k : Nat) : Int) = some (natD (num M (nth acc k))) := fun k hk => by
      rw [atZ_nat, List.getElem?_map, List.getElem?_eq_getElem (by omega)]
      unfold nth
      rw [List.getD_eq_getElem?_getD, List.getElem?_eq_getElem (by omega)]; rfl
    have hmap : acc.map (fun x => natD (num (put M t) x)) = acc.map fun x => natD (num M x) := List.map_congr_left fun x hx => by rw [num_pre (c2 x hx) (put_pre _ _)]
    have a1 := hat a hk.1
    have a2 := hat b hk.2.1
    have a3 := hat c hk.2.2.1
    have a4 := hat d hk.2.2.2
    have hr : x = .tup [natD a, natD b, natD c, natD d] := hx2
    have hrd : ∀ a b c d : Nat, rowD [a, b, c, d] = .tup [natD a, natD b, natD c, natD d] := fun _ _ _ _ => rfl
    rw [hrd] at hnum
    have hl3 : i + 2 < 16777216 := by have : lim = 16777216 := rfl; omega
    refine ⟨_, by simp; rfl, .inl ?_⟩
    rw [List.map_append, hmap]
    have hop : ∀ (xs : List D) k, opB .ix (.lst xs) (natD k) = atZ xs ((k : Nat) : Int) := fun _ _ => rfl
    simp [hr, hop, a1, a2, a3, a4, hnum, dl, hl3, hx]
structure TelE (sg : Sg) (tb : Nat → Option Fn) : Prop where
  rows : RowsE sg tb
  g9 : sg.glob 9 = some (.int 12)
  one_of : tb 156 = some p_rows_one_of
  is_whole : tb 55 = some p_floors_is_whole
  is_size : tb 56 = some p_floors_is_size
  is_number : tb 176 = some p_tellings_is_number
  is_row : tb 177 = some p_tellings_is_row
  depths_of : tb 178 = some p_tellings_depths_of
  is_telling : tb 179 = some p_tellings_is_telling
  is_shape : tb 180 = some p_tellings_is_shape
  want_shape : tb 181 = some p_tellings_want_shape
theorem ev_one_of (E : TelE sg tb) (n : Nat) {m top : Nat} {rows : List (List Nat)} (v : Vr rows) (ht : top < rows.length + 2) (hl : rows.length + 2 ≤ lim) (hz : (den rows top).sz + 2 ≤ lim) :
    run sg tb ((den rows top).dep + 4 + n) 156 [telD m top rows] = FR.ok (shapeD m (den rows top)) [some (telD m top rows)] := by
  obtain ⟨c1, c2⟩ := takeL_ok Cls.nil v
  have hin := c2 _ (List.mem_of_getElem? (den_at ht))
  have es := ev_shape E.rows c1 m n (den rows top) hin hz
  have et := ev_take E.rows ((den rows top).dep + 1 + n) Cls.nil (m := m) v ht (by show 0 + rows.length + 2 ≤ lim; omega)
  have ei := ev_init E.rows ((den rows top).dep + 2 + n)
  rw [show (den rows top).dep + 1 + n + 2 = (den rows top).dep + 3 + n by omega] at et
  rw [show (den rows top).dep + 2 + n + 1 = (den rows top).dep + 3 + n by omega] at ei
  rw [show (den rows top).dep + 4 + n = (den rows top).dep + 3 + n + 1 by omega, run_succ E.one_of, runB_eq]
  generalize (den rows top).dep + 3 + n = K at *
  have hx : atZ [natD m, natD top, D.tup (rows.map rowD)] 0 = some (natD m) := rfl
  have ht2 : telD m top rows = .tup [natD m, natD top, .tup (rows.map rowD)] := rfl
  rw [ht2] at et ⊢
  simp [p_rows_one_of, ei, et, es, hx]
theorem ev_is_whole (E : TelE sg tb) (n : Nat) (i : Int) : run sg tb (n + 1) 55 [.int i] = FR.ok (.bl true) [some (.int i)] := by
  rw [run_succ E.is_whole, runB_eq]
  simp [p_floors_is_whole, isTys, isTy]
theorem ev_is_size (E : TelE sg tb) (n : Nat) (i : Int) : run sg tb (n + 2) 56 [.int i] = FR.ok (.bl (decide (0 ≤ i ∧ i ≤ 12))) [some (.int i)] := by
  rw [run_succ E.is_size, runB_eq]
  have := ev_is_whole E n i
  by_cases h : 0 ≤ i <;> by_cases h2 : i ≤ 12 <;> simp [p_floors_is_size, this, E.g9, h, h2]
theorem ev_is_number (E : TelE sg tb) (n : Nat) (i j : Int) : run sg tb (n + 2) 176 [.int i, .int j] = FR.ok (.bl (decide (0 ≤ i ∧ i < j))) [some (.int i), some (.int j)] := by
  rw [run_succ E.is_number, runB_eq]
  have := ev_is_whole E n i
  by_cases h : 0 ≤ i <;> by_cases h2 : i < j <;> simp [p_tellings_is_number, this, h, h2]
theorem boolsOf_bl : ∀ l : List Bool, boolsOf (l.map D.bl) = some l
  | [] => rfl
  | b :: l => by simp [boolsOf, boolsOf_bl l]
theorem ev_is_row (E : TelE sg tb) (n : Nat) (q : List Nat) (hq : q.length ≤ lim) (p : Nat) : run sg tb (n + 3) 177 [rowD q, .int p] = FR.ok (.bl (decide (q.length = 4 ∧ ∀ k ∈ q, k < p + 2))) [some (rowD q), some (.int p)] := by
  rw [run_succ E.is_row, runB_eq]
  have hi : isTys [.tuple] (rowD q) = some true := rfl
  have hlen : opBi .len [rowD q] = some (.int q.length) := by simp [rowD]
  have hit : itemsOf .seq [rowD q] = some (q.map natD) := rfl
  have hN := fun i j => ev_is_number E n i j
  by_cases h4 : q.length = 4
  · obtain ⟨a, b, c, d, rfl⟩ : ∃ a b c d, q = [a, b, c, d] := by
      match q, h4 with
      | [a, b, c, d], _ => exact ⟨a, b, c, d, rfl⟩
    have hnn : ∀ k : Nat, decide (((k : Nat) : Int) < (p : Int) + 2) = decide (k < p + 2) := fun k => decide_eq_decide.mpr (by omega)
    have hb : ∀ a b c d : Bool, boolsOf [.bl a, .bl b, .bl c, .bl d] = some [a, b, c, d] := fun a b c d => boolsOf_bl [a, b, c, d]
    have hitm : ∀ k : Nat, natD k = .int (k : Nat) := fun _ => rfl
    simp [p_tellings_is_row, hi, hlen, rowD, hitm, hN, hb, isTys, isTy]
    simp only [hnn]
  · have h4' : ¬ ((q.length : Nat) : Int) = 4 := by omega
    simp [p_tellings_is_row, hi, hlen, h4, h4']
/-- the depths of all numbers -/
def dpq (acc : List Nat) (q : List Nat) : Nat := 1 + q.foldr (fun k m => max (acc.getD k 0) m) 0
def dps (rows : List (List Nat)) : List Nat := rows.foldl (fun acc q => acc ++ [dpq acc q]) [0, 0]
theorem dps_snoc (rows : List (List Nat)) (q : List Nat) : dps (rows ++ [q]) = dps rows ++ [dpq (dps rows) q] := by
  unfold dps
  rw [List.foldl_append]
  rfl
theorem dps_len (rows : List (List Nat)) : (dps rows).length = rows.length + 2 := by
  refine snoc_ind (P := fun rows => (dps rows).length = rows.length + 2) rfl (fun l a ih => ?_) rows
  rw [dps_snoc, List.length_append, ih]; simp
theorem ev_depths (E : TelE sg tb) (n : Nat) {rows : List (List Nat)} (v : Vr rows) (hl : rows.length + 2 ≤ lim) :
    run sg tb (n + 1) 178 [.tup (rows.map rowD)] = FR.ok (.lst ((dps rows).map natD)) [some (.tup (rows.map rowD))] := by
  rw [run_succ E.depths_of, runB_eq]
  obtain ⟨xs, hxs⟩ : ∃ xs : List D, xs = rows.map rowD := ⟨_, rfl⟩
  obtain ⟨St, hSt⟩ : ∃ St : Nat → Sl, St = fun i => [some (.tup xs), some (.lst ((dps (rows.take i)).map natD)), (if i = 0 then none else xs[i - 1]?), none] := ⟨_, rfl⟩
  have h0 : [some (.tup xs), some (.lst [.int 0, .int 0]), none, none] = St 0 := by rw [hSt]; rfl
  have hlen : xs.length = rows.length := by rw [hxs, List.length_map]
  simp [p_tellings_depths_of, ← hxs]
  rw [h0, loopF_st xs St ?_]
  · rw [hSt, hlen]
    simp
  · intro i x hx
    have hi : i < rows.length := by
      have := (List.getElem?_eq_some_iff.mp hx).1
      omega
    have hq : rows[i]? = some rows[i] := List.getElem?_eq_getElem hi
    obtain ⟨h4, hk⟩ := v i _ hq
    have hx2 : x = rowD rows[i] := by
      rw [hxs, List.getElem?_map, hq] at hx
      exact (Option.some.inj hx).symm
    have htake : rows.take (i + 1) = rows.take i ++ [rows[i]] := by rw [List.take_add_one, hq]; rfl
    have dl : (dps (rows.take i)).length = i + 2 := by rw [dps_len, List.length_take]; omega
    generalize hqq : rows[i] = q at *
    obtain ⟨a, b, c, d, rfl⟩ : ∃ a b c d, q = [a, b, c, d] := by
      match q, h4 with
      | [a, b, c, d], _ => exact ⟨a, b, c, d, rfl⟩
    simp at hk
    rw [hSt]
    dsimp only
    rw [htake, dps_snoc]
    generalize dps (rows.take i) = acc at *
    have hat : ∀ k, k < i + 2 → atZ (acc.map natD) ((k : Nat) : Int) = some (natD (acc.getD k 0)) := fun k hk => by
      rw [atZ_nat, List.getElem?_map, List.getElem?_eq_getElem (by omega), List.getD_eq_getElem?_getD, List.getElem?_eq_getElem (by omega)]; rfl
    have a1 := hat a hk.1
    have a2 := hat b hk.2.1
    have a3 := hat c hk.2.2.1
    have a4 := hat d hk.2.2.2
    have hr : x = .tup [natD a, natD b, natD c, natD d] := hx2
    have hop : ∀ (xs : List D) k, opB .ix (.lst xs) (natD k) = atZ xs ((k : Nat) : Int) := fun _ _ => rfl
    have hmx : ∀ a b c d : Nat, opBi .max [.lst [natD a, natD b, natD c, natD d]] = some (natD (max a (max b (max c (max d 0))))) := fun a b c d => by
      show some (D.int (max (max (max (a : Int) b) c) d)) = _
      unfold natD
      congr 2
      omega
    have hadd : ∀ k : Nat, opB .add (.int 1) (natD k) = some (natD (1 + k)) := fun k => by
      show some (D.int (1 + (k : Int))) = _
      unfold natD; congr 2
    have hl3 : i + 2 < 16777216 := by have : lim = 16777216 := rfl; omega
    refine ⟨_, by simp; rfl, .inl ?_⟩
    rw [List.map_append]
    simp [hr, hop, a1, a2, a3, a4, hmx, hadd, dl, hl3, hx, dpq]
theorem enumL_mem {x : D} : ∀ {xs : List D} {n : Nat}, x ∈ enumL n xs → ∃ i d, xs[i]? = some d ∧ x = .tup [.int ((n + i : Nat) : Int), d]
  | [], n, h => by simp [enumL] at h
  | y :: ys, n, h => by
    simp only [enumL, List.mem_cons] at h
    rcases h with rfl | h
    · exact ⟨0, y, rfl, rfl⟩
    · obtain ⟨i, d, e, rfl⟩ := enumL_mem h
      exact ⟨i + 1, d, by simpa using e, by rw [show n + 1 + i = n + (i + 1) by omega]⟩
theorem enumL_len : ∀ (xs : List D) (n : Nat), (enumL n xs).length = xs.length
  | [], _ => rfl
  | x :: xs, n => by simp [enumL, enumL_len xs]
theorem boolsOf_const (xs : List D) : boolsOf (xs.map fun _ => D.bl true) = some (xs.map fun _ => true) := by
  have := boolsOf_bl (xs.map fun _ => true)
  rwa [List.map_map] at this
theorem ev_is_telling (E : TelE sg tb) (n : Nat) {m top : Nat} {rows : List (List Nat)} (v : Vr rows) (ht : top < rows.length + 2) (hm : m ≤ 12) (hl : rows.length + 2 ≤ lim) :
    run sg tb (n + 4) 179 [telD m top rows] = FR.ok (.bl (decide ((dps rows).getD top 0 ≤ m))) [some (telD m top rows)] := by
  rw [run_succ E.is_telling, runB_eq]
  have hsz := ev_is_size E (n + 1) (m : Int)
  have hrow := fun q hq p => ev_is_row E n q hq p
  have hnum := ev_is_number E (n + 1) (top : Int) ((rows.length : Int) + 2)
  have hdep := ev_depths E (n + 2) v hl
  rw [show n + 1 + 2 = n + 3 by omega] at hsz hnum
  rw [show n + 2 + 1 = n + 3 by omega] at hdep
  have ht2 : telD m top rows = .tup [.int m, .int top, .tup (rows.map rowD)] := rfl
  rw [ht2]
  obtain ⟨xs, hxs⟩ : ∃ xs : List D, xs = rows.map rowD := ⟨_, rfl⟩
  have hlen : xs.length = rows.length := by rw [hxs, List.length_map]
  rw [← hxs] at hdep ⊢
  have hcomp : ∀ S : Sl, S = [some (.tup [.int m, .int top, .tup xs]), some (.int m), some (.int top), some (.tup xs), none, none] → loopC (evE sg (run sg tb (n + 3)) (.cst (.bl true))) (evE sg (run sg tb (n + 3)) (.call 177 (.cons (.var 5) (.cons (.var 4) .nil)))) [4, 5] [4, 5] (enumL 0 xs) [] S = .ok (.lst ((enumL 0 xs).map fun _ => .bl true)) S := by
    intro S hS
    refine loopC_map _ _ (fun S => by rw [evE]) (fun x hx => ?_) (by rw [enumL_len, hlen]; omega)
    obtain ⟨i, d, hd, rfl⟩ := enumL_mem hx
    rw [hxs, List.getElem?_map] at hd
    have hi : i < rows.length := by
      rcases Nat.lt_or_ge i rows.length with h | h
      · exact h
      · rw [List.getElem?_eq_none h] at hd; simp at hd
    rw [List.getElem?_eq_getElem hi] at hd
    have hd' : d = rowD rows[i] := (Option.some.inj hd).symm
    subst hd'
    obtain ⟨h4, hk⟩ := v i _ (List.getElem?_eq_getElem hi)
    have hr := hrow rows[i] (by rw [h4]; decide) i
    rw [decide_eq_true ⟨h4, hk⟩] at hr
    subst hS
    refine ⟨_, by simp; rfl, _, by simp [hr]; rfl, rfl, by simp⟩
  have hx : ∀ a b c : D, atZ [a, b, c] 0 = some a := fun _ _ _ => rfl
  have hx2 : ∀ a b c : D, atZ [a, b, c] 2 = some c := fun _ _ _ => rfl
  have hit : isTys [.tuple] (D.tup xs) = some true := rfl
  have hit2 : isTys [.tuple] (D.tup [.int m, .int top, .tup xs]) = some true := rfl
  have hm' : decide (0 ≤ (m : Int) ∧ (m : Int) ≤ 12) = true := decide_eq_true (by omega)
  have ht' : decide (0 ≤ (top : Int) ∧ (top : Int) < (rows.length : Int) + 2) = true := decide_eq_true (by omega)
  rw [hm'] at hsz
  rw [ht'] at hnum
  have hat : atZ ((dps rows).map natD) ((top : Nat) : Int) = some (natD ((dps rows).getD top 0)) := by
    rw [atZ_nat, List.getElem?_map, List.getElem?_eq_getElem (by rw [dps_len]; omega), List.getD_eq_getElem?_getD, List.getElem?_eq_getElem (by rw [dps_len]; omega)]; rfl
  have hcmp : opC .le (natD ((dps rows).getD top 0)) (.int m) = some (decide ((dps rows).getD top 0 ≤ m)) := by
    rw [natD_eq, opC_le]; congr 1; exact decide_eq_decide.mpr (by omega)
  have hall : ((enumL 0 xs).all fun _ => true) = true := List.all_eq_true.mpr fun _ _ => rfl
  generalize (dps rows).getD top 0 = dt at *
  simp [p_tellings_is_telling, hit, hit2, hx, hx2, hsz, hlen, hnum, hcomp, boolsOf_const, hall, hdep, hat, hcmp]
theorem rowsOf_vr {L : List T} (h : Cls L) : Vr (rowsOf L) := fun i q e => by
  unfold rowsOf at e
  rw [List.getElem?_map] at e
  cases hs : L[i]? with
  | none => rw [hs] at e; simp at e
  | some s =>
    rw [hs] at e
    have e2 : rowOf L s = q := Option.some.inj e
    subst e2
    refine ⟨by obtain ⟨a, b, c, d, hk⟩ := s.kids4; unfold rowOf; rw [hk]; rfl, fun k hk => ?_⟩
    unfold rowOf at hk
    obtain ⟨c, hc, rfl⟩ := List.mem_map.mp hk
    have hin := h.cl i s hs c hc
    have := num_lt hin
    rw [num_pre hin (List.take_prefix _ _), ← num_pre hin (List.prefix_refl _)]
    have hle : (L.take i).length ≤ i := by rw [List.length_take]; omega
    omega
theorem Cls.take {L : List T} (h : Cls L) (n : Nat) : Cls (L.take n) := by
  refine ⟨h.nd.sublist (List.take_sublist _ _), fun s hs => h.nl s (List.mem_of_mem_take hs), fun s hs => h.nm s (List.mem_of_mem_take hs), fun i s e c hc => ?_⟩
  rw [List.getElem?_take] at e
  split at e
  · have := h.cl i s e c hc
    rwa [List.take_take, Nat.min_eq_left (by omega)]
  · simp at e
theorem dps_rowsOf {L : List T} (h : Cls L) : dps (rowsOf L) = 0 :: 0 :: L.map T.dep := by
  suffices ∀ n, n ≤ L.length → dps (rowsOf (L.take n)) = 0 :: 0 :: (L.take n).map T.dep by
    have := this L.length (Nat.le_refl _)
    rwa [List.take_length] at this
  intro n
  induction n with
  | zero => intro _; rfl
  | succ n ih =>
    intro hn
    have hn' : n < L.length := by omega
    have e : L[n]? = some L[n] := List.getElem?_eq_getElem hn'
    rw [List.take_succ_eq_append_getElem hn']
    have ck := h.cl n L[n] e
    rw [rowsOf_snoc (h.take n) ck, dps_snoc, ih (by omega), List.map_append]
    rw [List.cons_append, List.cons_append]
    congr 3
    have depk : ∀ x, In (L.take n) x → (0 :: 0 :: (L.take n).map T.dep).getD (num (L.take n) x) 0 = x.dep := by
      intro x hx
      cases x with
      | lf b => cases b <;> rfl
      | nd a b c d =>
        rcases hx with hx | hx
        · simp [T.isLf] at hx
        · have hi := List.idxOf_lt_length_iff.mpr hx
          simp only [num]
          rw [List.getD_eq_getElem?_getD, List.getElem?_cons_succ, List.getElem?_cons_succ, List.getElem?_map, List.getElem?_eq_getElem hi, List.getElem_idxOf]
          rfl
    obtain ⟨a, b, c, d, e1⟩ := L[n].kids4
    have hl := h.nl _ (List.getElem_mem hn')
    have hm := h.nm _ (List.getElem_mem hn')
    generalize L[n] = s at *
    rw [e1] at ck
    simp at ck
    obtain ⟨k1, k2, k3, k4⟩ := ck
    unfold rowOf
    rw [e1]
    simp only [List.map_cons, List.map_nil, dpq, List.foldr_cons, List.foldr_nil]
    rw [depk _ k1, depk _ k2, depk _ k3, depk _ k4]
    cases s with
    | lf => simp [T.isLf] at hl
    | nd a' b' c' d' =>
      simp [T.kids] at e1
      obtain ⟨rfl, rfl, rfl, rfl⟩ := e1
      simp only [T.dep]
      congr 1
      omega
theorem den_sub {t : T} (h : t.Nm) : den (rowsOf (sub t)) (num (sub t) t) = t := den_num (sub_cls h) (sub_in h)
/-- a shape of a floor of size m -/
structure Shp (m : Nat) (t : T) : Prop where
  nm : t.Nm
  dep : t.dep ≤ m
  le : m ≤ 12
theorem Shp.sz {m : Nat} {t : T} (h : Shp m t) : t.sz ≤ 5592405 := Nat.le_trans t.sz_cap (Nat.le_trans (cap_mono (Nat.le_trans h.dep h.le)) (by decide))
theorem Shp.len {m : Nat} {t : T} (h : Shp m t) : (sub t).length ≤ 5592405 := by
  have := po_len t []
  simp at this
  exact Nat.le_trans this h.sz
theorem Shp.top {m : Nat} {t : T} (h : Shp m t) : num (sub t) t < (rowsOf (sub t)).length + 2 := by
  rw [rowsOf_len]; exact num_lt (sub_in h.nm)
theorem telD_nice (m top : Nat) (rows : List (List Nat)) : nice (telD m top rows) = true := by
  simp [telD, nice, nices, natD, nices_map rowD_nice]
theorem rowD_shp' (q : List Nat) : shp 58 (rowD q) = true := by
  show (decide (0 < 58) && shps 57 (q.map natD)) = true
  rw [shps_map (fun a => rfl)]; rfl
theorem telD_shp (m top : Nat) (rows : List (List Nat)) : shp 60 (telD m top rows) = true := by
  simp [telD, shp, shps, natD, shps_map rowD_shp']
theorem shapeD_nice (m : Nat) (t : T) : nice (shapeD m t) = true := telD_nice _ _ _
theorem shapeD_shp (m : Nat) (t : T) : shp 60 (shapeD m t) = true := telD_shp _ _ _
@[simp] theorem shapeD_pure (m : Nat) (t : T) : (shapeD m t).pure = true := rfl
@[simp] theorem shapeD_lin (m : Nat) (t : T) : (shapeD m t).lin = false := rfl
theorem opC_eq_nice {x y : D} (hx : nice x = true) (hy : nice y = true) (sx : shp 60 x = true) (sy : shp 60 y = true) : ∃ b : Bool, opC .eq x y = some b ∧ (b = true ↔ x = y) := by
  rw [opC_eq, sx, sy]
  exact ⟨deq x y, rfl, deq_iff x y hx hy⟩
theorem opC_ne_nice {x y : D} (hx : nice x = true) (hy : nice y = true) (sx : shp 60 x = true) (sy : shp 60 y = true) : ∃ b : Bool, opC .ne x y = some b ∧ (b = true ↔ x ≠ y) := by
  rw [opC_ne, sx, sy]
  refine ⟨!deq x y, rfl, ?_⟩
  have := deq_iff x y hx hy
  cases h : deq x y with
  | true => simp [this.mp h]
  | false =>
    rw [h] at this
    simp at this
    simp [this]
theorem opC_eq_self {x : D} (hx : nice x = true) (sx : shp 60 x = true) : opC .eq x x = some true := by
  rw [opC_eq, sx, deq_self x hx]; rfl
theorem opC_ne_self {x : D} (hx : nice x = true) (sx : shp 60 x = true) : opC .ne x x = some false := by
  rw [opC_ne, sx, deq_self x hx]; rfl
theorem lim_v : lim = 16777216 := rfl
theorem ev_is_shape (E : TelE sg tb) (n : Nat) {m : Nat} {t : T} (h : Shp m t) : run sg tb (n + 17) 180 [shapeD m t] = FR.ok (.bl true) [some (shapeD m t)] := by
  have v := rowsOf_vr (sub_cls h.nm)
  have hl : (rowsOf (sub t)).length + 2 ≤ lim := by rw [rowsOf_len]; have := h.len; have := lim_v; omega
  have h1 := ev_is_telling E (n + 12) (m := m) v h.top h.le hl
  have hd : (dps (rowsOf (sub t))).getD (num (sub t) t) 0 = t.dep := by
    rw [dps_rowsOf (sub_cls h.nm)]
    have hin := sub_in h.nm
    cases t with
    | lf b => cases b <;> rfl
    | nd a b c d =>
      rcases hin with hx | hx
      · simp [T.isLf] at hx
      · have hi := List.idxOf_lt_length_iff.mpr hx
        simp only [num]
        rw [List.getD_eq_getElem?_getD, List.getElem?_cons_succ, List.getElem?_cons_succ, List.getElem?_map, List.getElem?_eq_getElem hi, List.getElem_idxOf]
        rfl
  rw [hd, decide_eq_true h.dep] at h1
  have h2 := ev_one_of E (12 - t.dep + n) (m := m) v h.top hl (by rw [den_sub h.nm]; have := h.sz; have := lim_v; omega)
  rw [den_sub h.nm, show t.dep + 4 + (12 - t.dep + n) = n + 16 by have := h.dep; have := h.le; omega] at h2
  rw [show n + 12 + 4 = n + 16 by omega] at h1
  rw [show n + 17 = (n + 16) + 1 by omega, run_succ E.is_shape, runB_eq]
  have e : telD m (num (sub t) t) (rowsOf (sub t)) = shapeD m t := rfl
  rw [e] at h1 h2
  have h3 := opC_eq_self (shapeD_nice m t) (shapeD_shp m t)
  simp [p_tellings_is_shape, h1, h2, h3]
theorem ev_want_shape (E : TelE sg tb) (n : Nat) {m : Nat} {t : T} (h : Shp m t) : run sg tb (n + 18) 181 [shapeD m t] = FR.ok .non [some (shapeD m t)] := by
  rw [show n + 18 = (n + 17) + 1 by omega, run_succ E.want_shape, runB_eq]
  have := ev_is_shape E n h
  simp [p_tellings_want_shape, this]
end
end Q
end
section
set_option linter.all false
set_option Elab.async false
namespace Q
/-! plain law: boxes, the tree of them -/
structure Bx where (r c h w : Int)
def Bx.met (b : Bx) (r c s : Int) : Bool := !(decide (r + s ≤ b.r) || decide (b.r + b.h ≤ r)) && (decide (c < b.c + b.w) && decide (b.c < c + s))
def Bx.has (b : Bx) (r c s : Int) : Bool := !(decide (r < b.r) || decide (b.r + b.h < r + s)) && (decide (b.c ≤ c) && decide (c + s ≤ b.c + b.w))
def mets (bs : List Bx) (r c s : Int) : List Bx := bs.filter fun b => b.met r c s
def plainB (ms : List Bx) (r c s : Int) : Bool := ms.isEmpty || ms.any fun b => b.has r c s
def treeB : Nat → List Bx → Int → Int → T
  | 0, bs, r, c => .lf (!(mets bs r c 1).isEmpty)
  | k + 1, bs, r, c =>
    let ms := mets bs r c (2 ^ (k + 1))
    if plainB ms r c (2 ^ (k + 1)) = true then .lf (!ms.isEmpty)
    else .mk (treeB k ms r c) (treeB k ms r (c + 2 ^ k)) (treeB k ms (r + 2 ^ k) c) (treeB k ms (r + 2 ^ k) (c + 2 ^ k))
theorem plain0 (bs : List Bx) (r c : Int) : plainB (mets bs r c 1) r c 1 = true := by
  unfold plainB
  cases h : mets bs r c 1 with
  | nil => rfl
  | cons b r' =>
    have hb : b ∈ mets bs r c 1 := by rw [h]; simp
    have hm := (List.mem_filter.mp hb).2
    have : b.has r c 1 = true := by
      simp only [Bx.met, Bx.has, Bool.and_eq_true, Bool.not_eq_true', Bool.or_eq_false_iff, decide_eq_false_iff_not, decide_eq_true_eq] at hm ⊢
      omega
    simp [this]
theorem treeB_nm : ∀ (k : Nat) (bs : List Bx) (r c : Int), (treeB k bs r c).Nm
  | 0, _, _, _ => trivial
  | k + 1, bs, r, c => by
    unfold treeB
    dsimp only
    split
    · trivial
    · exact T.mk_nm (treeB_nm k _ _ _) (treeB_nm k _ _ _) (treeB_nm k _ _ _) (treeB_nm k _ _ _)
theorem treeB_dep : ∀ (k : Nat) (bs : List Bx) (r c : Int), (treeB k bs r c).dep ≤ k
  | 0, _, _, _ => Nat.le_refl _
  | k + 1, bs, r, c => by
    unfold treeB
    dsimp only
    split
    · exact Nat.zero_le _
    · refine Nat.le_trans (T.dep_mk _ _ _ _) ?_
      have h1 := treeB_dep k (mets bs r c (2 ^ (k + 1))) r c
      have h2 := treeB_dep k (mets bs r c (2 ^ (k + 1))) r (c + 2 ^ k)
      have h3 := treeB_dep k (mets bs r c (2 ^ (k + 1))) (r + 2 ^ k) c
      have h4 := treeB_dep k (mets bs r c (2 ^ (k + 1))) (r + 2 ^ k) (c + 2 ^ k)
      omega
theorem T.sz_mk (a b c d : T) : (T.mk a b c d).sz ≤ 1 + a.sz + b.sz + c.sz + d.sz := by
  unfold T.mk
  split
  · omega
  · simp [T.sz]
/-- lines within -/
def lns (ys : List Int) (p q : Int) : Nat := ys.countP fun y => decide (p < y) && decide (y < q)
theorem lns_half (ys : List Int) (p h : Int) (hh : 0 ≤ h) : lns ys p (p + h) + lns ys (p + h) (p + h + h) ≤ lns ys p (p + h + h) := by
  unfold lns
  induction ys with
  | nil => simp
  | cons y ys ih =>
    simp only [List.countP_cons]
    have : (if (decide (p < y) && decide (y < p + h)) = true then 1 else 0) + (if (decide (p + h < y) && decide (y < p + h + h)) = true then 1 else 0) ≤ (if (decide (p < y) && decide (y < p + h + h)) = true then 1 else 0) := by
      simp only [Bool.and_eq_true, decide_eq_true_eq]
      split <;> split <;> split <;> omega
    omega
theorem lns_pos {ys : List Int} {y p q : Int} (h : y ∈ ys) (h1 : p < y) (h2 : y < q) : 0 < lns ys p q := List.countP_pos_iff.mpr ⟨y, h, by simp [h1, h2]⟩
theorem lns_le (ys : List Int) (p q : Int) : lns ys p q ≤ ys.length := List.countP_le_length
theorem two_pow_split (k : Nat) : (2 : Int) ^ (k + 1) = 2 ^ k + 2 ^ k := by rw [Int.pow_succ]; omega
theorem two_pow_nn (k : Nat) : (0 : Int) < 2 ^ k := Int.pow_pos (by decide)
/-- a tree of boxes has few parted squares -/
theorem treeB_sz (ys xs : List Int) : ∀ (k : Nat) (bs : List Bx) (r c : Int), (∀ b ∈ bs, b.r ∈ ys ∧ b.r + b.h ∈ ys ∧ b.c ∈ xs ∧ b.c + b.w ∈ xs) →
    (treeB k bs r c).sz ≤ (lns ys r (r + 2 ^ k) + lns xs c (c + 2 ^ k)) * (2 ^ k - 1)
  | 0, _, _, _, _ => Nat.zero_le _
  | k + 1, bs, r, c, hb => by
    unfold treeB
    dsimp only
    split
    · exact Nat.zero_le _
    · rename_i hp
      have e2 := two_pow_split k
      have p2 := two_pow_nn k
      rw [e2] at hp ⊢
      obtain ⟨ms, hms⟩ : ∃ ms, ms = mets bs r c (2 ^ k + 2 ^ k) := ⟨_, rfl⟩
      rw [← hms] at hp ⊢
      have hm : ∀ b ∈ ms, b.r ∈ ys ∧ b.r + b.h ∈ ys ∧ b.c ∈ xs ∧ b.c + b.w ∈ xs := fun b h => hb b (by rw [hms] at h; exact (List.mem_filter.mp h).1)
      have h1 := treeB_sz ys xs k ms r c hm
      have h2 := treeB_sz ys xs k ms r (c + 2 ^ k) hm
      have h3 := treeB_sz ys xs k ms (r + 2 ^ k) c hm
      have h4 := treeB_sz ys xs k ms (r + 2 ^ k) (c + 2 ^ k) hm
      have hs := T.sz_mk (treeB k ms r c) (treeB k ms r (c + 2 ^ k)) (treeB k ms (r + 2 ^ k) c) (treeB k ms (r + 2 ^ k) (c + 2 ^ k))
      have y := lns_half ys r (2 ^ k) (by omega)
      have x := lns_half xs c (2 ^ k) (by omega)
      have a1 : r + (2 ^ k + 2 ^ k) = r + 2 ^ k + 2 ^ k := by omega
      have a2 : c + (2 ^ k + 2 ^ k) = c + 2 ^ k + 2 ^ k := by omega
      have pos : 0 < lns ys r (r + 2 ^ k + 2 ^ k) + lns xs c (c + 2 ^ k + 2 ^ k) := by
        rw [← a1, ← a2]
        cases h : ms with
        | nil => rw [h] at hp; simp [plainB] at hp
        | cons b ms' =>
          have hbm : b ∈ ms := by rw [h]; simp
          obtain ⟨y1, y2, x1, x2⟩ := hm b hbm
          have hmet : b.met r c (2 ^ k + 2 ^ k) = true := by rw [hms] at hbm; exact (List.mem_filter.mp hbm).2
          have hhas : ¬ b.has r c (2 ^ k + 2 ^ k) = true := fun hh => hp (by
            unfold plainB
            rw [Bool.or_eq_true]
            exact .inr (List.any_eq_true.mpr ⟨b, hbm, hh⟩))
          simp only [Bx.met, Bx.has, Bool.and_eq_true, Bool.not_eq_true', Bool.or_eq_false_iff, decide_eq_false_iff_not, decide_eq_true_eq] at hmet hhas
          generalize (2 : Int) ^ k + 2 ^ k = s at *
          by_cases q1 : r < b.r
          · have := lns_pos y1 q1 (q := r + s) (by omega); omega
          · by_cases q2 : b.r + b.h < r + s
            · have := lns_pos y2 (p := r) (q := r + s) (by omega) q2; omega
            · by_cases q3 : b.c ≤ c
              · have := lns_pos x2 (p := c) (q := c + s) (by omega) (by omega); omega
              · have := lns_pos x1 (p := c) (q := c + s) (by omega) (by omega); omega
      rw [a1, a2]
      generalize lns ys r (r + 2 ^ k + 2 ^ k) = Y at *
      generalize lns xs c (c + 2 ^ k + 2 ^ k) = X at *
      generalize lns ys r (r + 2 ^ k) = A at *
      generalize lns ys (r + 2 ^ k) (r + 2 ^ k + 2 ^ k) = A' at *
      generalize lns xs c (c + 2 ^ k) = B at *
      generalize lns xs (c + 2 ^ k) (c + 2 ^ k + 2 ^ k) = B' at *
      obtain ⟨w, hw⟩ : ∃ w : Nat, (2 : Nat) ^ k = w + 1 := ⟨2 ^ k - 1, by have := Nat.pow_pos (n := k) (show 0 < 2 by decide); omega⟩
      have e1 : (2 : Nat) ^ k - 1 = w := by omega
      have e2 : (2 : Nat) ^ (k + 1) - 1 = 2 * w + 1 := by rw [Nat.pow_succ]; omega
      rw [e1] at h1 h2 h3 h4
      rw [e2]
      have hmul := Nat.mul_le_mul_right w (show A + A' + (B + B') ≤ Y + X by omega)
      have hz : (Y + X) * (2 * w + 1) = 2 * ((Y + X) * w) + (Y + X) := by rw [Nat.mul_add, Nat.mul_one, Nat.mul_left_comm]
      rw [hz]
      simp only [Nat.add_mul] at h1 h2 h3 h4 hmul ⊢
      omega
theorem po_mk {P : List T} (h : Cls P) {a b c d : T} (ha : a.Nm) (hb : b.Nm) (hc : c.Nm) (hd : d.Nm) : po (.mk a b c d) P = put (po d (po c (po b (po a P)))) (.mk a b c d) := by
  by_cases hl : a.isLf = true ∧ a = b ∧ b = c ∧ c = d
  · have : T.mk a b c d = a := if_pos hl
    rw [this]
    obtain ⟨h1, rfl, rfl, rfl⟩ := hl
    cases a with
    | nd => simp [T.isLf] at h1
    | lf x => simp [po, put_of_in In.lf]
  · have e : T.mk a b c d = .nd a b c d := if_neg hl
    rw [e]
    have hm : (T.nd a b c d).Nm := ⟨ha, hb, hc, hd, hl⟩
    by_cases hin : T.nd a b c d ∈ P
    · have i : In P (.nd a b c d) := .inr hin
      have ka := h.kid i (show a ∈ (T.nd a b c d).kids by simp [T.kids])
      have kb := h.kid i (show b ∈ (T.nd a b c d).kids by simp [T.kids])
      have kc := h.kid i (show c ∈ (T.nd a b c d).kids by simp [T.kids])
      have kd := h.kid i (show d ∈ (T.nd a b c d).kids by simp [T.kids])
      rw [po_in a P h ka, po_in b P h kb, po_in c P h kc, po_in d P h kd, po_in _ P h i, put_of_in i]
    · have hn : ¬ In (po d (po c (po b (po a P)))) (.nd a b c d) := by
        rintro (q | q)
        · simp [T.isLf] at q
        · rcases po_sz d _ _ q with q | q
          · rcases po_sz c _ _ q with q | q
            · rcases po_sz b _ _ q with q | q
              · rcases po_sz a _ _ q with q | q
                · exact hin q
                · simp [T.sz] at q; omega
              · simp [T.sz] at q; omega
            · simp [T.sz] at q; omega
          · simp [T.sz] at q; omega
      unfold put
      rw [if_neg hn]
      show (if T.nd a b c d ∈ P then P else _) = _
      rw [if_neg hin]
end Q
end
section
set_option linter.all false
set_option Elab.async false
set_option maxRecDepth 100000
set_option maxHeartbeats 4000000
namespace Q.Pot
open PySem
/-! digits, boxes, the one telling of boxes -/
structure E (sg : Sg) (tb : Nat → Option Fn) : Prop where
  pot : tb 500 = some l_law_pot
  digit : tb 501 = some l_law_digit
  cells : tb 502 = some l_law_cells
  box : tb 503 = some l_law_box
  boxes : tb 504 = some l_law_boxes
  meets : tb 505 = some l_law_meets
  has : tb 506 = some l_law_has
  number : tb 507 = some l_law_number
  shape : tb 508 = some l_law_shape
def pD (a b : Int) : D := .lst [.int a, .int b]
@[simp] theorem pD_pure (a b : Int) : (pD a b).pure = false := rfl
@[simp] theorem pD_lin (a b : Int) : (pD a b).lin = true := rfl
@[simp] theorem pD_mov (a b : Int) : (pD a b).movable = true := rfl
def bxD (b : Bx) : D := .tup [.int b.r, .int b.c, .int b.h, .int b.w]
def bxO : D → Bx
  | .tup [.int r, .int c, .int h, .int w] => ⟨r, c, h, w⟩
  | _ => ⟨0, 0, 0, 0⟩
@[simp] theorem bxD_pure (b : Bx) : (bxD b).pure = true := rfl
@[simp] theorem bxD_lin (b : Bx) : (bxD b).lin = false := rfl
theorem bxO_D (b : Bx) : bxO (bxD b) = b := rfl
theorem bxD_shp (b : Bx) {k : Nat} (h : 1 < k) : shp k (bxD b) = true := by
  obtain ⟨j, rfl⟩ : ∃ j, k = j + 2 := ⟨k - 2, by omega⟩
  show (decide (0 < j + 2) && shps (j + 1) [.int b.r, .int b.c, .int b.h, .int b.w]) = true
  simp [shps, shp]
theorem bxs_shp : ∀ (bs : List Bx) {k : Nat}, 1 < k → shps k (bs.map bxD) = true
  | [], _, _ => by simp [shps]
  | b :: bs, k, h => by simp [shps, bxD_shp b h, bxs_shp bs h]
theorem bxs_shp60 (bs : List Bx) : shp 60 (.lst (bs.map bxD)) = true := by
  show (decide (0 < 60) && shps 59 (bs.map bxD)) = true
  rw [bxs_shp bs (by decide)]; rfl
theorem bxs_eq0 (bs : List Bx) : opC .eq (.lst (bs.map bxD)) (.lst []) = some bs.isEmpty := by
  rw [opC_eq, bxs_shp60]
  cases bs with
  | nil => simp [shp, shps, deq, deqs]
  | cons => simp [shp, shps, deq, deqs]
theorem bxs_ne0 (bs : List Bx) : opC .ne (.lst (bs.map bxD)) (.lst []) = some (!bs.isEmpty) := by
  rw [opC_ne, bxs_shp60]
  cases bs with
  | nil => simp [shp, shps, deq, deqs]
  | cons => simp [shp, shps, deq, deqs]
section
variable {sg : Sg} {tb : Nat → Option Fn}
theorem ev_digit (e : E sg tb) (n : Nat) (a b m : Int) (h : 0 < m) (h2 : m < 1073741824) :
    ∃ d a' b', (0 ≤ d ∧ d < m) ∧ run sg tb (n + 1) 501 [pD a b, .int m] = FR.ok (.int d) [some (pD a' b'), some (.int m)] := by
  rw [run_succ e.digit, runB_eq]
  have x0 : ∀ a b : D, atZ [a, b] 0 = some a := fun _ _ => rfl
  have x1 : ∀ a b : D, atZ [a, b] 1 = some b := fun _ _ => rfl
  by_cases ha : 0 < a
  · refine ⟨a % m, a / m, b, ⟨Int.emod_nonneg _ (by omega), Int.emod_lt_of_pos _ h⟩, ?_⟩
    simp [l_law_digit, pD, x0, x1, ha, h, h2]
  · obtain ⟨c, hc⟩ : ∃ c, c = (b * 48271 + 8191) % 2147483629 := ⟨_, rfl⟩
    refine ⟨c / 16 % m, a, c, ⟨Int.emod_nonneg _ (by omega), Int.emod_lt_of_pos _ h⟩, ?_⟩
    simp [l_law_digit, pD, x0, x1, ha, h, h2, ← hc]
theorem ev_pot (h500 : tb 500 = some l_law_pot) (n : Nat) (ns : List Int) (k : Nat) : ∃ a b, run sg tb (n + 1) 500 [.fls (ns.map D.int), natD k] = FR.ok (pD a b) [some (.fls (ns.map D.int)), some (natD k)] := by
  obtain ⟨r, hr⟩ : ∃ r, run sg tb (n + 1) 500 [.fls (ns.map D.int), natD k] = r := ⟨_, rfl⟩
  rw [hr]
  rw [run_succ h500, runB_eq] at hr
  have h97 : (97 : Int).natAbs < 18446744073709551616 := by decide
  have hmul : ∀ x : Int, opB .mul (.int 97) (.int x) = some (.int (97 * x)) := fun x => by rw [opB_mul, if_pos (.inl h97)]
  have hpow : opB .pow (.int 10) (.int 18) = some (.int (10 ^ 18)) := rfl
  rw [natD_eq] at hr ⊢
  by_cases h : (k : Int) < (ns.length : Int)
  · have hat : atZ (ns.map D.int) (k : Int) = some (.int ns[k]) := by
      rw [atZ_nat, List.getElem?_map, List.getElem?_eq_getElem (by omega)]; rfl
    generalize ns[k] = c at *
    simp [-opB_mul, -opB_pow, l_law_pot, hmul, hpow, h, hat] at hr
    exact ⟨_, _, hr.symm⟩
  · simp [-opB_mul, -opB_pow, l_law_pot, hmul, hpow, h] at hr
    exact ⟨_, _, hr.symm⟩
theorem ev_meets (e : E sg tb) (n : Nat) (b : Bx) (r c s : Int) :
    run sg tb (n + 1) 505 [bxD b, .int r, .int c, .int s] = FR.ok (.bl (b.met r c s)) [some (bxD b), some (.int r), some (.int c), some (.int s)] := by
  rw [run_succ e.meets, runB_eq]
  have x0 : ∀ a b c d : D, atZ [a, b, c, d] 0 = some a := fun _ _ _ _ => rfl
  have x1 : ∀ a b c d : D, atZ [a, b, c, d] 1 = some b := fun _ _ _ _ => rfl
  have x2 : ∀ a b c d : D, atZ [a, b, c, d] 2 = some c := fun _ _ _ _ => rfl
  have x3 : ∀ a b c d : D, atZ [a, b, c, d] 3 = some d := fun _ _ _ _ => rfl
  unfold Bx.met bxD
  by_cases h1 : r + s ≤ b.r
  · simp [l_law_meets, x0, x1, x2, x3, h1]
  · by_cases h2 : b.r + b.h ≤ r
    · simp [l_law_meets, x0, x1, x2, x3, h1, h2]
    · by_cases h3 : c < b.c + b.w
      · simp [l_law_meets, x0, x1, x2, x3, h1, h2, h3]
      · simp [l_law_meets, x0, x1, x2, x3, h1, h2, h3]
theorem ev_has (e : E sg tb) (n : Nat) (b : Bx) (r c s : Int) :
    run sg tb (n + 1) 506 [bxD b, .int r, .int c, .int s] = FR.ok (.bl (b.has r c s)) [some (bxD b), some (.int r), some (.int c), some (.int s)] := by
  rw [run_succ e.has, runB_eq]
  have x0 : ∀ a b c d : D, atZ [a, b, c, d] 0 = some a := fun _ _ _ _ => rfl
  have x1 : ∀ a b c d : D, atZ [a, b, c, d] 1 = some b := fun _ _ _ _ => rfl
  have x2 : ∀ a b c d : D, atZ [a, b, c, d] 2 = some c := fun _ _ _ _ => rfl
  have x3 : ∀ a b c d : D, atZ [a, b, c, d] 3 = some d := fun _ _ _ _ => rfl
  unfold Bx.has bxD
  by_cases h1 : r < b.r
  · simp [l_law_has, x0, x1, x2, x3, h1]
  · by_cases h2 : b.r + b.h < r + s
    · simp [l_law_has, x0, x1, x2, x3, h1, h2]
    · by_cases h3 : b.c ≤ c
      · simp [l_law_has, x0, x1, x2, x3, h1, h2, h3]
      · simp [l_law_has, x0, x1, x2, x3, h1, h2, h3]
/-- the dict of the rows -/
def dicD (L : List T) : D := .dt (ixD ((rowsOf L).map keyQ) 2)
@[simp] theorem dicD_pure (L : List T) : (dicD L).pure = false := rfl
@[simp] theorem dicD_lin (L : List T) : (dicD L).lin = true := rfl
@[simp] theorem dicD_mov (L : List T) : (dicD L).movable = true := rfl
theorem dic_len (L : List T) : opBi .len [dicD L] = some (.int (L.length : Nat)) := by
  show some (D.int ((ixD ((rowsOf L).map keyQ) 2).length : Nat)) = _
  rw [ixD_length, List.length_map, rowsOf_len]
theorem num_lf' (L : List T) (x : Bool) : num L (.lf x) = x.toNat := rfl
/-- quarters of one kind -/
theorem inc_row {L : List T} (h : Cls L) {t : T} (hm : t.Nm) (hk : ∀ c ∈ t.kids, In L c) :
    (([[0, 0, 0, 0], [1, 1, 1, 1]] : List (List Int)).any fun l => deq (.lst (l.map .int)) (.lst ((rowOf L t).map natD))) = t.isLf := by
  have key : ∀ x : Bool, deq (.lst ([(x.toNat : Int), (x.toNat : Int), (x.toNat : Int), (x.toNat : Int)].map D.int)) (.lst ((rowOf L t).map natD)) = decide ([x.toNat, x.toNat, x.toNat, x.toNat] = rowOf L t) := fun x => deq_rowD [x.toNat, x.toNat, x.toNat, x.toNat] (rowOf L t)
  have k0 := key false
  have k1 := key true
  simp only [List.any_cons, List.any_nil, Bool.or_false]
  rw [show ([(0 : Int), 0, 0, 0]) = [(false.toNat : Int), (false.toNat : Int), (false.toNat : Int), (false.toNat : Int)] from rfl, k0, show ([(1 : Int), 1, 1, 1]) = [(true.toNat : Int), (true.toNat : Int), (true.toNat : Int), (true.toNat : Int)] from rfl, k1]
  cases t with
  | lf x => cases x <;> simp [rowOf, T.kids, num_lf', T.isLf]
  | nd a b c d =>
    have np : ∀ x : Bool, ¬ [x.toNat, x.toNat, x.toNat, x.toNat] = rowOf L (.nd a b c d) := fun x e => by
      have : T.nd a b c d = .lf x := row_inj h hm trivial hk (fun c hc => by simp [T.kids] at hc; subst hc; exact .inl rfl) (by rw [← e]; rfl)
      cases this
    rw [decide_eq_false (np false), decide_eq_false (np true)]; rfl
theorem dic_sts {L : List T} (h : Cls L) {t : T} (hm : t.Nm) (hk : ∀ c ∈ t.kids, In L c) (hl : t.isLf = false) (hn : t ∉ L) : kput (ixD ((rowsOf L).map keyQ) 2) (keyQ (rowOf L t)) (natD (L.length + 2)) = ixD ((rowsOf (L ++ [t])).map keyQ) 2 := by
  have hnk : keyQ (rowOf L t) ∉ (ixD ((rowsOf L).map keyQ) 2).map (·.1) := by rw [ixD_keys, key_mem, row_mem h hm hk hl]; exact hn
  rw [rowsOf_snoc h hk, List.map_append]
  simp only [List.map_cons, List.map_nil]
  rw [ixD_snoc, List.length_map, rowsOf_len, Nat.add_comm 2]
  exact kput_new hnk
section
variable (e : E sg tb) (N : Nat) (bs ms : List Bx) (r c s : Int) (L : List T)
include e
theorem num_met (hbl : bs.length ≤ lim) (hms : ms = mets bs r c s) (S : Sl) (hS : S = [some (dicD L), some (.lk (.lst (bs.map bxD))), some (.int r), some (.int c), some (.int s), none, none, none, none, none]) :
    loopC (evE sg (run sg tb (N + 1)) (.call 505 (.cons (.var 6) (.cons (.var 2) (.cons (.var 3) (.cons (.var 4) .nil)))))) (evE sg (run sg tb (N + 1)) (.var 6)) [6] [6] (bs.map bxD) [] S = .ok (.lst (ms.map bxD)) S := by
  have hmt := fun b r c s => ev_meets e N b r c s
  rw [loopC_fm (fun y => (bxO y).met r c s) id _ [] (fun y hy => ?_) (by rw [List.length_map]; simp only [List.length_nil]; omega)]
  · rw [List.map_id, List.nil_append, List.filter_map, hms]; rfl
  · obtain ⟨b, _, rfl⟩ := List.mem_map.mp hy
    subst hS
    rw [bxO_D]
    exact ⟨_, by simp; rfl, _, by simp [hmt]; rfl, fun _ => ⟨_, by simp; rfl, rfl, by simp⟩, fun _ => by simp⟩
theorem num_any (hbl : ms.length ≤ lim) (S : Sl) (hS : S = [some (dicD L), some (.lst (bs.map bxD)), some (.int r), some (.int c), some (.int s), some (.lk (.lst (ms.map bxD))), none, none, none, none]) :
    loopC (evE sg (run sg tb (N + 1)) (.cst (.bl true))) (evE sg (run sg tb (N + 1)) (.call 506 (.cons (.var 6) (.cons (.var 2) (.cons (.var 3) (.cons (.var 4) .nil)))))) [6] [6] (ms.map bxD) [] S = .ok (.lst ((ms.map fun b => b.has r c s).map .bl)) S := by
  have hhs := fun b r c s => ev_has e N b r c s
  rw [loopC_map (fun y => .bl ((bxO y).has r c s)) _ (fun S => by rw [evE]) (fun y hy => ?_) (by rw [List.length_map]; omega)]
  · rw [List.map_map, List.map_map]; rfl
  · obtain ⟨b, _, rfl⟩ := List.mem_map.mp hy
    subst hS
    rw [bxO_D]
    exact ⟨_, by simp; rfl, _, by simp [hhs]; rfl, rfl, by simp⟩
theorem num_plain (hbl : bs.length ≤ lim) (hms : ms = mets bs r c s) (hp : plainB ms r c s = true) :
    run sg tb (N + 2) 507 [dicD L, .lst (bs.map bxD), .int r, .int c, .int s] = FR.ok (natD (!ms.isEmpty).toNat) [some (dicD L), some (.lst (bs.map bxD)), some (.int r), some (.int c), some (.int s)] := by
  rw [run_succ e.number, runB_eq]
  have h1 := num_met (sg := sg) (tb := tb) e N bs ms r c s L hbl hms
  have hml : ms.length ≤ lim := by rw [hms]; exact Nat.le_trans (List.length_filter_le _ _) hbl
  have h2 := num_any (sg := sg) (tb := tb) e N bs ms r c s L hml
  have h3 := bxs_eq0 ms
  have h4 := bxs_ne0 ms
  unfold plainB at hp
  have hi : D.int (b2 (!ms.isEmpty)) = natD (!ms.isEmpty).toNat := by cases ms.isEmpty <;> rfl
  by_cases he : ms.isEmpty = true
  · rw [he] at h3 h4 hi ⊢
    simp [l_law_number, h1, h3, h4]
    rfl
  · simp only [Bool.not_eq_true] at he
    rw [he] at h3 h4 hi hp ⊢
    have ha : ((ms.map fun b => b.has r c s).any id) = true := by rw [List.any_map]; simpa using hp
    simp [l_law_number, h1, h2, h3, h4, boolsOf_bl, -List.map_map, ha, tst_bl]
    rfl
theorem num_part (hbl : bs.length ≤ lim) (hms : ms = mets bs r c s) (hp : plainB ms r c s = false) (h : Int) (hs : s / 2 = h) (hh : 0 ≤ h ∧ h < 1000000) (a b c' d : T) (La Lb Lc Ld : List T)
    (q1 : run sg tb (N + 1) 507 [dicD L, .lst (ms.map bxD), .int r, .int c, .int h] = FR.ok (natD (num La a)) [some (dicD La), some (.lst (ms.map bxD)), some (.int r), some (.int c), some (.int h)])
    (q2 : run sg tb (N + 1) 507 [dicD La, .lst (ms.map bxD), .int r, .int (c + h), .int h] = FR.ok (natD (num Lb b)) [some (dicD Lb), some (.lst (ms.map bxD)), some (.int r), some (.int (c + h)), some (.int h)])
    (q3 : run sg tb (N + 1) 507 [dicD Lb, .lst (ms.map bxD), .int (r + h), .int c, .int h] = FR.ok (natD (num Lc c')) [some (dicD Lc), some (.lst (ms.map bxD)), some (.int (r + h)), some (.int c), some (.int h)])
    (q4 : run sg tb (N + 1) 507 [dicD Lc, .lst (ms.map bxD), .int (r + h), .int (c + h), .int h] = FR.ok (natD (num Ld d)) [some (dicD Ld), some (.lst (ms.map bxD)), some (.int (r + h)), some (.int (c + h)), some (.int h)])
    (hd : Cls Ld) (i1 : In Ld a) (i2 : In Ld b) (i3 : In Ld c') (i4 : In Ld d) (n1 : num La a = num Ld a) (n2 : num Lb b = num Ld b) (n3 : num Lc c' = num Ld c') (hl : Ld.length < lim) :
    run sg tb (N + 2) 507 [dicD L, .lst (bs.map bxD), .int r, .int c, .int s] = FR.ok (natD (num (put Ld (.mk a b c' d)) (.mk a b c' d))) [some (dicD (put Ld (.mk a b c' d))), some (.lst (bs.map bxD)), some (.int r), some (.int c), some (.int s)] := by
  have hh1 := num_met (sg := sg) (tb := tb) e N bs ms r c s L hbl hms
  have hml : ms.length ≤ lim := by rw [hms]; exact Nat.le_trans (List.length_filter_le _ _) hbl
  have h2 := num_any (sg := sg) (tb := tb) e N bs ms r c s L hml
  have h3 := bxs_eq0 ms
  unfold plainB at hp
  obtain ⟨he, ha⟩ := Bool.or_eq_false_iff.mp hp
  rw [he] at h3
  have ha2 : ((ms.map fun b => b.has r c s).any id) = false := by rw [List.any_map]; exact ha
  rw [n1] at q1
  rw [n2] at q2
  rw [n3] at q3
  obtain ⟨t, ht⟩ : ∃ t, t = T.mk a b c' d := ⟨_, rfl⟩
  have hk : t.kids = [a, b, c', d] := by rw [ht]; exact T.kids_mk
  have hm : t.Nm := by rw [ht]; exact T.mk_nm (hd.inm i1) (hd.inm i2) (hd.inm i3) (hd.inm i4)
  have hki : ∀ x ∈ t.kids, In Ld x := by rw [hk]; simp; exact ⟨i1, i2, i3, i4⟩
  rw [← ht]
  have hrow : rowOf Ld t = [num Ld a, num Ld b, num Ld c', num Ld d] := by unfold rowOf; rw [hk]; rfl
  have hinc0 := inc_row hd hm hki
  rw [hrow] at hinc0
  have hmul : ∀ x : Int, opB .mul (.int h) (.int x) = some (.int (h * x)) := fun x => by rw [opB_mul, if_pos (.inl (by omega))]
  have hinc : ∀ s1 s2 s3 s4 s5 s6 s7, evE sg (run sg tb (N + 1)) (.inc (.var 8) [[0, 0, 0, 0], [1, 1, 1, 1]]) [some (dicD Ld), s1, s2, s3, s4, s5, s6, s7, some (.lst [natD (num Ld a), natD (num Ld b), natD (num Ld c'), natD (num Ld d)]), none] = .ok (.bl t.isLf) [some (dicD Ld), s1, s2, s3, s4, s5, s6, s7, some (.lst [natD (num Ld a), natD (num Ld b), natD (num Ld c'), natD (num Ld d)]), none] := by
    intro s1 s2 s3 s4 s5 s6 s7
    have hshp : shp 60 (.lst [natD (num Ld a), natD (num Ld b), natD (num Ld c'), natD (num Ld d)]) = true := by simp [shp, shps, natD]
    have hc : (shp 60 (.lst [natD (num Ld a), natD (num Ld b), natD (num Ld c'), natD (num Ld d)]) && (decide (([[0, 0, 0, 0], [1, 1, 1, 1]] : List (List Int)).length ≤ 100) && ([[0, 0, 0, 0], [1, 1, 1, 1]] : List (List Int)).all fun l => decide (l.length ≤ 100))) = true := by rw [hshp]; rfl
    rw [evE_inc]
    simp only [argOf_eq, placeOf_eq, path_var, OB_some_s, rdS_eq_s, List.getElem?_cons_succ, List.getElem?_cons_zero, oD_s_s, rdF_nil, lin_lst, if_true, R.bind_ok_s, argD_pl]
    rw [if_pos hc]
    exact congrArg (fun b => R.ok (D.bl b) _) hinc0
  obtain ⟨r', hr⟩ : ∃ r', run sg tb (N + 2) 507 [dicD L, .lst (bs.map bxD), .int r, .int c, .int s] = r' := ⟨_, rfl⟩
  rw [hr]
  rw [run_succ e.number, runB_eq] at hr
  have hkey : tkOf (.tup [natD (num Ld a), natD (num Ld b), natD (num Ld c'), natD (num Ld d)]) = some (keyQ (rowOf Ld t)) := by rw [hrow]; exact tkOf_rowD [num Ld a, num Ld b, num Ld c', num Ld d]
  have hlen := dic_len Ld
  have hget : ∀ M, M = put Ld t → t.isLf = false → opB .ix (dicD M) (.tup [natD (num Ld a), natD (num Ld b), natD (num Ld c'), natD (num Ld d)]) = some (natD (num M t)) := by
    intro M hM hlf
    have hc : Cls M := by rw [hM]; exact put_cls hd hm hki
    have hi : t ∈ M := by
      have : In M t := by rw [hM]; exact put_in _ _
      rcases this with h | h
      · rw [hlf] at h; cases h
      · exact h
    have hg := numbers_get hc hi
    have hre : rowOf M t = rowOf Ld t := rowOf_pre hki (by rw [hM]; exact put_pre _ _)
    rw [hre] at hg
    unfold dicD
    rw [opB_ixD, hkey]
    exact hg
  have hin : t.isLf = false → opIn (.tup [natD (num Ld a), natD (num Ld b), natD (num Ld c'), natD (num Ld d)]) (dicD Ld) = some (decide (t ∈ Ld)) := fun hlf => by
    unfold dicD
    rw [opIn_dt, hkey, OB_some, numbers_in hd hm hki hlf]
  have hsts : t.isLf = false → t ∉ Ld → ∀ S, stsD sg (.int ((Ld.length : Int) + 2)) (.tup [natD (num Ld a), natD (num Ld b), natD (num Ld c'), natD (num Ld d)]) 0 [] S (dicD Ld) = OB (wrS sg S 0 [] (dicD (put Ld t))) (fun S4 => .nx S4) .no := fun hlf hn S => by
    have hp : put Ld t = Ld ++ [t] := by
      unfold put
      exact if_neg (fun q => by
        rcases q with q | q
        · rw [hlf] at q; cases q
        · exact hn q)
    unfold dicD
    rw [stsD_dt, hkey, OB_some, hp, ← dic_sts hd hm hki hlf hn, ixD_length, List.length_map, rowsOf_len, decide_eq_true hl]
    rfl
  by_cases hlf : t.isLf = true
  · obtain ⟨x, hx⟩ : ∃ x, t = .lf x := by
      cases t with
      | lf x => exact ⟨x, rfl⟩
      | nd => simp [T.isLf] at hlf
    have ea : a = t := by
      rw [hx] at hk ⊢
      simp [T.kids] at hk
      exact hk.1.symm
    have h0 : ∀ y z w : D, atZ [natD (num Ld a), y, z, w] 0 = some (natD (num Ld a)) := fun _ _ _ => rfl
    simp [-evE_inc, -opB_mul, l_law_number, hh1, h2, h3, boolsOf_bl, -List.map_map, ha2, hs, hmul, show List.range 4 = [0, 1, 2, 3] from rfl, q1, q2, q3, q4, hinc, hlf, h0] at hr
    rw [put_of_in (.inl hlf), ← hr, ea]
  · simp only [Bool.not_eq_true] at hlf
    have g := hget _ rfl hlf
    have i := hin hlf
    by_cases hmem : t ∈ Ld
    · rw [decide_eq_true hmem] at i
      rw [put_of_in (.inr hmem)] at g ⊢
      simp [-evE_inc, -opB_mul, l_law_number, hh1, h2, h3, boolsOf_bl, -List.map_map, ha2, hs, hmul, show List.range 4 = [0, 1, 2, 3] from rfl, q1, q2, q3, q4, hinc, hlf, i, g] at hr
      exact hr.symm
    · rw [decide_eq_false hmem] at i
      have st := hsts hlf hmem
      simp [-evE_inc, -opB_mul, l_law_number, hh1, h2, h3, boolsOf_bl, -List.map_map, ha2, hs, hmul, show List.range 4 = [0, 1, 2, 3] from rfl, q1, q2, q3, q4, hinc, hlf, i, hlen, st, g] at hr
      exact hr.symm
end
theorem treeB_plain (k : Nat) (bs : List Bx) (r c : Int) (h : plainB (mets bs r c (2 ^ k)) r c (2 ^ k) = true) : treeB k bs r c = .lf (!(mets bs r c (2 ^ k)).isEmpty) := by
  cases k with
  | zero => rfl
  | succ k => unfold treeB; dsimp only; rw [if_pos h]
theorem mets_le (bs : List Bx) (r c s : Int) : (mets bs r c s).length ≤ bs.length := List.length_filter_le _ _
theorem ev_number (e : E sg tb) (n : Nat) : ∀ (k : Nat) (bs : List Bx) (r c : Int) (L : List T), k ≤ 12 → bs.length ≤ lim → Cls L → (po (treeB k bs r c) L).length < lim →
    run sg tb (n + k + 2) 507 [dicD L, .lst (bs.map bxD), .int r, .int c, .int (2 ^ k)] = FR.ok (natD (num (po (treeB k bs r c) L) (treeB k bs r c))) [some (dicD (po (treeB k bs r c) L)), some (.lst (bs.map bxD)), some (.int r), some (.int c), some (.int (2 ^ k))]
  | 0, bs, r, c, L, hk, hbl, hL, hlen => by
    rw [treeB_plain 0 bs r c (plain0 bs r c)]
    exact num_plain e n bs (mets bs r c 1) r c 1 L hbl rfl (plain0 bs r c)
  | k + 1, bs, r, c, L, hk, hbl, hL, hlen => by
    by_cases hp : plainB (mets bs r c (2 ^ (k + 1))) r c (2 ^ (k + 1)) = true
    · rw [treeB_plain (k + 1) bs r c hp]
      exact num_plain e (n + (k + 1)) bs (mets bs r c (2 ^ (k + 1))) r c (2 ^ (k + 1)) L hbl rfl hp
    · have et : treeB (k + 1) bs r c = .mk (treeB k (mets bs r c (2 ^ (k + 1))) r c) (treeB k (mets bs r c (2 ^ (k + 1))) r (c + 2 ^ k)) (treeB k (mets bs r c (2 ^ (k + 1))) (r + 2 ^ k) c) (treeB k (mets bs r c (2 ^ (k + 1))) (r + 2 ^ k) (c + 2 ^ k)) := by
        rw [treeB, if_neg hp]
      have nm := fun r' c' => treeB_nm k (mets bs r c (2 ^ (k + 1))) r' c'
      have hml : (mets bs r c (2 ^ (k + 1))).length ≤ lim := Nat.le_trans (mets_le _ _ _ _) hbl
      rw [et] at hlen ⊢
      rw [po_mk hL (nm _ _) (nm _ _) (nm _ _) (nm _ _)] at hlen ⊢
      have ih := fun r' c' L' hL' hl' => ev_number e n k (mets bs r c (2 ^ (k + 1))) r' c' L' (by omega) hml hL' hl'
      generalize hms : mets bs r c (2 ^ (k + 1)) = ms at *
      have ha := po_ok (treeB k ms r c) L (nm _ _) hL
      have hb := po_ok (treeB k ms r (c + 2 ^ k)) _ (nm _ _) ha.1
      have hc := po_ok (treeB k ms (r + 2 ^ k) c) _ (nm _ _) hb.1
      have hd := po_ok (treeB k ms (r + 2 ^ k) (c + 2 ^ k)) _ (nm _ _) hc.1
      have pa := po_pre (treeB k ms r (c + 2 ^ k)) (po (treeB k ms r c) L)
      have pb := po_pre (treeB k ms (r + 2 ^ k) c) (po (treeB k ms r (c + 2 ^ k)) (po (treeB k ms r c) L))
      have pc := po_pre (treeB k ms (r + 2 ^ k) (c + 2 ^ k)) (po (treeB k ms (r + 2 ^ k) c) (po (treeB k ms r (c + 2 ^ k)) (po (treeB k ms r c) L)))
      have pd := put_pre (po (treeB k ms (r + 2 ^ k) (c + 2 ^ k)) (po (treeB k ms (r + 2 ^ k) c) (po (treeB k ms r (c + 2 ^ k)) (po (treeB k ms r c) L)))) (.mk (treeB k ms r c) (treeB k ms r (c + 2 ^ k)) (treeB k ms (r + 2 ^ k) c) (treeB k ms (r + 2 ^ k) (c + 2 ^ k)))
      have la := pa.length_le
      have lb := pb.length_le
      have lc := pc.length_le
      have ld := pd.length_le
      have q1 := ih r c L hL (by omega)
      have q2 := ih r (c + 2 ^ k) _ ha.1 (by omega)
      have q3 := ih (r + 2 ^ k) c _ hb.1 (by omega)
      have q4 := ih (r + 2 ^ k) (c + 2 ^ k) _ hc.1 (by omega)
      have e2 := two_pow_split k
      have p2 := two_pow_nn k
      have p3 : (2 : Int) ^ k ≤ 2 ^ 11 := by
        have : (2 : Nat) ^ k ≤ 2 ^ 11 := Nat.pow_le_pow_right (by decide) (by omega)
        exact_mod_cast this
      exact num_part e (n + k + 1) bs ms r c (2 ^ (k + 1)) L hbl hms.symm (by simpa using hp) (2 ^ k) (by omega) ⟨by omega, by omega⟩ _ _ _ _ _ _ _ _ q1 q2 q3 q4 hd.1
        (ha.2.mono (pa.trans (pb.trans pc))) (hb.2.mono (pb.trans pc)) (hc.2.mono pc) hd.2
        (num_pre ha.2 (pa.trans (pb.trans pc))).symm (num_pre hb.2 (pb.trans pc)).symm (num_pre hc.2 pc).symm (by omega)
theorem ev_law_shape (e : E sg tb) (n : Nat) {m : Nat} (hm : m ≤ 12) (bs : List Bx) (hbl : bs.length ≤ lim) :
    run sg tb (n + m + 3) 508 [natD m, .lst (bs.map bxD)] = FR.ok (shapeD m (treeB m bs 0 0)) [some (natD m), some (.lst (bs.map bxD))] := by
  rw [run_succ e.shape, runB_eq]
  have nm := treeB_nm m bs 0 0
  have dp := treeB_dep m bs 0 0
  have sz := Nat.le_trans (T.sz_cap (treeB m bs 0 0)) (cap_mono (Nat.le_trans dp hm))
  have pl := po_len (treeB m bs 0 0) []
  have h := ev_number e n m bs 0 0 [] hm hbl .nil (by have : lim = 16777216 := rfl; have : cap 12 = 5592405 := rfl; simp only [List.length_nil] at pl; omega)
  have hd : D.dt [] = dicD [] := rfl
  have hsh : opB .shl (.int 1) (natD m) = some (.int (2 ^ m)) := by
    rw [natD_eq, opB_shl, if_pos ⟨by omega, by omega, by decide⟩, Int.one_mul]; rfl
  have ht : opBi .tuple [dicD (po (treeB m bs 0 0) [])] = some (.tup ((rowsOf (sub (treeB m bs 0 0))).map rowD)) := by
    unfold dicD
    rw [bi_tupD]
    have key : ∀ (l : List (List Nat)) (i : Nat), (ixD (l.map keyQ) i).map (fun kv => D.tup (kv.1.map kyD)) = l.map rowD := by
      intro l
      induction l with
      | nil => intro i; rfl
      | cons q l ih =>
        intro i
        have : (keyQ q).map kyD = q.map natD := by unfold keyQ; rw [List.map_map]; rfl
        simp only [List.map_cons, ixD, ih, this]
        rfl
    rw [key]; rfl
  rw [show n + m + 2 = n + m + 2 from rfl] at h
  simp [-opB_shl, l_law_shape, hd, hsh, h, ht]
  rfl
structure BxOk (m : Nat) (b : Bx) : Prop where
  r0 : 0 ≤ b.r
  c0 : 0 ≤ b.c
  h0 : 0 < b.h
  w0 : 0 < b.w
  r1 : b.r + b.h ≤ 2 ^ m
  c1 : b.c + b.w ≤ 2 ^ m
theorem pow_le12 {m : Nat} (hm : m ≤ 12) : (2 : Int) ^ m ≤ 4096 := by
  have : (2 : Nat) ^ m ≤ 2 ^ 12 := Nat.pow_le_pow_right (by decide) hm
  exact_mod_cast this
theorem shl_nat (m : Nat) (hm : m ≤ 12) : opB .shl (.int 1) (natD m) = some (.int (2 ^ m)) := by
  rw [natD_eq, opB_shl, if_pos ⟨by omega, by omega, by decide⟩, Int.one_mul]; rfl
theorem ev_box (e : E sg tb) (n : Nat) (a b : Int) {m : Nat} (hm : m ≤ 12) (most : Int) (h1 : 0 < most) :
    ∃ x a' b', BxOk m x ∧ run sg tb (n + 2) 503 [pD a b, natD m, .int most] = FR.ok (bxD x) [some (pD a' b'), some (natD m), some (.int most)] := by
  have p2 := two_pow_nn m
  have p12 := pow_le12 hm
  have hsh := shl_nat m hm
  obtain ⟨r', hr⟩ : ∃ r', run sg tb (n + 2) 503 [pD a b, natD m, .int most] = r' := ⟨_, rfl⟩
  rw [hr]
  rw [run_succ e.box, runB_eq] at hr
  obtain ⟨d1, a1, b1, hd1, e1⟩ := ev_digit e n a b 2 (by decide) (by decide)
  by_cases h0 : d1 = 0
  · obtain ⟨d2, a2, b2, hd2, e2⟩ := ev_digit e n a1 b1 ((m : Int) + 1) (by omega) (by omega)
    obtain ⟨z, rfl⟩ : ∃ z : Nat, d2 = z := ⟨d2.toNat, by omega⟩
    have hz : z ≤ m := by omega
    have pz := two_pow_nn z
    have pz12 := pow_le12 (Nat.le_trans hz hm)
    have pw := two_pow_nn (m - z)
    have pw12 := pow_le12 (Nat.le_trans (Nat.sub_le m z) hm)
    have hsplit : (2 : Int) ^ m = 2 ^ (m - z) * 2 ^ z := by rw [← Int.pow_add]; congr 1; omega
    have hsz := shl_nat z (Nat.le_trans hz hm)
    have hsw := shl_nat (m - z) (Nat.le_trans (Nat.sub_le m z) hm)
    have ew : natD (m - z) = .int ((m : Int) - (z : Int)) := by unfold natD; congr 1; omega
    rw [ew] at hsw
    obtain ⟨d3, a3, b3, hd3, e3⟩ := ev_digit e n a2 b2 (2 ^ (m - z)) pw (by omega)
    obtain ⟨d4, a4, b4, hd4, e4⟩ := ev_digit e n a3 b3 (2 ^ (m - z)) pw (by omega)
    have hmul : ∀ x : Int, opB .mul (.int x) (.int (2 ^ z)) = some (.int (x * 2 ^ z)) := fun x => by rw [opB_mul, if_pos (.inr (by omega))]
    rw [natD_eq] at hsz hsh hr
    have g3 : (d3 + 1) * 2 ^ z ≤ 2 ^ m := by rw [hsplit]; exact Int.mul_le_mul_of_nonneg_right (by omega) (by omega)
    have g4 : (d4 + 1) * 2 ^ z ≤ 2 ^ m := by rw [hsplit]; exact Int.mul_le_mul_of_nonneg_right (by omega) (by omega)
    have c3 := Int.mul_nonneg hd3.1 (Int.le_of_lt pz)
    have c4 := Int.mul_nonneg hd4.1 (Int.le_of_lt pz)
    rw [Int.add_mul, Int.one_mul] at g3 g4
    refine ⟨⟨d3 * 2 ^ z, d4 * 2 ^ z, 2 ^ z, 2 ^ z⟩, a4, b4, ⟨c3, c4, pz, pz, g3, g4⟩, ?_⟩
    simp [-opB_mul, -opB_shl, l_law_box, hsh, e1, h0, e2, hsw, hsz, e3, e4, hmul] at hr
    exact hr.symm
  · generalize hsd : (2 : Int) ^ m = s at *
    obtain ⟨d2, a2, b2, hd2, e2⟩ := ev_digit e n a1 b1 s p2 (by omega)
    obtain ⟨d3, a3, b3, hd3, e3⟩ := ev_digit e n a2 b2 s p2 (by omega)
    obtain ⟨d4, a4, b4, hd4, e4⟩ := ev_digit e n a3 b3 (min most (s - d2)) (by omega) (by omega)
    obtain ⟨d5, a5, b5, hd5, e5⟩ := ev_digit e n a4 b4 (min most (s - d3)) (by omega) (by omega)
    rw [natD_eq] at hsh hr
    refine ⟨⟨d2, d3, 1 + d4, 1 + d5⟩, a5, b5, ⟨hd2.1, hd3.1, by show 0 < 1 + d4; omega, by show 0 < 1 + d5; omega, by rw [hsd]; show d2 + (1 + d4) ≤ s; omega, by rw [hsd]; show d3 + (1 + d5) ≤ s; omega⟩, ?_⟩
    simp [-opB_mul, -opB_shl, l_law_box, hsh, e1, h0, e2, e3, e4, e5] at hr
    exact hr.symm
theorem pow_le3 {m : Nat} (hm : m ≤ 3) : (2 : Int) ^ m ≤ 8 := by
  have : (2 : Nat) ^ m ≤ 2 ^ 3 := Nat.pow_le_pow_right (by decide) hm
  exact_mod_cast this
theorem ev_cells (e : E sg tb) (n : Nat) (a b : Int) {m : Nat} (hm : m ≤ 3) :
    ∃ (bs : List Bx) (a' b' : Int), (bs.length ≤ 64 ∧ ∀ x ∈ bs, BxOk m x) ∧ run sg tb (n + 2) 502 [pD a b, natD m] = FR.ok (.lst (bs.map bxD)) [some (pD a' b'), some (natD m)] := by
  have p2 := two_pow_nn m
  have p3 := pow_le3 hm
  have hsh := shl_nat m (by omega)
  obtain ⟨r', hr⟩ : ∃ r', run sg tb (n + 2) 502 [pD a b, natD m] = r' := ⟨_, rfl⟩
  rw [hr]
  rw [run_succ e.cells, runB_eq] at hr
  rw [natD_eq] at hsh hr ⊢
  obtain ⟨q, hq⟩ : ∃ q : Nat, (2 : Int) ^ m * 2 ^ m = q := ⟨((2 : Int) ^ m * 2 ^ m).toNat, by have := Int.mul_nonneg (Int.le_of_lt p2) (Int.le_of_lt p2); omega⟩
  have hq64 : q ≤ 64 := by
    have := Int.mul_le_mul p3 p3 (Int.le_of_lt p2) (by decide)
    omega
  generalize hsd : (2 : Int) ^ m = s at *
  have hmul : opB .mul (.int s) (.int s) = some (.int (q : Nat)) := by rw [opB_mul, if_pos (.inl (by omega)), hq]
  have hrng : itemsOf .rng [.int (q : Nat)] = some ((List.range q).map fun k => .int (k : Nat)) := by
    rw [it_rng1, if_pos ⟨by omega, by omega⟩]; rfl
  simp [-opB_mul, -opB_shl, -it_rng1, l_law_cells, hsh, hmul, hrng] at hr
  generalize hL : loopC _ _ _ _ _ _ _ = l at hr
  obtain ⟨acc, S', hl', bs, a', b', hacc, hS, hbs, hlen⟩ := loopC_elim (fun pre acc S' => ∃ (bs : List Bx) (a' b' : Int), acc = bs.map bxD ∧ S' = [some (pD a' b'), some (.int (m : Nat)), some (.int s), none] ∧ (∀ x ∈ bs, BxOk m x) ∧ bs.length ≤ pre.length) hL ⟨[], a, b, rfl, rfl, by simp, by simp⟩ (by
    rintro pre x post acc S hxs ⟨bs, a', b', rfl, rfl, hbs, hlen⟩
    have hc0 := congrArg List.length hxs
    simp at hc0
    obtain ⟨j, hj, hjq⟩ : ∃ j : Nat, x = .int (j : Nat) ∧ j < q := by
      have : x ∈ (List.range q).map fun k => D.int (k : Nat) := by rw [← hxs]; simp
      obtain ⟨j, hj, e⟩ := List.mem_map.mp this
      exact ⟨j, e.symm, List.mem_range.mp hj⟩
    obtain ⟨d1, a1, b1, hd1, e1⟩ := ev_digit e n a' b' 2 (by decide) (by decide)
    have hs2 : s < 1073741824 := by omega
    have hll : bs.length < lim := by have : lim = 16777216 := rfl; omega
    subst hj
    refine ⟨by rw [List.length_map]; exact hll, _, by simp; rfl, ?_⟩
    by_cases h1 : d1 = 1
    · refine .inl ⟨_, by simp [e1, h1]; rfl, bxD ⟨(j : Int) / s, (j : Int) % s, 1, 1⟩, _, by simp [p2, hs2]; exact ⟨rfl, rfl⟩, rfl, bs ++ [⟨(j : Int) / s, (j : Int) % s, 1, 1⟩], a1, b1, by simp, by simp, ?_, by simp; exact hlen⟩
      intro x hx
      rcases List.mem_append.mp hx with hx | hx
      · exact hbs x hx
      · simp at hx
        subst hx
        have c1 := Int.emod_nonneg (j : Int) (show s ≠ 0 by omega)
        have c2 := Int.emod_lt_of_pos (j : Int) p2
        have c3 : (0 : Int) ≤ (j : Int) / s := Int.ediv_nonneg (by omega) (by omega)
        have c4 : (j : Int) / s < s := Int.ediv_lt_of_lt_mul p2 (by omega)
        exact ⟨c3, c1, (by show (0 : Int) < 1; decide), (by show (0 : Int) < 1; decide), by rw [hsd]; show (j : Int) / s + 1 ≤ s; omega, by rw [hsd]; show (j : Int) % s + 1 ≤ s; omega⟩
    · exact .inr ⟨_, by simp [e1, h1]; rfl, bs, a1, b1, rfl, by simp, hbs, by simp; omega⟩)
  rw [hl', hS, hacc] at hr
  simp at hr
  rw [List.length_map, List.length_range] at hlen
  exact ⟨bs, a', b', ⟨by omega, hbs⟩, hr.symm⟩
/-- few cells, or few boxes -/
structure BsOk (m : Nat) (bs : List Bx) : Prop where
  ok : ∀ x ∈ bs, BxOk m x
  few : bs.length ≤ 5 ∨ m ≤ 3 ∧ bs.length ≤ 64
theorem ev_boxes (e : E sg tb) (n : Nat) (a b : Int) {m : Nat} (hm : m ≤ 12) :
    ∃ (bs : List Bx) (a' b' : Int), BsOk m bs ∧ run sg tb (n + 3) 504 [pD a b, natD m] = FR.ok (.lst (bs.map bxD)) [some (pD a' b'), some (natD m)] := by
  have hlt : opC .lt (.int (m : Nat)) (.int 4) = some (decide (m ≤ 3)) := by rw [opC_lt]; congr 1; exact decide_eq_decide.mpr (by omega)
  obtain ⟨r', hr⟩ : ∃ r', run sg tb (n + 3) 504 [pD a b, natD m] = r' := ⟨_, rfl⟩
  rw [hr]
  rw [run_succ e.boxes, runB_eq] at hr
  have rest : ∀ a1 b1 : Int, ∃ (bs : List Bx) (a' b' : Int), BsOk m bs ∧ evE sg (run sg tb (n + 2)) (.comp [2] .rng (.cons (.call 501 (.cons (.var 0) (.cons (.cst (.int 6)) .nil))) .nil) [2] (.cst (.bl true)) (.call 503 (.cons (.var 0) (.cons (.var 1) (.cons (.cst (.int 9)) .nil))))) [some (pD a1 b1), some (.int (m : Nat)), none] = .ok (.lst (bs.map bxD)) [some (pD a' b'), some (.int (m : Nat)), none] := by
    intro a1 b1
    obtain ⟨d1, a2, b2, hd1, e1⟩ := ev_digit e (n + 1) a1 b1 6 (by decide) (by decide)
    rw [show n + 1 + 1 = n + 2 from rfl] at e1
    obtain ⟨q, rfl⟩ : ∃ q : Nat, d1 = q := ⟨d1.toNat, by omega⟩
    have hrng : itemsOf .rng [.int (q : Nat)] = some ((List.range q).map fun k => .int (k : Nat)) := by
      rw [it_rng1, if_pos ⟨by omega, by omega⟩]; rfl
    obtain ⟨r2, hr2⟩ : ∃ r2, evE sg (run sg tb (n + 2)) (.comp [2] .rng (.cons (.call 501 (.cons (.var 0) (.cons (.cst (.int 6)) .nil))) .nil) [2] (.cst (.bl true)) (.call 503 (.cons (.var 0) (.cons (.var 1) (.cons (.cst (.int 9)) .nil))))) [some (pD a1 b1), some (.int (m : Nat)), none] = r2 := ⟨_, rfl⟩
    rw [hr2]
    simp [-it_rng1, hrng, e1] at hr2
    generalize hL : loopC _ _ _ _ _ _ _ = l at hr2
    obtain ⟨acc, S', hl', bs, a', b', hacc, hS, hbs, hlen⟩ := loopC_elim (fun pre acc S' => ∃ (bs : List Bx) (a' b' : Int), acc = bs.map bxD ∧ S' = [some (pD a' b'), some (.int (m : Nat)), none] ∧ (∀ x ∈ bs, BxOk m x) ∧ bs.length ≤ pre.length) hL ⟨[], a2, b2, rfl, rfl, by simp, by simp⟩ (by
      rintro pre x post acc S hxs ⟨bs, a', b', rfl, rfl, hbs, hlen⟩
      have hc0 := congrArg List.length hxs
      simp at hc0
      obtain ⟨j, hj, hjq⟩ : ∃ j : Nat, x = .int (j : Nat) ∧ j < q := by
        have : x ∈ (List.range q).map fun k => D.int (k : Nat) := by rw [← hxs]; simp
        obtain ⟨j, hj, e⟩ := List.mem_map.mp this
        exact ⟨j, e.symm, List.mem_range.mp hj⟩
      obtain ⟨x1, a3, b3, hx1, e3⟩ := ev_box e n a' b' hm 9 (by decide)
      rw [natD_eq] at e3
      have hll : bs.length < lim := by have : lim = 16777216 := rfl; omega
      subst hj
      refine ⟨by rw [List.length_map]; exact hll, _, by simp; rfl, .inl ⟨_, by simp; rfl, bxD x1, _, by simp [e3]; rfl, rfl, bs ++ [x1], a3, b3, by simp, by simp, ?_, by simp; exact hlen⟩⟩
      intro x hx
      rcases List.mem_append.mp hx with hx | hx
      · exact hbs x hx
      · simp at hx
        subst hx
        exact hx1)
    rw [hl', hS, hacc] at hr2
    simp at hr2
    rw [List.length_map, List.length_range] at hlen
    exact ⟨bs, a', b', ⟨hbs, .inl (by omega)⟩, hr2.symm⟩
  rw [natD_eq] at hr ⊢
  by_cases h3 : m ≤ 3
  · rw [decide_eq_true h3] at hlt
    obtain ⟨d1, a1, b1, hd1, e1⟩ := ev_digit e (n + 1) a b 2 (by decide) (by decide)
    rw [show n + 1 + 1 = n + 2 from rfl] at e1
    by_cases h0 : d1 = 0
    · obtain ⟨bs, a', b', ⟨hbl, hbs⟩, ec⟩ := ev_cells e n a1 b1 h3
      rw [natD_eq] at ec
      simp [-opC_lt, l_law_boxes, hlt, e1, h0, ec] at hr
      exact ⟨bs, a', b', ⟨hbs, .inr ⟨h3, hbl⟩⟩, hr.symm⟩
    · obtain ⟨bs, a', b', hbs, er⟩ := rest a1 b1
      simp [-opC_lt, -evE_comp, l_law_boxes, hlt, e1, h0, er] at hr
      exact ⟨bs, a', b', hbs, hr.symm⟩
  · rw [decide_eq_false h3] at hlt
    obtain ⟨bs, a', b', hbs, er⟩ := rest a b
    simp [-opC_lt, -evE_comp, l_law_boxes, hlt, er] at hr
    exact ⟨bs, a', b', hbs, hr.symm⟩
/-- the tree of few boxes has few parted squares -/
theorem few_sz {m : Nat} (hm : m ≤ 12) {bs : List Bx} (h : BsOk m bs) : (treeB m bs 0 0).sz ≤ 81900 := by
  rcases h.few with h5 | ⟨h3, _⟩
  · have q := treeB_sz (bs.flatMap fun b => [b.r, b.r + b.h]) (bs.flatMap fun b => [b.c, b.c + b.w]) m bs 0 0 (fun b hb => ⟨List.mem_flatMap.mpr ⟨b, hb, by simp⟩, List.mem_flatMap.mpr ⟨b, hb, by simp⟩, List.mem_flatMap.mpr ⟨b, hb, by simp⟩, List.mem_flatMap.mpr ⟨b, hb, by simp⟩⟩)
    have len : ∀ (f g : Bx → Int) (bs : List Bx), (bs.flatMap fun b => [f b, g b]).length = 2 * bs.length := by
      intro f g bs
      induction bs with
      | nil => rfl
      | cons b bs ih => rw [List.flatMap_cons, List.length_append, ih]; simp; omega
    have l1 := lns_le (bs.flatMap fun b => [b.r, b.r + b.h]) 0 (0 + 2 ^ m)
    have l2 := lns_le (bs.flatMap fun b => [b.c, b.c + b.w]) 0 (0 + 2 ^ m)
    rw [len] at l1 l2
    have hp : (2 : Nat) ^ m ≤ 2 ^ 12 := Nat.pow_le_pow_right (by decide) hm
    exact Nat.le_trans q (Nat.le_trans (Nat.mul_le_mul (show _ ≤ 20 by omega) (show _ ≤ 4095 by omega)) (by decide))
  · exact Nat.le_trans (T.sz_cap _) (Nat.le_trans (cap_mono (Nat.le_trans (treeB_dep m bs 0 0) h3)) (by decide))
theorem treeB_shp {m : Nat} (hm : m ≤ 12) (bs : List Bx) : Shp m (treeB m bs 0 0) := ⟨treeB_nm _ _ _ _, treeB_dep _ _ _ _, hm⟩
end
end Q.Pot
end
section
set_option linter.all false
set_option Elab.async false
set_option maxRecDepth 100000
namespace Q
open PySem PySem.Spec
/-! repr of shapes -/
theorem shown_int_len {k : Nat} (h : k < 1000000) : (toP (natD k)).shown.length ≤ 7 := by
  show (Str.ofString (toString ((k : Nat) : Int))).length ≤ 7
  rw [PyProof.Rows.ofString_len]
  exact int_text_length_le10 (k := 6) (by decide) (by simpa using h)
theorem shownAll_len : ∀ ds : List PyData, (PyData.shownAll ds).length = ds.length
  | [] => by simp [PyData.shownAll]
  | d :: ds => by simp [PyData.shownAll, shownAll_len ds]
theorem shownAll_sum {B : Nat} : ∀ ds : List PyData, (∀ d ∈ ds, d.shown.length ≤ B) → ((PyData.shownAll ds).map (·.length)).sum ≤ B * ds.length
  | [], _ => by simp [PyData.shownAll]
  | d :: ds, h => by
    have h1 := h d (by simp)
    have h2 := shownAll_sum ds fun x hx => h x (List.mem_cons_of_mem _ hx)
    simp only [PyData.shownAll, List.map_cons, List.sum_cons, List.length_cons, Nat.mul_add, Nat.mul_one]
    omega
theorem shown_tup_len {B : Nat} (ds : List PyData) (h : ∀ d ∈ ds, d.shown.length ≤ B) : (PyData.tuple ds).shown.length ≤ (B + 2) * ds.length + 3 := by
  have e : (PyData.tuple ds).shown = tupleText (PyData.shownAll ds) := by simp only [PyData.shown]
  rw [e]
  refine Nat.le_trans (tupleText_len_le _) ?_
  have := shownAll_sum ds h
  rw [shownAll_len, Nat.add_mul]
  omega
theorem toPs_map {α : Type} (f : α → D) : ∀ l : List α, toPs (l.map f) = l.map fun a => toP (f a)
  | [] => rfl
  | a :: l => by simp [toPs, toPs_map f l]
theorem showableAll_map {α : Type} (f : α → PyData) (h : ∀ a, (f a).showable = true) : ∀ l : List α, PyData.showableAll (l.map f) = true
  | [] => by simp [PyData.showableAll]
  | a :: l => by simp [PyData.showableAll, h a, showableAll_map f h l]
theorem row_shown {q : List Nat} (h4 : q.length = 4) (h : ∀ k ∈ q, k < 1000000) : (toP (rowD q)).shown.length ≤ 39 := by
  have e : toP (rowD q) = .tuple (q.map fun k => toP (natD k)) := by
    show PyData.tuple (toPs (q.map natD)) = _
    rw [toPs_map]
  rw [e]
  have := shown_tup_len (B := 7) (q.map fun k => toP (natD k)) (fun d hd => by
    obtain ⟨k, hk, rfl⟩ := List.mem_map.mp hd
    exact shown_int_len (h k hk))
  rw [List.length_map, h4] at this
  exact this
def shapeT (m : Nat) (t : T) : Str := (toP (shapeD m t)).shown
theorem natD_showable {k : Nat} (h : k < 1000000) : (toP (natD k)).showable = true := by
  show decide ((((k : Nat) : Int)).natAbs.log2 < 1920) = true
  have : k.log2 < 1920 := by
    by_cases h0 : k = 0
    · subst h0; decide
    · exact Nat.lt_of_le_of_lt (Nat.log2_le_self k |> fun _ => Nat.le_of_lt ((Nat.log2_lt h0).mpr (Nat.lt_of_lt_of_le h (by decide : 1000000 ≤ 2 ^ 20)))) (by decide)
  simpa using this
theorem repr_shape {m : Nat} {t : T} (h : Shp m t) (hz : t.sz ≤ 400000) : opBi .repr [shapeD m t] = some (.str (shapeT m t)) := by
  have v := rowsOf_vr (sub_cls h.nm)
  have hl : (sub t).length ≤ 400000 := by have := po_len t []; simp only [List.length_nil] at this; unfold sub; omega
  have hrl : (rowsOf (sub t)).length ≤ 400000 := by rw [rowsOf_len]; exact hl
  have htop : num (sub t) t < 1000000 := by have := num_lt (sub_in h.nm); omega
  have hm : m < 1000000 := by have := h.le; omega
  have e : toP (shapeD m t) = .tuple [toP (natD m), toP (natD (num (sub t) t)), .tuple ((rowsOf (sub t)).map fun q => toP (rowD q))] := by
    show PyData.tuple [_, _, PyData.tuple (toPs ((rowsOf (sub t)).map rowD))] = _
    rw [toPs_map]
  have hk : ∀ q ∈ rowsOf (sub t), q.length = 4 ∧ ∀ k ∈ q, k < 1000000 := fun q hq => by
    obtain ⟨i, hi, rfl⟩ := List.getElem_of_mem hq
    obtain ⟨h4, hk⟩ := v i _ (List.getElem?_eq_getElem hi)
    exact ⟨h4, fun k hkq => by have := hk k hkq; omega⟩
  have hrows := shown_tup_len (B := 39) ((rowsOf (sub t)).map fun q => toP (rowD q)) (fun d hd => by
    obtain ⟨q, hq, rfl⟩ := List.mem_map.mp hd
    exact row_shown (hk q hq).1 (hk q hq).2)
  rw [List.length_map] at hrows
  have l1 := shown_int_len hm
  have l2 := shown_int_len htop
  have hlen : (toP (shapeD m t)).shown.length ≤ lim := by
    rw [e]
    have e2 : (PyData.tuple [toP (natD m), toP (natD (num (sub t) t)), .tuple ((rowsOf (sub t)).map fun q => toP (rowD q))]).shown = tupleText [(toP (natD m)).shown, (toP (natD (num (sub t) t))).shown, (PyData.tuple ((rowsOf (sub t)).map fun q => toP (rowD q))).shown] := by simp only [PyData.shown, PyData.shownAll]
    rw [e2]
    have := tupleText_len_le [(toP (natD m)).shown, (toP (natD (num (sub t) t))).shown, (PyData.tuple ((rowsOf (sub t)).map fun q => toP (rowD q))).shown]
    simp only [List.map_cons, List.map_nil, List.sum_cons, List.sum_nil, List.length_cons, List.length_nil] at this
    have l16 := lim_v
    omega
  have hshow : (toP (shapeD m t)).showable = true := by
    rw [e]
    have hr : PyData.showableAll ((rowsOf (sub t)).map fun q => toP (rowD q)) = true := by
      have : ∀ l : List (List Nat), (∀ q ∈ l, q.length = 4 ∧ ∀ k ∈ q, k < 1000000) → PyData.showableAll (l.map fun q => toP (rowD q)) = true := by
        intro l
        induction l with
        | nil => intro _; simp [PyData.showableAll]
        | cons q l ih =>
          intro hq
          have h1 : (toP (rowD q)).showable = true := by
            have e : toP (rowD q) = .tuple (q.map fun k => toP (natD k)) := by
              show PyData.tuple (toPs (q.map natD)) = _
              rw [toPs_map]
            rw [e]
            have : ∀ l : List Nat, (∀ k ∈ l, k < 1000000) → PyData.showableAll (l.map fun k => toP (natD k)) = true := by
              intro l
              induction l with
              | nil => intro _; simp [PyData.showableAll]
              | cons k l ih => intro hk; simp [PyData.showableAll, natD_showable (hk k (by simp)), ih fun k' h' => hk k' (List.mem_cons_of_mem _ h')]
            simp only [PyData.showable]
            exact this q (hq q (by simp)).2
          simp [PyData.showableAll, h1, ih fun q' h' => hq q' (List.mem_cons_of_mem _ h')]
      exact this _ hk
    simp only [PyData.showable, PyData.showableAll, hr, Bool.and_true, Bool.and_eq_true]
    exact ⟨natD_showable hm, natD_showable htop⟩
  have hok : showOk (shapeD m t) = true := by
    unfold showOk
    rw [shapeD_shp, hshow, decide_eq_true hlen]; rfl
  show (if showOk (shapeD m t) = true then some (D.str (toP (shapeD m t)).shown) else none) = _
  rw [if_pos hok]; rfl
/-! signs that are signs -/
def okT (x : Str) : Prop := x.cps.all (· < 1114112) = true
theorem okT_append {x y : Str} (hx : okT x) (hy : okT y) : okT (x ++ y) := by
  show (x.cps ++ y.cps).all _ = true
  rw [Array.all_append, hx, hy]; rfl
theorem okT_string (s : String) : okT (Str.ofString s) := by
  unfold okT
  rw [Str.ofString_eq_toList]
  simp only [List.all_toArray, List.all_eq_true, List.mem_map, decide_eq_true_eq]
  rintro c ⟨ch, _, rfl⟩
  have := ch.valid
  rcases this with h | ⟨_, h⟩
  · have : ch.toNat < 55296 := h
    omega
  · exact h
theorem okT_join {sep : Str} (hs : okT sep) : ∀ ts : List Str, (∀ t ∈ ts, okT t) → okT (Str.join sep ts)
  | [], _ => by
    show (#[] : Array Nat).all _ = true
    simp
  | [x], h => h x (by simp)
  | x :: y :: r, h => okT_append (okT_append (h x (by simp)) hs) (okT_join hs (y :: r) fun t ht => h t (List.mem_cons_of_mem _ ht))
theorem okT_tuple {ts : List Str} (h : ∀ t ∈ ts, okT t) : okT (tupleText ts) := by
  unfold tupleText
  refine okT_append (okT_append (okT_string _) (okT_join (okT_string _) ts h)) ?_
  split <;> exact okT_string _
theorem okT_nat (k : Nat) : okT (toP (natD k)).shown := okT_string _
theorem shownAll_ok : ∀ ds : List PyData, (∀ d ∈ ds, okT d.shown) → ∀ t ∈ PyData.shownAll ds, okT t
  | [], _, t, ht => by simp [PyData.shownAll] at ht
  | d :: ds, h, t, ht => by
    simp only [PyData.shownAll, List.mem_cons] at ht
    rcases ht with rfl | ht
    · exact h d (by simp)
    · exact shownAll_ok ds (fun x hx => h x (List.mem_cons_of_mem _ hx)) t ht
theorem okT_tup {ds : List PyData} (h : ∀ d ∈ ds, okT d.shown) : okT (PyData.tuple ds).shown := by
  have e : (PyData.tuple ds).shown = tupleText (PyData.shownAll ds) := by simp only [PyData.shown]
  rw [e]
  exact okT_tuple (shownAll_ok ds h)
theorem okT_shape (m : Nat) (t : T) : okT (shapeT m t) := by
  unfold shapeT
  have e : toP (shapeD m t) = .tuple [toP (natD m), toP (natD (num (sub t) t)), .tuple ((rowsOf (sub t)).map fun q => toP (rowD q))] := by
    show PyData.tuple [_, _, PyData.tuple (toPs ((rowsOf (sub t)).map rowD))] = _
    rw [toPs_map]
  rw [e]
  refine okT_tup fun d hd => ?_
  simp at hd
  rcases hd with rfl | rfl | rfl
  · exact okT_nat _
  · exact okT_nat _
  · refine okT_tup fun d hd => ?_
    obtain ⟨q, _, rfl⟩ := List.mem_map.mp hd
    have e : toP (rowD q) = .tuple (q.map fun k => toP (natD k)) := by
      show PyData.tuple (toPs (q.map natD)) = _
      rw [toPs_map]
    rw [e]
    refine okT_tup fun d hd => ?_
    obtain ⟨k, _, rfl⟩ := List.mem_map.mp hd
    exact okT_nat _
theorem shp_okT {k : Nat} {x : Str} (h : okT x) : shp k (.str x) = true := by
  unfold shp; exact h
theorem str_ne_self {x : Str} (h : okT x) : opC .ne (.str x) (.str x) = some false := opC_ne_self rfl (shp_okT h)
theorem str_eq_self {x : Str} (h : okT x) : opC .eq (.str x) (.str x) = some true := opC_eq_self rfl (shp_okT h)
/-! small numbers -/
def S8 (k : Nat) : Str := (toP (natD k)).shown
theorem repr_nat {k : Nat} (h : k < 1000000) : opBi .repr [natD k] = some (.str (S8 k)) := by
  have hok : showOk (natD k) = true := by
    unfold showOk
    rw [natD_showable h, show shp 60 (natD k) = true by unfold natD shp; rfl, decide_eq_true (show (toP (natD k)).shown.length ≤ lim by have := shown_int_len h; have := lim_v; omega)]; rfl
  show (if showOk (natD k) = true then some (D.str (toP (natD k)).shown) else none) = _
  rw [if_pos hok]; rfl
theorem str_nat {k : Nat} (h : k < 1000000) : opBi .str [natD k] = some (.str (S8 k)) := by
  have := natD_showable h
  have h2 : (((k : Nat) : Int)).natAbs.log2 < 1920 := of_decide_eq_true this
  show (if (((k : Nat) : Int)).natAbs.log2 < 1920 then some (D.str (PyData.int ((k : Nat) : Int)).shown) else none) = _
  rw [if_pos h2]; rfl
theorem S8_in {k n : Nat} (h : k < n) : opIn (.str (S8 k)) (.lst ((List.range n).map fun j => .str (S8 j))) = some true := by
  have hs : ∀ l : List Nat, shps 60 (l.map fun j => D.str (S8 j)) = true := by
    intro l
    induction l with
    | nil => simp [shps]
    | cons j l ih =>
      have hj : shp 60 (.str (S8 j)) = true := shp_okT (okT_nat j)
      simp only [List.map_cons, shps, ih, hj, Bool.and_self]
  have hk : shp 60 (.str (S8 k)) = true := shp_okT (okT_nat k)
  rw [opIn_lst, hk, hs, Bool.and_self, if_pos rfl]
  congr 1
  rw [List.any_eq_true]
  refine ⟨.str (S8 k), List.mem_map.mpr ⟨k, List.mem_range.mpr h, rfl⟩, ?_⟩
  exact deq_self _ rfl
end Q
end
section
set_option linter.all false
set_option Elab.async false
set_option maxRecDepth 100000
set_option maxHeartbeats 4000000
namespace Q
open PySem TL
/-! plain law: lines of numbers, read back -/
def spS : Str := " "
def nlS : Str := "\n"
theorem tl_S8 (k : Nat) : tl (S8 k) = numL k := tl_num k
theorem S8_len {k : Nat} (h : k < 1000000) : (S8 k).length ≤ 6 := by rw [len_tl, tl_S8]; exact numL_len (by decide) h
theorem S8_int {k : Nat} (h : k < 1000000) : PySem.intText? (S8 k) = some (k : Int) := int_num (n := k) (by have := numL_len (k := 6) (by decide) h; omega)
def lineS (ks : List Nat) : Str := Str.join spS (ks.map S8)
def rowT (ks : List Nat) : Str := lineS ks ++ nlS
def textL (ls : List (List Nat)) : Str := Str.join "" (ls.map rowT)
theorem joinL_snoc (S : List Nat) : ∀ (ps : List (List Nat)) (p : List Nat), ps ≠ [] → joinL S (ps ++ [p]) = joinL S ps ++ (S ++ p)
  | [], p, h => absurd rfl h
  | [a], p, _ => rfl
  | a :: b :: r, p, _ => by
    show a ++ (S ++ joinL S ((b :: r) ++ [p])) = (a ++ (S ++ joinL S (b :: r))) ++ (S ++ p)
    rw [joinL_snoc S (b :: r) p (by simp)]
    simp only [List.append_assoc]
theorem line_snoc (ks : List Nat) (k : Nat) (h : ks ≠ []) : lineS (ks ++ [k]) = lineS ks ++ spS ++ S8 k := by
  refine ext_tl ?_
  unfold lineS
  rw [tl_append, tl_append, tl_join, tl_join, List.map_append, List.map_append, List.map_cons, List.map_nil, List.map_cons, List.map_nil, joinL_snoc _ _ _ (by simpa using h), List.append_assoc]
theorem line_one (k : Nat) : lineS [k] = S8 k := rfl
theorem split_line {ks : List Nat} (h : ks ≠ []) : Txt.split (lineS ks) spS = ks.map S8 := by
  have := split_join (y := spS) (s := 32) (S := []) rfl (by decide +kernel) (parts := ks.map S8) (by simpa using h) (fun p hp => by
    obtain ⟨k, _, rfl⟩ := List.mem_map.mp hp
    rw [tl_S8]
    exact numL_free (by decide))
  rwa [join_eq] at this
theorem joinL_nil : ∀ ps : List (List Nat), joinL [] ps = ps.flatten
  | [] => rfl
  | [p] => by simp [joinL]
  | p :: q :: r => by
    show p ++ ([] ++ joinL [] (q :: r)) = _
    rw [joinL_nil (q :: r)]; simp
theorem joinL_end (S : List Nat) : ∀ ps : List (List Nat), joinL S (ps ++ [[]]) = (ps.map fun p => p ++ S).flatten
  | [] => rfl
  | [p] => by simp [joinL]
  | p :: q :: r => by
    show p ++ (S ++ joinL S ((q :: r) ++ [[]])) = _
    rw [joinL_end S (q :: r)]; simp
theorem text_join (ls : List (List Nat)) : textL ls = Str.join nlS (ls.map lineS ++ [Str.empty]) := by
  refine ext_tl ?_
  unfold textL
  rw [tl_join, tl_join, show tl ("" : Str) = [] from rfl, joinL_nil, List.map_append, List.map_cons, List.map_nil, show tl Str.empty = [] from rfl, joinL_end]
  congr 1
  rw [List.map_map, List.map_map, List.map_map]
  exact List.map_congr_left fun l _ => by
    show tl (lineS l ++ nlS) = tl (lineS l) ++ tl nlS
    rw [tl_append]
theorem line_free {ks : List Nat} {s : Nat} (h1 : s ≠ 32) (h2 : s < 48 ∨ 57 < s) : s ∉ tl (lineS ks) := by
  unfold lineS
  rw [tl_join, show tl spS = [32] from rfl, List.map_map]
  have : ∀ ks : List Nat, s ∉ joinL [32] (ks.map (tl ∘ S8)) := fun ks => by
    induction ks with
    | nil => simp [joinL]
    | cons k ks ih =>
      have hk : s ∉ numL k := numL_free h2
      cases ks with
      | nil => show s ∉ tl (S8 k); rw [tl_S8]; exact hk
      | cons j ks =>
        show s ∉ tl (S8 k) ++ ([32] ++ joinL [32] ((j :: ks).map (tl ∘ S8)))
        rw [tl_S8]
        intro z
        rcases List.mem_append.mp z with z | z
        · exact hk z
        · rcases List.mem_append.mp z with z | z
          · simp at z; exact h1 z
          · exact ih z
  exact this ks
theorem split_text (ls : List (List Nat)) : Txt.split (textL ls) nlS = ls.map lineS ++ [Str.empty] := by
  have := split_join (y := nlS) (s := 10) (S := []) rfl (by decide +kernel) (parts := ls.map lineS ++ [Str.empty]) (by simp) (fun p hp => by
    rcases List.mem_append.mp hp with hp | hp
    · obtain ⟨l, _, rfl⟩ := List.mem_map.mp hp
      exact line_free (by decide) (by decide)
    · simp at hp; rw [hp]; show 10 ∉ ([] : List Nat); simp)
  rwa [join_eq, ← text_join] at this
end Q
end
section
set_option linter.all false
set_option Elab.async false
set_option maxRecDepth 100000
set_option maxHeartbeats 4000000
namespace Q
open PySem TL
structure TxtE (sg : Sg) (tb : Nat → Option Fn) : Prop where
  tel : TelE sg tb
  line : tb 161 = some p_shapetexts_line_of
  text : tb 162 = some p_shapetexts_shape_text
  num : tb 163 = some p_shapetexts_number_in
  nums : tb 164 = some p_shapetexts_numbers_in
  read : tb 165 = some p_shapetexts_read_shape
  g26 : sg.glob 26 = some (.str "0123456789")
  g27 : sg.glob 27 = some (.int 8)
variable {sg : Sg} {tb : Nat → Option Fn}
theorem strsOf_map {α : Type} (f : α → Str) : ∀ l : List α, strsOf (l.map fun a => .str (f a)) = some (l.map f)
  | [] => rfl
  | a :: l => by
    show (strsOf (l.map fun a => .str (f a))).map (f a :: ·) = _
    rw [strsOf_map f l]; rfl
theorem sum_le {α : Type} (f : α → Nat) (B : Nat) : ∀ l : List α, (∀ a ∈ l, f a ≤ B) → (l.map f).sum ≤ B * l.length
  | [], _ => by simp
  | a :: l, h => by
    have h1 := h a (by simp)
    have h2 := sum_le f B l fun b hb => h b (List.mem_cons_of_mem _ hb)
    rw [List.map_cons, List.sum_cons, List.length_cons, Nat.mul_add]
    omega
theorem join_op {α : Type} (sep : Str) (f : α → Str) (l : List α) (h : (l.map fun a => (f a).length).sum + l.length * sep.length ≤ lim) : opBm .join [.str sep, .lst (l.map fun a => .str (f a))] = some (.str (Str.join sep (l.map f))) := by
  have e : (D.lst (l.map fun a => D.str (f a))).items.bind strsOf = some (l.map f) := strsOf_map f l
  unfold opBm
  simp only [e]
  rw [if_pos (by rw [List.map_map, List.length_map]; exact h), join_eq]
theorem join_len (sep : Str) (ts : List Str) : (Str.join sep ts).length ≤ (ts.map (·.length)).sum + ts.length * sep.length := StrLaws.join_length_le sep ts
theorem line_len {ks : List Nat} (h : ∀ k ∈ ks, k < 1000000) : (lineS ks).length ≤ 7 * ks.length := by
  have h1 := join_len spS (ks.map S8)
  rw [List.map_map, List.length_map] at h1
  have h2 := sum_le (fun k => (S8 k).length) 6 ks fun k hk => S8_len (h k hk)
  have h3 : (ks.map ((fun x : Str => x.length) ∘ S8)).sum = (ks.map fun k => (S8 k).length).sum := rfl
  have h4 : spS.length = 1 := rfl
  rw [h4] at h1
  unfold lineS
  omega
theorem row_len {ks : List Nat} (h : ∀ k ∈ ks, k < 1000000) : (rowT ks).length ≤ 7 * ks.length + 1 := by
  have := line_len h
  unfold rowT
  rw [Str.length_append]
  have h4 : nlS.length = 1 := rfl
  omega
theorem ev_line_of (e : TxtE sg tb) (n : Nat) {ks : List Nat} (h : ∀ k ∈ ks, k < 1000000) (hl : ks.length ≤ 1000) :
    run sg tb (n + 1) 161 [.tup (ks.map natD)] = FR.ok (.str (rowT ks)) [some (.tup (ks.map natD))] := by
  rw [run_succ e.line, runB_eq]
  have l16 := lim_v
  have hcomp : ∀ S : Sl, S = [some (.tup (ks.map natD)), none] → loopC (evE sg (run sg tb n) (.cst (.bl true))) (evE sg (run sg tb n) (.bi .str (.cons (.var 1) .nil))) [1] [1] (ks.map natD) [] S = .ok (.lst (ks.map fun k => .str (S8 k))) S := by
    intro S hS
    have key := loopC_ix (c := evE sg (run sg tb n) (.cst (.bl true))) (e := evE sg (run sg tb n) (.bi .str (.cons (.var 1) .nil))) (ts := [1]) (own := [1]) (S := S) (fun S => by rw [evE]) (ks.map natD) (ks.map fun k => .str (S8 k)) [] (by simp) (fun i x y hx hy => by
      rw [List.getElem?_map] at hx hy
      obtain ⟨k, e1, rfl⟩ := Option.map_eq_some_iff.mp hx
      rw [e1] at hy
      have hy2 : y = .str (S8 k) := (Option.some.inj hy).symm
      have hs := str_nat (h k (List.mem_of_getElem? e1))
      subst hS
      rw [hy2]
      refine ⟨_, by simp; rfl, _, by simp [hs]; rfl, rfl, by simp⟩) (by simp; omega)
    rw [key]; rfl
  have hj : opBm .join [.str " ", .lst (ks.map fun k => .str (S8 k))] = some (.str (lineS ks)) := join_op " " S8 ks (by
    have h2 := sum_le (fun k => (S8 k).length) 6 ks fun k hk => S8_len (h k hk)
    have h4 : (" " : Str).length = 1 := rfl
    rw [h4]; omega)
  have hll := line_len h
  have ha : opB .add (.str (lineS ks)) (.str "\n") = some (.str (rowT ks)) := by
    show (if (lineS ks).length + ("\n" : Str).length ≤ lim then some (D.str (lineS ks ++ "\n")) else none) = _
    have h4 : ("\n" : Str).length = 1 := rfl
    rw [if_pos (by rw [h4]; omega)]; rfl
  have hb : bmOf .join (some (.str " ")) = true := rfl
  generalize lineS ks = ls at *
  generalize rowT ks = rt at *
  generalize (ks.map fun k => D.str (S8 k)) = xs at *
  generalize ks.map natD = kd at *
  simp [p_shapetexts_line_of, hcomp, hj, ha, hb]
theorem tl_text (ls : List (List Nat)) : tl (textL ls) = (ls.map fun l => tl (rowT l)).flatten := by
  unfold textL
  rw [tl_join, show tl ("" : Str) = [] from rfl, joinL_nil, List.map_map]
  rfl
theorem text_cons (l : List Nat) (ls : List (List Nat)) : textL (l :: ls) = rowT l ++ textL ls := by
  refine ext_tl ?_
  rw [tl_append, tl_text, tl_text, List.map_cons, List.flatten_cons]
theorem text_len {ls : List (List Nat)} (h : ∀ l ∈ ls, l.length ≤ 4 ∧ ∀ k ∈ l, k < 1000000) : (textL ls).length ≤ 29 * ls.length := by
  have h1 := join_len "" (ls.map rowT)
  rw [List.map_map, List.length_map] at h1
  have h2 := sum_le (fun l => (rowT l).length) 29 ls fun l hl => by
    have := row_len (h l hl).2
    have := (h l hl).1
    omega
  have h4 : ("" : Str).length = 0 := rfl
  rw [h4] at h1
  unfold textL
  have h3 : (ls.map ((fun x : Str => x.length) ∘ rowT)).sum = (ls.map fun l => (rowT l).length).sum := rfl
  omega
/-- the lines of a shape -/
def linesS (m : Nat) (t : T) : List (List Nat) := [m, num (sub t) t] :: rowsOf (sub t)
theorem lines_ok {m : Nat} {t : T} (h : Shp m t) (hl : (sub t).length ≤ 400000) : ∀ l ∈ linesS m t, l.length ≤ 4 ∧ (l ≠ []) ∧ ∀ k ∈ l, k < 1000000 := fun l hm => by
  have hle := h.le
  rcases List.mem_cons.mp hm with rfl | hm
  · have := num_lt (sub_in h.nm)
    refine ⟨by simp, by simp, fun k hk => ?_⟩
    simp at hk
    rcases hk with rfl | rfl <;> omega
  · have v := rowsOf_vr (sub_cls h.nm)
    obtain ⟨i, hi⟩ := List.getElem?_of_mem hm
    obtain ⟨h4, hk⟩ := v i l hi
    have hil := (List.getElem?_eq_some_iff.mp hi).1
    rw [rowsOf_len] at hil
    refine ⟨by omega, fun z => by rw [z] at h4; simp at h4, fun k hk' => ?_⟩
    have := hk k hk'
    omega
theorem ev_shape_text (e : TxtE sg tb) (n : Nat) {m : Nat} {t : T} (h : Shp m t) (hl : (sub t).length ≤ 400000) :
    run sg tb (n + 19) 162 [shapeD m t] = FR.ok (.str (textL (linesS m t))) [some (shapeD m t)] := by
  obtain ⟨r, hr⟩ : ∃ r, run sg tb (n + 19) 162 [shapeD m t] = r := ⟨_, rfl⟩
  rw [hr]
  rw [run_succ e.text, runB_eq] at hr
  have l16 := lim_v
  have hw := ev_want_shape e.tel n h
  have ok := lines_ok h hl
  have rl := rowsOf_len (sub t)
  have hh := ev_line_of e (n + 17) (ks := [m, num (sub t) t]) (ok _ (by simp [linesS])).2.2 (by simp)
  rw [show n + 17 + 1 = n + 18 from rfl] at hh
  have okr : ∀ q ∈ rowsOf (sub t), q.length ≤ 4 ∧ q ≠ [] ∧ ∀ k ∈ q, k < 1000000 := fun q hq => ok q (by simp [linesS, hq])
  have hcomp : ∀ S : Sl, S = [some (shapeD m t), some (natD m), some (natD (num (sub t) t)), some (.tup ((rowsOf (sub t)).map rowD)), none] → loopC (evE sg (run sg tb (n + 18)) (.cst (.bl true))) (evE sg (run sg tb (n + 18)) (.call 161 (.cons (.var 4) .nil))) [4] [4] ((rowsOf (sub t)).map rowD) [] S = .ok (.lst ((rowsOf (sub t)).map fun q => .str (rowT q))) S := by
    intro S hS
    have key := loopC_ix (c := evE sg (run sg tb (n + 18)) (.cst (.bl true))) (e := evE sg (run sg tb (n + 18)) (.call 161 (.cons (.var 4) .nil))) (ts := [4]) (own := [4]) (S := S) (fun S => by rw [evE]) ((rowsOf (sub t)).map rowD) ((rowsOf (sub t)).map fun q => .str (rowT q)) [] (by simp) (fun i x y hx hy => by
      rw [List.getElem?_map] at hx hy
      obtain ⟨q, e1, rfl⟩ := Option.map_eq_some_iff.mp hx
      rw [e1] at hy
      have hy2 : y = .str (rowT q) := (Option.some.inj hy).symm
      have hq := okr q (List.mem_of_getElem? e1)
      have hs := ev_line_of e (n + 17) (ks := q) hq.2.2 (by omega)
      rw [show n + 17 + 1 = n + 18 from rfl] at hs
      have hs' : run sg tb (n + 18) 161 [rowD q] = FR.ok (.str (rowT q)) [some (rowD q)] := hs
      have pq : (rowD q).pure = true := rfl
      have lq : (rowD q).lin = false := rfl
      rw [hy2]
      generalize rowD q = qd at *
      generalize (rowsOf (sub t)).map rowD = xs at *
      generalize shapeD m t = ss at *
      subst hS
      refine ⟨_, by simp; rfl, _, by simp [hs', pq, lq]; rfl, rfl, by simp⟩) (by simp; omega)
    rw [key]; rfl
  have hj : opBm .join [.str "", .lst ((rowsOf (sub t)).map fun q => .str (rowT q))] = some (.str (textL (rowsOf (sub t)))) := join_op "" rowT (rowsOf (sub t)) (by
    have h2 := sum_le (fun q => (rowT q).length) 29 (rowsOf (sub t)) fun q hq => by
      have := row_len (okr q hq).2.2
      have := (okr q hq).1
      omega
    have h4 : ("" : Str).length = 0 := rfl
    rw [h4]; omega)
  have htl := text_len (ls := rowsOf (sub t)) fun q hq => ⟨(okr q hq).1, (okr q hq).2.2⟩
  have hhl := row_len (ks := [m, num (sub t) t]) (ok _ (by simp [linesS])).2.2
  have ha : opB .add (.str (rowT [m, num (sub t) t])) (.str (textL (rowsOf (sub t)))) = some (.str (textL (linesS m t))) := by
    show (if (rowT [m, num (sub t) t]).length + (textL (rowsOf (sub t))).length ≤ lim then some (D.str (rowT [m, num (sub t) t] ++ textL (rowsOf (sub t)))) else none) = _
    rw [if_pos (by simp at hhl; omega), ← text_cons]; rfl
  have hb : bmOf .join (some (.str "")) = true := rfl
  have hh' : run sg tb (n + 18) 161 [.tup [natD m, natD (num (sub t) t)]] = FR.ok (.str (rowT [m, num (sub t) t])) [some (.tup [natD m, natD (num (sub t) t)])] := hh
  have hsd : shapeD m t = .tup [natD m, natD (num (sub t) t), .tup ((rowsOf (sub t)).map rowD)] := rfl
  rw [hsd] at hr hw hcomp ⊢
  generalize rowT [m, num (sub t) t] = a1 at *
  generalize textL (rowsOf (sub t)) = a2 at *
  generalize textL (linesS m t) = a3 at *
  generalize ((rowsOf (sub t)).map fun q => D.str (rowT q)) = xs at *
  generalize (rowsOf (sub t)).map rowD = rs at *
  generalize num (sub t) t = top at *
  simp [p_shapetexts_shape_text, hw, hh', hcomp, hj, ha, hb] at hr
  exact hr.symm
end Q
end
section
set_option linter.all false
set_option Elab.async false
set_option maxRecDepth 100000
set_option maxHeartbeats 4000000
namespace Q
open PySem TL
variable {sg : Sg} {tb : Nat → Option Fn}
theorem deq_str (x y : Str) : deq (.str x) (.str y) = (x == y) := by simp [deq]
theorem okT_S8 (k : Nat) : okT (S8 k) := okT_nat k
theorem eq_strs {x y : Str} (hx : okT x) (hy : okT y) : opC .eq (.str x) (.str y) = some (x == y) := by
  rw [opC_eq, shp_okT hx, shp_okT hy, deq_str]; rfl
theorem ne_strs {x y : Str} (hx : okT x) (hy : okT y) : opC .ne (.str x) (.str y) = some (!(x == y)) := by
  rw [opC_ne, shp_okT hx, shp_okT hy, deq_str]; rfl
theorem str_ne {x y : Str} (h : tl x ≠ tl y) : (x == y) = false := by
  cases e : x == y with
  | false => rfl
  | true => exact absurd (congrArg tl (eq_of_beq e)) h
theorem numL_head : ∀ (k : Nat) (c : Nat) (r : List Nat), numL k = c :: r → c = 48 → k = 0 := by
  intro k
  induction k using Nat.strongRecOn with
  | _ k ih =>
    intro c r e hc
    by_cases h : k < 10
    · rw [numL_lt h] at e
      simp at e
      omega
    · rw [numL_step (by omega)] at e
      cases e2 : numL (k / 10) with
      | nil => exact absurd e2 (numL_ne _)
      | cons c' r' =>
        rw [e2] at e
        simp at e
        have := ih (k / 10) (by omega) c' r' e2 (by omega)
        omega
theorem all_trueR (k : Nat) : opBi .all [.lst (List.replicate k (.bl true))] = some (.bl true) := by
  have h : boolsOf (List.replicate k (D.bl true)) = some (List.replicate k true) := by
    have := boolsOf_bl (List.replicate k true)
    rwa [List.map_replicate] at this
  rw [bi_all, h]
  simp
theorem in_figs {c : Nat} (h : 48 ≤ c ∧ c ≤ 57) : opIn (.str ⟨#[c]⟩) (.str "0123456789") = some true := by
  have : c = 48 ∨ c = 49 ∨ c = 50 ∨ c = 51 ∨ c = 52 ∨ c = 53 ∨ c = 54 ∨ c = 55 ∨ c = 56 ∨ c = 57 := by omega
  rcases this with rfl | rfl | rfl | rfl | rfl | rfl | rfl | rfl | rfl | rfl <;> rfl
theorem ev_number_in (e : TxtE sg tb) (n : Nat) {k : Nat} (h : k < 1000000) :
    run sg tb (n + 1) 163 [.str (S8 k)] = FR.ok (natD k) [some (.str (S8 k))] := by
  obtain ⟨r, hr⟩ : ∃ r, run sg tb (n + 1) 163 [.str (S8 k)] = r := ⟨_, rfl⟩
  rw [hr]
  rw [run_succ e.num, runB_eq] at hr
  have l16 := lim_v
  have hlen := S8_len h
  have t8 := tl_S8 k
  have hne := numL_ne k
  have c1 : opC .eq (.str (S8 k)) (.str "") = some false := by
    rw [eq_strs (okT_S8 k) (okT_string ""), str_ne (by rw [t8]; exact hne)]
  have hbl : opBi .len [.str (S8 k)] = some (.int (S8 k).length) := by
    show (if (S8 k).length ≤ lim then some (D.int (S8 k).length) else none) = _
    rw [if_pos (by omega)]
  have c2 : opC .gt (.int (S8 k).length) (.int 8) = some false := by rw [opC_gt]; exact congrArg some (decide_eq_false (by omega))
  have hit : itemsOf .seq [.str (S8 k)] = some ((numL k).map fun c => .str ⟨#[c]⟩) := by
    show (if (S8 k).length ≤ lim then some ((S8 k).cps.toList.map fun c => D.str ⟨#[c]⟩) else none) = _
    rw [if_pos (by omega), show (S8 k).cps.toList = numL k from t8]
  have hcomp : ∀ S : Sl, S = [some (.str (S8 k)), none] → loopC (evE sg (run sg tb n) (.cst (.bl true))) (evE sg (run sg tb n) (.cmp .in_ (.var 1) (.glb 26))) [1] [1] ((numL k).map fun c => .str ⟨#[c]⟩) [] S = .ok (.lst (List.replicate (numL k).length (.bl true))) S := by
    intro S hS
    have key := loopC_ix (c := evE sg (run sg tb n) (.cst (.bl true))) (e := evE sg (run sg tb n) (.cmp .in_ (.var 1) (.glb 26))) (ts := [1]) (own := [1]) (S := S) (fun S => by rw [evE]) ((numL k).map fun c => .str ⟨#[c]⟩) (List.replicate (numL k).length (.bl true)) [] (by simp) (fun i x y hx hy => by
      rw [List.getElem?_map] at hx
      obtain ⟨c, e1, rfl⟩ := Option.map_eq_some_iff.mp hx
      have hy2 : y = .bl true := (List.mem_replicate.mp (List.mem_of_getElem? hy)).2
      have hc := numL_digits k c (List.mem_of_getElem? e1)
      have hin := in_figs hc
      have hin2 : opC .in_ (.str ⟨#[c]⟩) (.str "0123456789") = some true := hin
      have g := e.g26
      subst hS
      rw [hy2]
      refine ⟨_, by simp; rfl, _, by simp [g, hin, hin2]; rfl, rfl, by simp⟩) (by have := numL_len (k := 6) (by decide) h; simp; omega)
    rw [key]; rfl
  have hall := all_trueR (numL k).length
  obtain ⟨c0, r0, e0⟩ : ∃ c r, numL k = c :: r := by
    cases e : numL k with
    | nil => exact absurd e hne
    | cons c r => exact ⟨c, r, rfl⟩
  have hix : opB .ix (.str (S8 k)) (.int 0) = some (.str ⟨#[c0]⟩) := by
    show (if (S8 k).length ≤ lim then (atZ (S8 k).cps.toList 0).map fun c => D.str ⟨#[c]⟩ else none) = _
    rw [if_pos (by omega), show (S8 k).cps.toList = numL k from t8, e0]; rfl
  have hc0 := numL_digits k c0 (by rw [e0]; simp)
  have okc : okT (⟨#[c0]⟩ : Str) := by
    show (#[c0] : Array Nat).all (· < 1114112) = true
    simp
    omega
  have c3 : opC .eq (.str ⟨#[c0]⟩) (.str "0") = some (decide (c0 = 48)) := by
    rw [eq_strs okc (okT_string "0")]
    by_cases hz : c0 = 48
    · subst hz; rfl
    · rw [str_ne (by show [c0] ≠ [48]; simpa using hz), decide_eq_false hz]
  have c4 : c0 = 48 → opC .ne (.str (S8 k)) (.str "0") = some false := fun hz => by
    have hk0 := numL_head k c0 r0 e0 hz
    subst hk0
    rw [ne_strs (okT_S8 0) (okT_string "0")]
    rfl
  have hint : opBi .int [.str (S8 k)] = some (natD k) := by
    show (if (S8 k).length ≤ 640 then (PySem.intText? (S8 k)).map D.int else none) = _
    rw [if_pos (by omega), S8_int h]; rfl
  have g7 := e.g27
  generalize S8 k = x at *
  generalize (numL k).length = nl at *
  by_cases hz : c0 = 48
  · have c4' := c4 hz
    rw [decide_eq_true hz] at c3
    generalize (numL k).map (fun c => D.str ⟨#[c]⟩) = xs at *
    generalize D.str ⟨#[c0]⟩ = y at *
    simp [-bi_all, -opC_gt, p_shapetexts_number_in, c1, hbl, g7, c2, hit, hcomp, hall, hix, c3, c4', hint] at hr
    exact hr.symm
  · rw [decide_eq_false hz] at c3
    generalize (numL k).map (fun c => D.str ⟨#[c]⟩) = xs at *
    generalize D.str ⟨#[c0]⟩ = y at *
    simp [-bi_all, -opC_gt, p_shapetexts_number_in, c1, hbl, g7, c2, hit, hcomp, hall, hix, c3, hint] at hr
    exact hr.symm
end Q
end
section
set_option linter.all false
set_option Elab.async false
set_option maxRecDepth 100000
set_option maxHeartbeats 4000000
namespace Q
open PySem TL
variable {sg : Sg} {tb : Nat → Option Fn}
theorem ev_numbers_in (e : TxtE sg tb) (n : Nat) {ks : List Nat} (hne : ks ≠ []) (h : ∀ k ∈ ks, k < 1000000) (hl : ks.length ≤ 1000) :
    run sg tb (n + 2) 164 [.str (lineS ks)] = FR.ok (.tup (ks.map natD)) [some (.str (lineS ks))] := by
  obtain ⟨r, hr⟩ : ∃ r, run sg tb (n + 2) 164 [.str (lineS ks)] = r := ⟨_, rfl⟩
  rw [hr]
  rw [run_succ e.nums, runB_eq] at hr
  have l16 := lim_v
  have hll := line_len h
  have hs : opBm .split [.str (lineS ks), .str " "] = some (.lst (ks.map fun k => .str (S8 k))) := by
    show (if (" " : Str).length ≠ 0 ∧ (lineS ks).length + 2 ≤ lim then some (D.lst ((Txt.split (lineS ks) " ").map .str)) else none) = _
    rw [if_pos ⟨by decide, by omega⟩, show (" " : Str) = spS from rfl, split_line hne, List.map_map]; rfl
  have hb : bmOf .split (some (.str (lineS ks))) = true := rfl
  have hcomp : ∀ S : Sl, S = [some (.str (lineS ks)), none] → loopC (evE sg (run sg tb (n + 1)) (.cst (.bl true))) (evE sg (run sg tb (n + 1)) (.call 163 (.cons (.var 1) .nil))) [1] [1] (ks.map fun k => .str (S8 k)) [] S = .ok (.lst (ks.map natD)) S := by
    intro S hS
    have key := loopC_ix (c := evE sg (run sg tb (n + 1)) (.cst (.bl true))) (e := evE sg (run sg tb (n + 1)) (.call 163 (.cons (.var 1) .nil))) (ts := [1]) (own := [1]) (S := S) (fun S => by rw [evE]) (ks.map fun k => .str (S8 k)) (ks.map natD) [] (by simp) (fun i x y hx hy => by
      rw [List.getElem?_map] at hx hy
      obtain ⟨k, e1, rfl⟩ := Option.map_eq_some_iff.mp hx
      rw [e1] at hy
      have hy2 : y = natD k := (Option.some.inj hy).symm
      have hs := ev_number_in e n (h k (List.mem_of_getElem? e1))
      subst hS
      rw [hy2]
      refine ⟨_, by simp; rfl, _, by simp [hs]; rfl, rfl, by simp⟩) (by simp; omega)
    rw [key]; rfl
  generalize lineS ks = x at *
  generalize (ks.map fun k => D.str (S8 k)) = xs at *
  generalize ks.map natD = ys at *
  simp [p_shapetexts_numbers_in, hs, hb, hcomp] at hr
  exact hr.symm
theorem cut_mid {a b : D} {xs : List D} : opSl (.lst (a :: (xs ++ [b]))) (some 1) (some (-1)) = some (.lst xs) := by
  unfold opSl cutD
  dsimp only
  rw [if_pos (show (-1 : Int) < 0 by decide), if_neg (show ¬ (1 : Int) < 0 by decide), List.length_cons, List.length_append, List.length_singleton]
  have e1 : min (Int.toNat 1) (xs.length + 1 + 1) = 1 := by show min 1 (xs.length + 1 + 1) = 1; omega
  have e2 : ((-1 : Int) + ((xs.length + 1 + 1 : Nat) : Int)).toNat = xs.length + 1 := by omega
  rw [e1, e2]
  refine congrArg (fun z => some (D.lst z)) ?_
  show (xs ++ [b]).take (xs.length + 1 - 1) = xs
  rw [Nat.add_sub_cancel, List.take_left]
theorem ev_read (e : TxtE sg tb) (n : Nat) {m : Nat} {t : T} (h : Shp m t) (hl : (sub t).length ≤ 400000) :
    run sg tb (n + 18) 165 [.str (textL (linesS m t))] = FR.ok (shapeD m t) [some (.str (textL (linesS m t)))] := by
  obtain ⟨r, hr⟩ : ∃ r, run sg tb (n + 18) 165 [.str (textL (linesS m t))] = r := ⟨_, rfl⟩
  rw [hr]
  rw [run_succ e.read, runB_eq] at hr
  have l16 := lim_v
  have ok := lines_ok h hl
  have rl := rowsOf_len (sub t)
  have okr : ∀ q ∈ rowsOf (sub t), q.length ≤ 4 ∧ q ≠ [] ∧ ∀ k ∈ q, k < 1000000 := fun q hq => ok q (by simp [linesS, hq])
  have htl := text_len (ls := linesS m t) fun q hq => ⟨(ok q hq).1, (ok q hq).2.2⟩
  have hlen : (linesS m t).length = (sub t).length + 1 := by simp [linesS, rl]
  have ty : isTys [.str] (.str (textL (linesS m t))) = some true := rfl
  have hs : opBm .split [.str (textL (linesS m t)), .str "\n"] = some (.lst (.str (lineS [m, num (sub t) t]) :: ((rowsOf (sub t)).map (fun q => .str (lineS q)) ++ [.str ""]))) := by
    show (if ("\n" : Str).length ≠ 0 ∧ (textL (linesS m t)).length + 2 ≤ lim then some (D.lst ((Txt.split (textL (linesS m t)) "\n").map .str)) else none) = _
    rw [if_pos ⟨by decide, by omega⟩, show ("\n" : Str) = nlS from rfl, split_text]
    refine congrArg (fun z => some (D.lst z)) ?_
    rw [List.map_append, List.map_map]
    show _ :: (_ ++ _) = _
    rfl
  have hb : bmOf .split (some (.str (textL (linesS m t)))) = true := rfl
  have hln : opBi .len [.lst (.str (lineS [m, num (sub t) t]) :: ((rowsOf (sub t)).map (fun q => D.str (lineS q)) ++ [.str ""]))] = some (.int ((sub t).length + 2 : Nat)) := by
    rw [bi_lenL, List.length_cons, List.length_append, List.length_map, List.length_singleton, rl]
  have hlt : opC .lt (.int ((sub t).length + 2 : Nat)) (.int 2) = some false := by rw [opC_lt]; exact congrArg some (decide_eq_false (by omega))
  have hat : opB .ix (.lst (.str (lineS [m, num (sub t) t]) :: ((rowsOf (sub t)).map (fun q => D.str (lineS q)) ++ [.str ""]))) (.int (-1)) = some (.str "") := by
    show atZ (.str (lineS [m, num (sub t) t]) :: ((rowsOf (sub t)).map (fun q => D.str (lineS q)) ++ [.str ""])) (-1) = _
    rw [← List.cons_append]
    unfold atZ
    rw [if_neg (by decide), if_pos (by rw [List.length_append, List.length_singleton]; omega), List.length_append, List.length_singleton, List.length_cons, List.length_map]
    rw [show ((-1 : Int) + (((rowsOf (sub t)).length + 1 + 1 : Nat) : Int)).toNat = (rowsOf (sub t)).length + 1 by omega]
    rw [List.getElem?_append_right (by simp)]
    simp
  have hat0 : opB .ix (.lst (.str (lineS [m, num (sub t) t]) :: ((rowsOf (sub t)).map (fun q => D.str (lineS q)) ++ [.str ""]))) (.int 0) = some (.str (lineS [m, num (sub t) t])) := rfl
  have hne : opC .ne (.str "") (.str "") = some false := str_ne_self (okT_string "")
  have hh := ev_numbers_in e (n + 15) (ks := [m, num (sub t) t]) (by simp) (ok _ (by simp [linesS])).2.2 (by simp)
  rw [show n + 15 + 2 = n + 17 from rfl] at hh
  have hh' : run sg tb (n + 17) 164 [.str (lineS [m, num (sub t) t])] = FR.ok (.tup [natD m, natD (num (sub t) t)]) [some (.str (lineS [m, num (sub t) t]))] := hh
  have hcut : opSl (.lst (.str (lineS [m, num (sub t) t]) :: ((rowsOf (sub t)).map (fun q => D.str (lineS q)) ++ [.str ""]))) (some 1) (some (-1)) = some (.lst ((rowsOf (sub t)).map fun q => .str (lineS q))) := cut_mid
  have hcomp : ∀ s1 s2 s3 (S : Sl), S = [s1, s2, s3, none, none] → loopC (evE sg (run sg tb (n + 17)) (.cst (.bl true))) (evE sg (run sg tb (n + 17)) (.call 164 (.cons (.var 4) .nil))) [4] [4] ((rowsOf (sub t)).map fun q => .str (lineS q)) [] S = .ok (.lst ((rowsOf (sub t)).map rowD)) S := by
    intro s1 s2 s3 S hS
    have key := loopC_ix (c := evE sg (run sg tb (n + 17)) (.cst (.bl true))) (e := evE sg (run sg tb (n + 17)) (.call 164 (.cons (.var 4) .nil))) (ts := [4]) (own := [4]) (S := S) (fun S => by rw [evE]) ((rowsOf (sub t)).map fun q => .str (lineS q)) ((rowsOf (sub t)).map rowD) [] (by simp) (fun i x y hx hy => by
      rw [List.getElem?_map] at hx hy
      obtain ⟨q, e1, rfl⟩ := Option.map_eq_some_iff.mp hx
      rw [e1] at hy
      have hy2 : y = rowD q := (Option.some.inj hy).symm
      have hq := okr q (List.mem_of_getElem? e1)
      have hs := ev_numbers_in e (n + 15) hq.2.1 hq.2.2 (by omega)
      rw [show n + 15 + 2 = n + 17 from rfl] at hs
      have hs' : run sg tb (n + 17) 164 [.str (lineS q)] = FR.ok (rowD q) [some (.str (lineS q))] := hs
      have pq : (rowD q).pure = true := rfl
      rw [hy2]
      generalize rowD q = qd at *
      subst hS
      refine ⟨_, by simp; rfl, _, by simp [hs', pq]; rfl, pq, by simp⟩) (by simp; omega)
    rw [key]; rfl
  have htup : opBi .tuple [.lst ((rowsOf (sub t)).map rowD)] = some (.tup ((rowsOf (sub t)).map rowD)) := rfl
  have hadd : opB .add (.tup [natD m, natD (num (sub t) t)]) (.tup [.tup ((rowsOf (sub t)).map rowD)]) = some (shapeD m t) := by
    rw [opB_addT, if_pos (by simp)]; rfl
  have his := ev_is_shape e.tel n h
  have ps : (shapeD m t).pure = true := rfl
  have ls : (shapeD m t).lin = false := rfl
  have hcomp2 := fun s1 s2 s3 => hcomp s1 s2 s3 _ rfl
  clear hcomp
  generalize hz : ((sub t).length + 2 : Nat) = zl at *
  generalize hL : D.str (lineS [m, num (sub t) t]) :: ((rowsOf (sub t)).map (fun q => D.str (lineS q)) ++ [.str ""]) = L at *
  generalize textL (linesS m t) = x at *
  generalize D.str (lineS [m, num (sub t) t]) = l0 at *
  generalize ((rowsOf (sub t)).map fun q => D.str (lineS q)) = lr at *
  generalize (rowsOf (sub t)).map rowD = rs at *
  generalize shapeD m t = ss at *
  simp [-bi_lenL, -opC_lt, -opB_ixL, -opB_addT, p_shapetexts_read_shape, ty, hs, hb, hln, hlt, hat, hne, hat0, hh', hcut, hcomp2, htup, hadd, his, ps, ls] at hr
  exact hr.symm
end Q
end
section
set_option Elab.async false
set_option linter.all false
set_option maxRecDepth 100000
set_option maxHeartbeats 0
namespace Q
open PySem TL
theorem tbT : TxtE tabL.sg tabL.tb := ⟨⟨⟨rfl, rfl, rfl, rfl, rfl, rfl, rfl⟩, rfl, rfl, rfl, rfl, rfl, rfl, rfl, rfl, rfl, rfl⟩, rfl, rfl, rfl, rfl, rfl, rfl, rfl⟩
theorem tbO : Pot.E tabL.sg tabL.tb := ⟨rfl, rfl, rfl, rfl, rfl, rfl, rfl, rfl, rfl⟩
def chS (d : Nat) : Str := ⟨#[48 + d]⟩
theorem fig_at {d : Nat} (h : d < 10) : opB .ix (.str "0123456789") (natD d) = some (.str (chS d)) := by
  have : d = 0 ∨ d = 1 ∨ d = 2 ∨ d = 3 ∨ d = 4 ∨ d = 5 ∨ d = 6 ∨ d = 7 ∨ d = 8 ∨ d = 9 := by omega
  rcases this with rfl | rfl | rfl | rfl | rfl | rfl | rfl | rfl | rfl | rfl <;> rfl
theorem tl_ch (d : Nat) : tl (chS d) = [48 + d] := rfl
theorem add_str {x y : Str} (h : (tl x).length + (tl y).length ≤ 1000000) : opB .add (.str x) (.str y) = some (.str (x ++ y)) := by
  have l16 := lim_v
  show (if x.length + y.length ≤ lim then some (D.str (x ++ y)) else none) = _
  rw [if_pos (by rw [len_tl, len_tl]; omega)]
abbrev figC : Ex := .cmp .gt (.var 2) (.cst (.int 9))
abbrev figB : Cms := (.cons (.set 1 (.bin .add (.bin .ix (.cst (.str "0123456789")) (.bin .mod (.var 2) (.cst (.int 10)))) (.var 1)))
  (.cons (.set 2 (.bin .fdiv (.var 2) (.cst (.int 10))))
  .nil))
theorem ev_figW (n : Nat) (k : Nat) : ∀ (j left : Nat) (x : Str) (N : Nat), left < 10 ^ (j + 1) → (tl x).length + j ≤ 1000 →
    ∃ (l' : Nat) (x' : Str), l' ≤ 9 ∧ numL l' ++ tl x' = numL left ++ tl x ∧ (tl x').length ≤ 1000 ∧ loopW (evE tabL.sg (run tabL.sg tabL.tb n) figC) (evCs tabL.sg (run tabL.sg tabL.tb n) [0] figB) (N + j + 1) [some (natD k), some (.str x), some (natD left)] = .nx [some (natD k), some (.str x'), some (natD l')] := by
  intro j
  induction j with
  | zero =>
    intro left x N h hl
    refine ⟨left, x, by omega, rfl, by omega, ?_⟩
    have c : opC .gt (natD left) (.int 9) = some false := by rw [natD_eq, opC_gt]; exact congrArg some (decide_eq_false (by omega))
    rw [loopW]
    simp [-opC_gt, c]
  | succ j ih =>
    intro left x N h hl
    by_cases h9 : left ≤ 9
    · refine ⟨left, x, h9, rfl, by omega, ?_⟩
      have c : opC .gt (natD left) (.int 9) = some false := by rw [natD_eq, opC_gt]; exact congrArg some (decide_eq_false (by omega))
      rw [loopW]
      simp [-opC_gt, c]
    · have c : opC .gt (natD left) (.int 9) = some true := by rw [natD_eq, opC_gt]; exact congrArg some (decide_eq_true (by omega))
      have hm : opB .mod (natD left) (.int 10) = some (natD (left % 10)) := by
        rw [natD_eq, opB_mod, if_pos (by decide)]; rfl
      have hd : opB .fdiv (natD left) (.int 10) = some (natD (left / 10)) := by
        rw [natD_eq, opB_fdiv, if_pos (by decide)]; rfl
      have hf := fig_at (d := left % 10) (by omega)
      have ha := add_str (x := chS (left % 10)) (y := x) (by rw [tl_ch, List.length_singleton]; omega)
      obtain ⟨l', x', e1, e2, e3, e4⟩ := ih (left / 10) (chS (left % 10) ++ x) N (by rw [Nat.pow_succ] at h; omega) (by rw [tl_append, tl_ch, List.length_append, List.length_singleton]; omega)
      refine ⟨l', x', e1, ?_, e3, ?_⟩
      · rw [e2, tl_append, tl_ch, numL_step (n := left) (by omega), List.append_assoc]
      · rw [show N + (j + 1) + 1 = (N + j + 1) + 1 from rfl, loopW, ← e4]
        generalize chS (left % 10) = ch at *
        generalize chx : ch ++ x = y at *
        simp [-opC_gt, -opB_mod, -opB_fdiv, c, hm, hf, ha, hd]
theorem ev_figures (n : Nat) {k : Nat} (h : k < 1000000) : run tabL.sg tabL.tb (n + 1) 509 [natD k] = FR.ok (.str (S8 k)) [some (natD k)] := by
  rw [run_succ (fn := l_law_figures) rfl, runB_eq]
  obtain ⟨l', x', e1, e2, e3, e4⟩ := ev_figW n k 6 k "" 999999993 (by omega) (by show 0 + 6 ≤ 1000; omega)
  rw [show 999999993 + 6 + 1 = loopMax from rfl] at e4
  have hf := fig_at (d := l') (by omega)
  have ha := add_str (x := chS l') (y := x') (by rw [tl_ch, List.length_singleton]; omega)
  have he : chS l' ++ x' = S8 k := by
    refine ext_tl ?_
    have e2' : numL l' ++ tl x' = numL k := by rw [e2]; exact List.append_nil _
    rw [tl_append, tl_ch, tl_S8, ← e2', numL_lt (by omega)]
  rw [he] at ha
  generalize chS l' = ch at *
  simp [l_law_figures, e4, hf, ha]
theorem lineS_nil : lineS [] = ("" : Str) := rfl
theorem line_ne {ks : List Nat} (h : ks ≠ []) : tl (lineS ks) ≠ [] := by
  intro e
  obtain ⟨r, k, rfl⟩ : ∃ r k, ks = r ++ [k] := ⟨ks.dropLast, ks.getLast h, (List.dropLast_concat_getLast h).symm⟩
  by_cases hr : r = []
  · subst hr
    rw [List.nil_append, line_one, tl_S8] at e
    exact numL_ne k e
  · rw [line_snoc r k hr, tl_append, tl_S8] at e
    exact numL_ne k (List.append_eq_nil_iff.mp e).2
theorem okT_line (ks : List Nat) : okT (lineS ks) := okT_join (okT_string " ") _ fun t ht => by
  obtain ⟨k, _, rfl⟩ := List.mem_map.mp ht
  exact okT_S8 k
theorem ev_line (n : Nat) {ks : List Nat} (h : ∀ k ∈ ks, k < 1000000) (hl : ks.length ≤ 1000) :
    run tabL.sg tabL.tb (n + 2) 510 [.tup (ks.map natD)] = FR.ok (.str (rowT ks)) [some (.tup (ks.map natD))] := by
  obtain ⟨r, hr⟩ : ∃ r, run tabL.sg tabL.tb (n + 2) 510 [.tup (ks.map natD)] = r := ⟨_, rfl⟩
  rw [hr]
  rw [run_succ (fn := l_law_line) rfl, runB_eq] at hr
  have hf := fun k (hk : k ∈ ks) => ev_figures n (h k hk)
  obtain ⟨xs, hxs⟩ : ∃ xs, xs = ks.map natD := ⟨_, rfl⟩
  have l16 := lim_v
  have hll := line_len h
  have hend : opB .add (.str (lineS ks)) (.str "\n") = some (.str (rowT ks)) := by
    have := add_str (x := lineS ks) (y := "\n") (by rw [← len_tl]; show (lineS ks).length + 1 ≤ _; omega)
    rw [this]; rfl
  rw [← hxs] at hr ⊢
  simp [l_law_line] at hr
  generalize hL : loopF _ _ _ _ _ = l at hr
  obtain ⟨S', hl', s2, hS⟩ := loopF_elim (fun pre S' => ∃ s2, S' = [some (.tup xs), some (.str (lineS (ks.take pre.length))), s2]) hL ⟨none, rfl⟩ (by
    rintro pre x post S hpx ⟨s2, rfl⟩
    have hi : xs[pre.length]? = some x := by rw [← hpx]; simp
    rw [hxs, List.getElem?_map] at hi
    obtain ⟨k, hk, rfl⟩ := Option.map_eq_some_iff.mp hi
    have hkm := List.mem_of_getElem? hk
    have f := hf k hkm
    have hsz := S8_len (h k hkm)
    rw [len_tl] at hsz
    have ht : ks.take (pre ++ [natD k]).length = ks.take pre.length ++ [k] := by
      rw [List.length_append, List.length_singleton, List.take_add_one, hk]; rfl
    have hpl := line_len (ks := ks.take pre.length) (fun j hj => h j (List.mem_of_mem_take hj))
    have htl : (ks.take pre.length).length ≤ 1000 := by rw [List.length_take]; omega
    rw [len_tl] at hpl
    rw [ht]
    have hadd2 : ∀ z : Str, (tl z).length ≤ 7010 → opB .add (.str z) (.str (S8 k)) = some (.str (z ++ S8 k)) := fun z hz => add_str (by omega)
    by_cases he : ks.take pre.length = []
    · rw [he, lineS_nil]
      have c : opC .ne (.str "") (.str "") = some false := str_ne_self (okT_string "")
      have m : opB .mul (.str " ") (.int (b2 false)) = some (.str "") := rfl
      have a1 : opB .add (.str "") (.str "") = some (.str "") := rfl
      have a2 := hadd2 "" (by show 0 ≤ _; omega)
      have e2 : lineS ([] ++ [k]) = "" ++ S8 k := ext_tl (by rw [tl_append]; rfl)
      rw [e2]
      generalize "" ++ S8 k = z at *
      exact ⟨_, by simp; rfl, _, .inl (by simp [f, c, m, a1, a2]; first | rfl | exact ⟨rfl, rfl⟩ | exact ⟨rfl, rfl, rfl⟩), _, rfl⟩
    · have c : opC .ne (.str (lineS (ks.take pre.length))) (.str "") = some true := by
        rw [ne_strs (okT_line _) (okT_string ""), str_ne (by exact line_ne he)]; rfl
      have m : opB .mul (.str " ") (.int (b2 true)) = some (.str " ") := rfl
      have a1 : opB .add (.str (lineS (ks.take pre.length))) (.str " ") = some (.str (lineS (ks.take pre.length) ++ " ")) := add_str (by show _ + 1 ≤ _; omega)
      have a2 := hadd2 (lineS (ks.take pre.length) ++ " ") (by rw [tl_append, List.length_append]; show _ + 1 ≤ _; omega)
      have e2 : lineS (ks.take pre.length ++ [k]) = lineS (ks.take pre.length) ++ " " ++ S8 k := line_snoc _ _ he
      rw [e2]
      generalize lineS (ks.take pre.length) = y at *
      generalize (y ++ " ") = w at *
      generalize w ++ S8 k = z at *
      exact ⟨_, by simp; rfl, _, .inl (by simp [f, c, m, a1, a2]; first | rfl | exact ⟨rfl, rfl⟩ | exact ⟨rfl, rfl, rfl⟩), _, rfl⟩)
  rw [hl', hS] at hr
  have hfull : ks.take xs.length = ks := by rw [hxs, List.length_map, List.take_length]
  simp [hfull, hend] at hr
  exact hr.symm
end Q
end
section
set_option Elab.async false
set_option linter.all false
set_option maxRecDepth 100000
set_option maxHeartbeats 0
namespace Q
open PySem TL
theorem law_true (ns : List Int) (hn : ns.length ≤ 63) : ∃ ps, run tabL.sg tabL.tb (29 + 1) lawId [.fls (ns.map .int)] = .ok (.bl true) ps := by
  obtain ⟨r, hr⟩ : ∃ r, run tabL.sg tabL.tb (29 + 1) lawId [.fls (ns.map .int)] = r := ⟨_, rfl⟩
  rw [hr]
  rw [run_succ (fn := llaw) rfl, runB_eq] at hr
  obtain ⟨c, hc⟩ : ∃ c : Nat, max 1 (min 8 (ns.length : Int)) = (c : Int) := ⟨(max 1 (min 8 (ns.length : Int))).toNat, by omega⟩
  have hcl : c ≤ 8 := by omega
  have hrng : itemsOf .rng [.int (c : Nat)] = some ((List.range c).map fun k => natD k) := by
    rw [it_rng1, if_pos (by omega)]; rfl
  have hpot := fun k => Pot.ev_pot (sg := tabL.sg) (tb := tabL.tb) rfl 28 ns k
  simp [-it_rng1, llaw, hc, hrng] at hr
  generalize hL : loopF _ _ _ _ _ = l at hr
  obtain ⟨S', hl', s1, s2, s3, s4, s5, hS⟩ := loopF_elim (fun pre S' => ∃ s1 s2 s3 s4 s5, S' = [some (.fls (ns.map .int)), s1, s2, s3, s4, s5, none]) hL ⟨none, none, none, none, none, rfl⟩ (by
    rintro pre x post S hpx ⟨s1, s2, s3, s4, s5, rfl⟩
    obtain ⟨j, hj⟩ : ∃ j : Nat, x = natD j := by
      have : x ∈ (List.range c).map fun k => natD k := by rw [← hpx]; simp
      obtain ⟨j, _, e⟩ := List.mem_map.mp this
      exact ⟨j, e.symm⟩
    subst hj
    clear hL hpx
    obtain ⟨a, b, e1⟩ := hpot j
    obtain ⟨d3, a3, b3, hd3, e3⟩ := Pot.ev_digit tbO 28 a b 13 (by decide) (by decide)
    obtain ⟨m0, rfl⟩ : ∃ m : Nat, d3 = m := ⟨d3.toNat, by omega⟩
    obtain ⟨d4, a4, b4, hd4, e4⟩ := Pot.ev_digit tbO 28 a3 b3 2 (by decide) (by decide)
    have hm4 : opB .mod (.int (m0 : Nat)) (.int 4) = some (.int ((m0 % 4 : Nat) : Int)) := by rw [opB_mod, if_pos (by decide)]; rfl
    obtain ⟨m, hmd⟩ : ∃ m : Nat, m = if d4 = 0 then m0 % 4 else m0 := ⟨_, rfl⟩
    have hm : m ≤ 12 := by rw [hmd]; split <;> omega
    obtain ⟨bs, a5, b5, hbs, e5⟩ := Pot.ev_boxes tbO 26 a4 b4 hm
    have hbl : bs.length ≤ lim := by
      have : lim = 16777216 := rfl
      rcases hbs.few with h | ⟨_, h⟩ <;> omega
    have e6 := Pot.ev_law_shape tbO (29 - 3 - m) hm bs hbl
    rw [show 29 - 3 - m + m + 3 = 29 by omega] at e6
    have hs := Pot.treeB_shp hm bs
    have hz := Pot.few_sz hm hbs
    generalize treeB m bs 0 0 = t at *
    have hsl : (sub t).length ≤ 400000 := by have := po_len t []; simp only [List.length_nil] at this; unfold sub; omega
    have f1 := ev_shape_text tbT 10 hs hsl
    rw [show 10 + 19 = 29 from rfl] at f1
    have f2 := ev_read tbT 11 hs hsl
    rw [show 11 + 18 = 29 from rfl] at f2
    have hrt := repr_shape hs (by omega)
    have hnt := str_ne_self (okT_shape m t)
    have ok := lines_ok hs hsl
    have okr : ∀ q ∈ rowsOf (sub t), q.length ≤ 4 ∧ q ≠ [] ∧ ∀ k ∈ q, k < 1000000 := fun q hq => ok q (by simp [linesS, hq])
    have rl := rowsOf_len (sub t)
    have hl1 := ev_line 27 (ks := [m, num (sub t) t]) (ok _ (by simp [linesS])).2.2 (by simp)
    rw [show 27 + 2 = 29 from rfl] at hl1
    have hl1' : run tabL.sg tabL.tb 29 510 [.tup [natD m, natD (num (sub t) t)]] = FR.ok (.str (rowT [m, num (sub t) t])) [some (.tup [natD m, natD (num (sub t) t)])] := hl1
    have hsl2 : opSl (shapeD m t) none (some 2) = some (.tup [natD m, natD (num (sub t) t)]) := rfl
    have hix : opB .ix (shapeD m t) (.int 2) = some (.tup ((rowsOf (sub t)).map rowD)) := rfl
    have hcomp : ∀ s0 s1 s2 s3 s4 s5 (S : Sl), S = [s0, s1, s2, s3, s4, s5, none] → loopC (evE tabL.sg (run tabL.sg tabL.tb 29) (.cst (.bl true))) (evE tabL.sg (run tabL.sg tabL.tb 29) (.call 510 (.cons (.var 6) .nil))) [6] [6] ((rowsOf (sub t)).map rowD) [] S = .ok (.lst ((rowsOf (sub t)).map fun q => .str (rowT q))) S := by
      intro s0 s1 s2 s3 s4 s5 S hS
      have key := loopC_ix (c := evE tabL.sg (run tabL.sg tabL.tb 29) (.cst (.bl true))) (e := evE tabL.sg (run tabL.sg tabL.tb 29) (.call 510 (.cons (.var 6) .nil))) (ts := [6]) (own := [6]) (S := S) (fun S => by rw [evE]) ((rowsOf (sub t)).map rowD) ((rowsOf (sub t)).map fun q => .str (rowT q)) [] (by simp) (fun i x y hx hy => by
        rw [List.getElem?_map] at hx hy
        obtain ⟨q, e1, rfl⟩ := Option.map_eq_some_iff.mp hx
        rw [e1] at hy
        have hy2 : y = .str (rowT q) := (Option.some.inj hy).symm
        have hq := okr q (List.mem_of_getElem? e1)
        have hs := ev_line 27 (ks := q) hq.2.2 (by omega)
        rw [show 27 + 2 = 29 from rfl] at hs
        have hs' : run tabL.sg tabL.tb 29 510 [rowD q] = FR.ok (.str (rowT q)) [some (rowD q)] := hs
        have pq : (rowD q).pure = true := rfl
        have lq : (rowD q).lin = false := rfl
        rw [hy2]
        generalize rowD q = qd at *
        subst hS
        refine ⟨_, by simp; rfl, _, by simp [hs', pq, lq]; rfl, rfl, by simp⟩) (by have := lim_v; simp; omega)
      rw [key]; rfl
    have hcomp2 := fun s0 s1 s2 s3 s4 s5 => hcomp s0 s1 s2 s3 s4 s5 _ rfl
    clear hcomp
    have hj : opBm .join [.str "", .lst ((rowsOf (sub t)).map fun q => .str (rowT q))] = some (.str (textL (rowsOf (sub t)))) := join_op "" rowT (rowsOf (sub t)) (by
      have h2 := sum_le (fun q => (rowT q).length) 29 (rowsOf (sub t)) fun q hq => by
        have := row_len (okr q hq).2.2
        have := (okr q hq).1
        omega
      have h4 : ("" : Str).length = 0 := rfl
      have := lim_v
      rw [h4]; omega)
    have hb : bmOf .join (some (.str "")) = true := rfl
    have htl := text_len (ls := rowsOf (sub t)) fun q hq => ⟨(okr q hq).1, (okr q hq).2.2⟩
    have hhl := row_len (ks := [m, num (sub t) t]) (ok _ (by simp [linesS])).2.2
    have ha : opB .add (.str (rowT [m, num (sub t) t])) (.str (textL (rowsOf (sub t)))) = some (.str (textL (linesS m t))) := by
      show (if (rowT [m, num (sub t) t]).length + (textL (rowsOf (sub t))).length ≤ lim then some (D.str (rowT [m, num (sub t) t] ++ textL (rowsOf (sub t)))) else none) = _
      have := lim_v
      rw [if_pos (by simp at hhl; omega), ← text_cons]; rfl
    have hty : isTys [.str] (.str (textL (linesS m t))) = some true := rfl
    have okr2 : okT (textL (linesS m t)) := by
      unfold textL
      refine okT_join (okT_string "") _ fun x hx => ?_
      obtain ⟨q, _, rfl⟩ := List.mem_map.mp hx
      exact okT_append (okT_line q) (okT_string "\n")
    have hnx := str_ne_self okr2
    rw [natD_eq m] at e5 e6
    have ps : (shapeD m t).pure = true := rfl
    have ls : (shapeD m t).lin = false := rfl
    generalize textL (linesS m t) = x at *
    generalize textL (rowsOf (sub t)) = x2 at *
    generalize rowT [m, num (sub t) t] = x1 at *
    generalize D.tup [natD m, natD (num (sub t) t)] = top at *
    generalize ((rowsOf (sub t)).map fun q => D.str (rowT q)) = xs at *
    generalize (rowsOf (sub t)).map rowD = rs at *
    generalize shapeT m t = xt at *
    generalize shapeD m t = ss at *
    by_cases hd0 : d4 = 0
    · rw [if_pos hd0] at hmd
      rw [← hmd] at hm4
      exact ⟨_, by simp; rfl, _, .inl (by simp [-opB_mod, e1, e3, e4, hd0, hm4, e5, e6, hsl2, hl1', hix, hcomp2, hj, hb, ha, f1, f2, hnx, hty, hrt, hnt, ps, ls]; first | rfl | exact ⟨rfl, rfl⟩ | exact ⟨rfl, rfl, rfl⟩ | exact ⟨rfl, rfl, rfl, rfl⟩ | exact ⟨rfl, rfl, rfl, rfl, rfl⟩), _, _, _, _, _, rfl⟩
    · rw [if_neg hd0] at hmd
      subst hmd
      exact ⟨_, by simp; rfl, _, .inl (by simp [-opB_mod, e1, e3, e4, hd0, e5, e6, hsl2, hl1', hix, hcomp2, hj, hb, ha, f1, f2, hnx, hty, hrt, hnt, ps, ls]; first | rfl | exact ⟨rfl, rfl⟩ | exact ⟨rfl, rfl, rfl⟩ | exact ⟨rfl, rfl, rfl, rfl⟩ | exact ⟨rfl, rfl, rfl, rfl, rfl⟩), _, _, _, _, _, rfl⟩)
  rw [hl', hS] at hr
  simp at hr
  exact ⟨_, hr.symm⟩
end Q
end
set_option Elab.async false
set_option linter.all false
set_option maxRecDepth 100000
set_option maxHeartbeats 0
open PySem PySem.W PyProof.Rows
theorem PySem.Challenge.cw_quarterfold_k14_whole_texts_of_shapes_holds : PySem.Challenge.rw_quarterfold_k14_whole_texts_of_shapes.Holds := by
  w_on; o_law
  refine HandSHeadRun.head_any (r := Q.rowR) (q := PySem.W.view Q.rowR.prog [Q.lawIx]) (H := Q.hkL) (ob := Q.obL) (M := 6000) (loose := Q.looseL) (d := HandSHeadRun.topDef Q.rowR.prog Q.lawIx) (kwd := []) Q.obL_eq
    (by kernel_rfl) (fun s => by kernel_rfl) Q.runL (by kernel_rfl) (by kernel_rfl) (by kernel_rfl) (by rfl) (by first | assumption | decide +kernel) (by decide +kernel) ⟨rfl, rfl, rfl, rfl, rfl, by decide +kernel⟩ ?hw ?hc
  case hw => w_witness2
  case hc =>
    refine Q.walk_ofW (l := PySem.Challenge.rw_quarterfold_k14_whole_texts_of_shapes) (n := 63) (k := 2 * (29 + 1)) (x := "_law_script") (CX := fun w => L2.CX PySem.Challenge.rw_quarterfold_k14_whole_texts_of_shapes.prog w) rfl (by decide) (by kernel_rfl) ⟨rfl, by decide, by decide⟩ ?F (fun w => Q.cx_no _ w)
    intro w mg fa h Y G hmg0
    exact Q.law_F (n := 29) Q.all_n Q.all_b Q.all_s Q.all_g (x := Q.lawI) rfl rfl rfl Q.law_true Y G hmg0
