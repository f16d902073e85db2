import PyProof.Rows.All
import Wide.All
import OpenK.AllK
import Wide.FinOn
import HandS.ForMost
import KE.KStateDown
import HandS.Base
import HandS.Call
import HandS.Ends
import HandS.More
import HandS.Exc
import HandS.ExcCtx
import HandS.ExcInit
import HandS.ExcField
import HandS.Defaults
import HandS.Head0
import HandS.Head1
import HandS.Head2
import HandS.Head3
import HandS.HeadEnd
import HandS.HeadHook1
import HandS.HeadHook2
import HandS.HeadHook3
import HandS.HeadHook4
import KE.SortData
import KE.SortKeyHeap
import HandS.Style
import HandS.Deep
import HandS.HotCalls
import HandS.TupAny
import HandS.TupLen
import HandS.Small
import HandS.IsInst
import HandS.CallLocal
import HandS.Gcd
import HandS.Strs
import HandS.Codes
import HandS.ExcInitHot
import HandS.SortKw
import HandS.Iter
import HandS.Keys
import PySem.Challenge.RW_millbench_k91_names_fractions_records
section
set_option Elab.async false
set_option linter.all false
set_option maxRecDepth 100000
/-! A small evaluator of plain Python: data, syntax, meaning. -/
namespace Ev
open PySem

/-- a text: its code points -/
abbrev Txt := List Nat
/-- a key of a dict -/
abbrev K1 := Sum Int Txt

inductive D where
  | non | bl (b : Bool) | int (i : Int) | str (x : Txt) | tup (xs : List D) | frz (t : Bool) (xs : List D) | ref (n : Nat) | fn (i : Nat) | cd (i : Nat)

inductive Ob where
  | lst (xs : List D) | dK (kvs : List (K1 × D)) | dT (kvs : List (List K1 × D))
  /-- a dict that a comprehension walks: read alone -/
  | lk (o : Ob)
abbrev Sto := List Ob

inductive R (α : Type) where
  | ok (a : α) (s : Sto) | exc (c : Nat) (fs : List D) (s : Sto)
abbrev O (α : Type) := Option (R α)
def O.bind {α β : Type} (x : O α) (f : α → Sto → O β) : O β := match x with
  | none => none
  | some (.ok a s) => f a s
  | some (.exc c fs s) => some (.exc c fs s)
def ok {α : Type} (a : α) (s : Sto) : O α := some (.ok a s)

inductive BOp where
  | add | sub | mul | fdiv | mod | pow
inductive COp where
  | eq | ne | lt | le | gt | ge | isin | notin
inductive Ty where
  | str | int | bool | tuple | list
inductive Bi where
  | len | int | str | abs | tuple | list | sorted | gcd
inductive Mt where
  | append | extend | join | split | partition | index
/-- where a value is put -/
inductive Tg where
  | nm (i : Nat) | tp (is : List Nat)

mutual
inductive E where
  | bad
  | var (i : Nat)
  | cst (d : D)
  | tup (es : Es) | lst (es : Es)
  | bin (op : BOp) (a b : E)
  | neg (a : E) | not (a : E) | and (a b : E) | or (a b : E)
  | cmp (op : COp) (a b : E)
  | isN (ng : Bool) (a : E)
  | isB (ng k : Bool) (a : E)
  | chn (o1 o2 : COp) (a b c : E)
  | ife (t a b : E)
  | ix (a i : E)
  | sl (a : E) (lo hi : Eo)
  | call (f : Nat) (es : Es)
  | cvar (i : Nat) (es : Es)
  | bi (b : Bi) (es : Es)
  | inst (ty : Ty) (a : E)
  | met (m : Mt) (o : E) (es : Es)
  | comp (elt : E) (tg : Tg) (src : It) (cond : Eo) (own : List Nat)
  | srt (f : Nat) (a : E)
  | dnew
inductive Es where
  | nil | cons (e : E) (es : Es)
inductive Eo where
  | none | some (e : E)
inductive It where
  | seq (e : E) | rng (es : Es)
end

mutual
inductive S where
  | bad | pass | brk | cnt | retN
  | ret (e : E)
  | asg (t : Tg) (e : E)
  | par (i j : Nat) (a b : E)
  | put (o i e : E)
  | aug (i : Nat) (op : BOp) (e : E)
  | exp (e : E)
  | ite (c : E) (a b : Ss)
  | for (t : Tg) (src : It) (b : Ss)
  | whl (c : E) (b : Ss)
  | rse (c n : Nat) (es : Es)
  | try (b : Ss) (hs : Hs)
inductive Ss where
  | nil | cons (s : S) (ss : Ss)
inductive Hs where
  | nil | cons (c : Nat) (b : Sx) (hs : Hs)
/-- a suite of an except clause: one return -/
inductive Sx where
  | bad | ret (x : Xs)
/-- a value told in such a suite -/
inductive Xs where
  | cst (d : D) | fld (i : Nat) | tup (xs : Xl) | call (f : Nat) (xs : Xl)
inductive Xl where
  | nil | cons (x : Xs) (xs : Xl)
end

/-! ### data -/
def small (n : Nat) : Bool := Nat.ble n 1000000
mutual
/-- no reference in it -/
def D.pure : D → Bool
  | .tup xs => pureL xs
  | .frz _ xs => pureL xs
  | .ref _ => false
  | _ => true
def pureL : List D → Bool
  | [] => true
  | x :: xs => x.pure && pureL xs
end
mutual
/-- its references lie k further on -/
def D.sh (k : Nat) : D → D
  | .tup xs => .tup (shL k xs)
  | .frz t xs => .frz t (shL k xs)
  | .ref n => .ref (n + k)
  | .non => .non | .bl b => .bl b | .int i => .int i | .str x => .str x | .fn i => .fn i | .cd i => .cd i
def shL (k : Nat) : List D → List D
  | [] => []
  | x :: xs => x.sh k :: shL k xs
end
def Ob.sh (k : Nat) : Ob → Ob
  | .lst xs => .lst (shL k xs)
  | .dK kvs => .dK (kvs.map fun p => (p.1, p.2.sh k))
  | .dT kvs => .dT (kvs.map fun p => (p.1, p.2.sh k))
  | .lk o => .lk (o.sh k)
mutual
/-- a value as data; rf: what the references stand for -/
def D.toP (rf : Nat → Option PyData) : D → Option PyData
  | .non => some .none
  | .bl b => some (.bool b)
  | .int i => some (.int i)
  | .str x => some (.str ⟨x.toArray⟩)
  | .tup xs => (toPL rf xs).map .tuple
  | .frz t xs => (toPL rf xs).map fun l => if t then .tuple l else .list l
  | .ref n => rf n
  | .fn _ => none | .cd _ => none
def toPL (rf : Nat → Option PyData) : List D → Option (List PyData)
  | [] => some []
  | x :: xs => match x.toP rf, toPL rf xs with
    | some d, some ds => some (d :: ds)
    | _, _ => none
end
/-- lists within lists, so deep -/
def rfN (s : Sto) : Nat → Nat → Option PyData
  | 0, _ => none
  | n + 1, a => match s[a]? with
    | some (.lst xs) => (toPL (rfN s n) xs).map .list
    | _ => none
def toData (s : Sto) (d : D) : Option PyData := match d.toP (rfN s 4) with
  | some p => if SeqAt.shaped p then some p else none
  | none => none
/-- the i-th item, from the end below nought -/
def at? {α : Type} (xs : List α) (i : Int) : Option α := if 0 ≤ i then xs[i.toNat]? else if -(xs.length : Int) ≤ i then xs[(i + xs.length).toNat]? else none
/-- the place of the i-th item -/
def at! (n : Nat) (i : Int) : Option Nat := if 0 ≤ i then (if i < n then some i.toNat else none) else if -(n : Int) ≤ i then some (i + n).toNat else none
def bound (n d : Nat) : Option Int → Nat
  | none => d
  | some v => if v < 0 then (v + (n : Int)).toNat else min v.toNat n
def cut {α : Type} (xs : List α) (lo hi : Option Int) : List α := (xs.drop (bound xs.length 0 lo)).take (bound xs.length xs.length hi - bound xs.length 0 lo)
/-- flat values, == of them -/
def D.flat : D → Bool
  | .non => true | .bl _ => true | .int _ => true | .str _ => true | _ => false
def feq : D → D → Bool
  | .non, .non => true
  | .bl a, .bl b => a == b
  | .bl a, .int b => (if a then 1 else 0) == b
  | .int a, .bl b => a == (if b then 1 else 0)
  | .int a, .int b => a == b
  | .str a, .str b => a == b
  | _, _ => false
/-- a key -/
def key1 : D → Option K1
  | .int i => some (.inl i)
  | .str x => some (.inr x)
  | _ => none
def keyT : List D → Option (List K1)
  | [] => some []
  | x :: xs => match key1 x, keyT xs with
    | some k, some ks => some (k :: ks)
    | _, _ => none
def K1.d : K1 → D
  | .inl i => .int i
  | .inr x => .str x
def look {κ : Type} [DecidableEq κ] (kvs : List (κ × D)) (k : κ) : Option D := (kvs.find? fun p => decide (p.1 = k)).map (·.2)
def put {κ : Type} [DecidableEq κ] (kvs : List (κ × D)) (k : κ) (v : D) : List (κ × D) := if (kvs.any fun p => decide (p.1 = k)) = true then kvs.map (fun p => if p.1 = k then (p.1, v) else p) else kvs ++ [(k, v)]
/-- what a dict holds at a key: some none, it is not there -/
def dget : Ob → D → Option (Option D)
  | .dK kvs, .tup xs => if kvs.isEmpty then (keyT xs).map fun _ => none else none
  | .dK kvs, y => (key1 y).map (look kvs)
  | .dT kvs, .tup xs => (keyT xs).map (look kvs)
  | _, _ => none
/-- a dict's keys -/
def keysOf : Ob → Option (List D)
  | .dK kvs => some (kvs.map fun p => p.1.d)
  | .dT kvs => some (kvs.map fun p => .tup (p.1.map K1.d))
  | _ => none
def dput : Ob → D → D → Option Ob
  | .dK kvs, .tup xs, v => if kvs.isEmpty then (keyT xs).map fun k => .dT [(k, v)] else none
  | .dK kvs, y, v => if small kvs.length then (key1 y).map fun k => .dK (put kvs k v) else none
  | .dT kvs, .tup xs, v => if small kvs.length then (keyT xs).map fun k => .dT (put kvs k v) else none
  | _, _, _ => none

def putF : D → D → D → Sto → Option Sto
  | .ref a, y, v, s => match s[a]? with
    | some (.lst xs) => match y with
      | .int k => (at! xs.length k).map fun j => s.set a (.lst (xs.set j v))
      | _ => none
    | some ob => (dput ob y v).map fun ob' => s.set a ob'
    | none => none
  | _, _, _, _ => none

/-! ### operators -/
/-- new objects are laid at the store's end -/
def new (o : Ob) (s : Sto) : D × Sto := (.ref s.length, s ++ [o])
def big : Nat := 18446744073709551616
def binF : BOp → D → D → Sto → Option (D × Sto)
  | .add, .int i, .int j, s => some (.int (i + j), s)
  | .add, .str x, .str y, s => if small (x.length + y.length) then some (.str (x ++ y), s) else none
  | .add, .tup (x :: xs), .tup ys, s => if small (xs.length + ys.length) then some (.tup (x :: xs ++ ys), s) else none
  | .add, .ref a, .ref b, s => match s[a]?, s[b]? with
    | some (.lst xs), some (.lst ys) => if small (xs.length + ys.length) then some (new (.lst (xs ++ ys)) s) else none
    | _, _ => none
  | .sub, .int i, .int j, s => some (.int (i - j), s)
  | .mul, .int i, .int j, s => if Nat.blt i.natAbs big || Nat.blt j.natAbs big then some (.int (i * j), s) else none
  | .fdiv, .int i, .int j, s => if 0 < j ∧ j < 1073741824 then some (.int (i / j), s) else none
  | .mod, .int i, .int j, s => if 0 < j then some (.int (i % j), s) else none
  | .pow, .int i, .int j, s => if 0 ≤ j ∧ j ≤ 1000 ∧ i.natAbs < big then some (.int (i ^ j.toNat), s) else none
  | _, _, _, _ => none
/-- the keys that a dict's display is asked for: of the program's own constants -/
abbrev Cds := Nat → Option (List (Txt × D))
def inF (cds : Cds) (x : D) : D → Sto → Option Bool
  | .str y, _ => match x with
    | .str [c] => if small y.length then some (y.any fun z => decide (z = c)) else none
    | _ => none
  | .tup ys, _ => if x.flat && ys.all D.flat then some (ys.any fun y => feq y x) else none
  | .frz _ ys, _ => if x.flat && ys.all D.flat then some (ys.any fun y => feq y x) else none
  | .ref a, s => match s[a]? with
    | some (.lst ys) => if x.flat && ys.all D.flat then some (ys.any fun y => feq y x)
      else match toData s x, toData s (.ref a) with
        | some d, some (.list ds) => some (ds.any fun z => PyData.eqv z d)
        | _, _ => none
    | some o => (dget o x).map Option.isSome
    | none => none
  | .cd i, _ => match x, cds i with
    | .str k, some kvs => some (kvs.any fun p => decide (p.1 = k))
    | _, _ => none
  | _, _ => none
def cmpF (cds : Cds) : COp → D → D → Sto → Option Bool
  | .eq, x, y, s => match toData s x, toData s y with
    | some d, some e => some (PyData.eqv d e)
    | _, _ => none
  | .ne, x, y, s => match toData s x, toData s y with
    | some d, some e => some (!PyData.eqv d e)
    | _, _ => none
  | .lt, .int i, .int j, _ => some (decide (i < j))
  | .le, .int i, .int j, _ => some (decide (i ≤ j))
  | .gt, .int i, .int j, _ => some (decide (j < i))
  | .ge, .int i, .int j, _ => some (decide (j ≤ i))
  | .isin, x, y, s => inF cds x y s
  | .notin, x, y, s => (inF cds x y s).map not
  | _, _, _, _ => none
def ixF (cds : Cds) : D → D → Sto → Option D
  | .str x, .int i, _ => if small x.length then (at? x i).map fun c => .str [c] else none
  | .tup xs, .int i, _ => at? xs i
  | .frz _ xs, .int i, _ => at? xs i
  | .ref a, y, s => match s[a]?, y with
    | some (.lst xs), .int i => at? xs i
    | some (.lst _), _ => none
    | some o, y => (dget o y).join
    | none, _ => none
  | .cd i, .str k, _ => (cds i).bind fun kvs => (kvs.find? fun p => decide (p.1 = k)).map (·.2)
  | _, _, _ => none
def slF : D → Option Int → Option Int → Sto → Option (D × Sto)
  | .str x, lo, hi, s => if small x.length then some (.str (cut x lo hi), s) else none
  | .tup xs, lo, hi, s => some (.tup (cut xs lo hi), s)
  | .ref a, lo, hi, s => match s[a]? with
    | some (.lst xs) => some (new (.lst (cut xs lo hi)) s)
    | _ => none
  | .frz false xs, lo, hi, s => some (new (.lst (cut xs lo hi)) s)
  | _, _, _, _ => none
def isTy : Ty → D → Sto → Option Bool
  | _, .fn _, _ => none
  | _, .cd _, _ => none
  | .str, .str _, _ => some true
  | .int, .int _, _ => some true
  | .int, .bl _, _ => some true
  | .bool, .bl _, _ => some true
  | .tuple, .tup _, _ => some true
  | .tuple, .frz t _, _ => some t
  | .list, .frz t _, _ => some (!t)
  | .list, .ref a, s => match s[a]? with
    | some (.lst _) => some true
    | _ => none
  | _, .ref a, s => match s[a]? with
    | some (.lst _) => some false
    | _ => none
  | _, _, _ => some false

/-! ### texts -/
def decN (n : Nat) : Txt := (Nat.toDigits 10 n).map Char.toNat
def decI (i : Int) : Txt := if i < 0 then 45 :: decN i.natAbs else decN i.natAbs
def valN (x : Txt) : Nat := x.foldl (fun a c => a * 10 + (c - 48)) 0
/-- the whole number of its written form -/
def numT (x : Txt) : Option Int := match x with
  | 45 :: r => if 45 :: decN (valN r) = 45 :: r ∧ 0 < valN r ∧ r.length ≤ 600 then some (-(valN r : Int)) else none
  | r => if decN (valN r) = r ∧ r.length ≤ 600 then some (valN r : Int) else none
def splitT (c : Nat) : Txt → Txt → List Txt
  | acc, [] => [acc]
  | acc, d :: r => if d = c then acc :: splitT c [] r else splitT c (acc ++ [d]) r
def partT (c : Nat) : Txt → Txt → Txt × Txt × Txt
  | acc, [] => (acc, [], [])
  | acc, d :: r => if d = c then (acc, [c], r) else partT c (acc ++ [d]) r
def joinT (y : Txt) : List Txt → Txt
  | [] => []
  | [p] => p
  | p :: q :: r => p ++ (y ++ joinT y (q :: r))
def strsOf : List D → Option (List Txt)
  | [] => some []
  | .str x :: r => (strsOf r).map (x :: ·)
  | _ :: _ => none
def lenL : List Txt → Nat
  | [] => 0
  | x :: r => x.length + lenL r
/-- the items of a sequence -/
def itemsOf : D → Sto → Option (List D)
  | .tup xs, _ => some xs
  | .frz _ xs, _ => some xs
  | .ref a, s => match s[a]? with
    | some (.lst xs) => some xs
    | _ => none
  | _, _ => none
/-! ### sorting -/
/-- plain data as it reads -/
def encD (d : D) : PyData := (d.toP fun _ => none).getD .none
def dle (a b : D) : Bool := PySem.W.dataLe false encD a b
def insD {α : Type} (le : α → α → Bool) (x : α) : List α → List α
  | [] => [x]
  | y :: r => if le x y then x :: y :: r else y :: insD le x r
def isort {α : Type} (le : α → α → Bool) : List α → List α
  | [] => []
  | x :: r => insD le x (isort le r)
def tupB : PyData → Bool
  | .tuple (_ :: _) => true
  | _ => false
def flatB : PyData → Bool
  | .none => false
  | .tuple _ => false
  | _ => true
def sortOk (xs : List D) : Bool := (xs.all fun x => (x.toP fun _ => none).isSome && decide ((encD x).depth ≤ 64)) && (xs.all fun x => xs.all fun y => PySem.W.alike (encD x) (encD y)) && ((xs.all fun x => tupB (encD x)) || (xs.all fun x => flatB (encD x))) && small xs.length
def sortF (xs : List D) : Option (List D) := if sortOk xs then some (isort dle xs) else none

/-! ### calls -/
abbrev CF := Nat → List D → Sto → O D
/-- a def called: with plain data it has a store of its own -/
def callF (cf : CF) (f : Nat) (ds : List D) (s : Sto) : O D := match pureL ds with
  | true => match cf f ds [] with
    | some (.ok d s') => match d.pure with
      | true => ok d s
      | false => ok (d.sh s.length) (s ++ s'.map (Ob.sh s.length))
    | some (.exc c fs _) => match pureL fs with
      | true => some (.exc c fs s)
      | false => none
    | none => none
  | false => cf f ds s
def biF (b : Bi) (ds : List D) (s : Sto) : Option (D × Sto) := match b, ds with
  | .len, [.str x] => if small x.length then some (.int x.length, s) else none
  | .len, [.tup xs] => some (.int xs.length, s)
  | .len, [.frz _ xs] => some (.int xs.length, s)
  | .len, [.ref a] => match s[a]? with
    | some (.lst xs) => some (.int xs.length, s)
    | some (.dK kvs) => some (.int kvs.length, s)
    | some (.dT kvs) => some (.int kvs.length, s)
    | _ => none
  | .int, [.int i] => some (.int i, s)
  | .int, [.bl k] => some (.int (if k then 1 else 0), s)
  | .int, [.str x] => (numT x).map fun i => (.int i, s)
  | .str, [.int i] => if i.natAbs.log2 < 1920 then some (.str (decI i), s) else none
  | .abs, [.int i] => some (.int (if i < 0 then -i else i), s)
  | .tuple, [.tup xs] => some (.tup xs, s)
  | .tuple, [.ref a] => match s[a]? with
    | some (.lst xs) => some (.tup xs, s)
    | _ => none
  | .list, [.tup xs] => some (new (.lst xs) s)
  | .list, [.frz _ xs] => some (new (.lst xs) s)
  | .list, [.ref a] => match s[a]? with
    | some (.lst xs) => some (new (.lst xs) s)
    | _ => none
  | .sorted, [.ref a] => match s[a]? with
    | some (.lst xs) => (sortF xs).map fun ys => new (.lst ys) s
    | _ => none
  | .sorted, [.tup xs] => (sortF xs).map fun ys => new (.lst ys) s
  | .gcd, [.int i, .int j] => some (.int (Nat.gcd i.natAbs j.natAbs : Nat), s)
  | _, _ => none
/-- the first place of a text among texts -/
def findT (x : Txt) : List Txt → Nat → Option Nat
  | [], _ => none
  | y :: r, k => if y = x then some k else findT x r (k + 1)
/-- what a method is asked of -/
def recv : Mt → D → Sto → Bool
  | .append, .ref a, s => match s[a]? with
    | some (.lst _) => true
    | _ => false
  | .extend, .ref a, s => match s[a]? with
    | some (.lst _) => true
    | _ => false
  | .join, .str _, _ => true
  | .split, .str _, _ => true
  | .partition, .str _, _ => true
  | .index, .frz true _, _ => true
  | _, _, _ => false
def metF (m : Mt) (o : D) (ds : List D) (s : Sto) : Option (D × Sto) := match m, o, ds with
  | .append, .ref a, [y] => match s[a]? with
    | some (.lst xs) => if small xs.length then some (.non, s.set a (.lst (xs ++ [y]))) else none
    | _ => none
  | .extend, .ref a, [.ref b] => match s[a]?, s[b]? with
    | some (.lst xs), some (.lst ys) => if small (xs.length + ys.length) then some (.non, s.set a (.lst (xs ++ ys))) else none
    | _, _ => none
  | .extend, .ref a, [.tup ys] => match s[a]? with
    | some (.lst xs) => if small (xs.length + ys.length) then some (.non, s.set a (.lst (xs ++ ys))) else none
    | _ => none
  | .join, .str y, [d] => match itemsOf d s with
    | some xs => match strsOf xs with
      | some ts => if small (lenL ts + (y.length + 1) * (ts.length + 1)) then some (.str (joinT y ts), s) else none
      | none => none
    | none => none
  | .split, .str x, [.str [c]] => if small x.length && Nat.blt c 256 then some (new (.lst ((splitT c [] x).map .str)) s) else none
  | .partition, .str x, [.str [c]] => if small x.length && Nat.blt c 256 then (match partT c [] x with | (p, q, r) => some (.tup [.str p, .str q, .str r], s)) else none
  | .index, .frz true xs, [.str x] => match strsOf xs with
    | some ts => (findT x ts 0).map fun k => (.int (k : Nat), s)
    | none => none
  | _, _, _ => none

/-! ### what an expression is worth -/
abbrev Env := List (Option D)
def setAll : Env → List Nat → List D → Env
  | env, i :: is, d :: ds => setAll (env.set i (some d)) is ds
  | env, _, _ => env
def Tg.set : Tg → D → Env → Option Env
  | .nm i, d, env => some (env.set i (some d))
  | .tp is, .tup xs, env => if is.length = xs.length then some (setAll env is xs) else none
  | .tp is, .frz true xs, env => if is.length = xs.length then some (setAll env is xs) else none
  | _, _, _ => none
def wipeE (env : Env) : List Nat → Env
  | [] => env
  | v :: vs => (wipeE env vs).set v none
/-- what a loop goes over: the items ahead; a list of the store, from its i-th item; n whole numbers from lo -/
inductive Src where
  | items (xs : List D) | lst (a i : Nat) | rng (lo : Int) (n : Nat)
def srcOf : D → Sto → Option Src
  | .tup xs, _ => some (.items xs)
  | .frz _ xs, _ => some (.items xs)
  | .str x, _ => some (.items (x.map fun c => .str [c]))
  | .ref a, s => match s[a]? with
    | some (.lst _) => some (.lst a 0)
    | _ => none
  | _, _ => none
def rngOf : List D → Option Src
  | [.int n] => if -1000000 < n ∧ n < 1000000 then some (.rng 0 n.toNat) else none
  | [.int a, .int b] => if -1000000 < a ∧ a < 1000000 ∧ -1000000 < b ∧ b < 1000000 then some (.rng a (b - a).toNat) else none
  | _ => none
/-- the turns that there can be -/
def Src.fuel : Src → Sto → Nat
  | .items xs, _ => xs.length
  | .lst a _, s => match s[a]? with
    | some (.lst xs) => xs.length
    | _ => 0
  | .rng _ n, _ => n
/-- the next item; some none: there is none -/
def nxt : Src → Sto → Option (Option (D × Src))
  | .items [], _ => some none
  | .items (x :: xs), _ => some (some (x, .items xs))
  | .lst a i, s => match s[a]? with
    | some (.lst xs) => match xs[i]? with
      | some x => some (some (x, .lst a (i + 1)))
      | none => some none
    | _ => none
  | .rng _ 0, _ => some none
  | .rng lo (n + 1), _ => some (some (.int lo, .rng (lo + 1) n))
/-- the items of a comprehension: g: an item's element, none where the test fails -/
def cGo (g : D → Sto → O (Option D)) : Nat → Src → List D → Sto → O (List D)
  | m, w, acc, s => match nxt w s with
    | none => none
    | some none => ok acc s
    | some (some (x, w')) => match m with
      | 0 => none
      | m + 1 => match g x s with
        | some (.ok (some y) s') => if small acc.length then cGo g m w' (acc ++ [y]) s' else none
        | some (.ok none s') => cGo g m w' acc s'
        | _ => none
/-- a value with a new store, as an answer -/
def pr (x : Option (D × Sto)) : O D := match x with
  | some (d, s) => ok d s
  | none => none
def va (x : Option D) (s : Sto) : O D := match x with
  | some d => ok d s
  | none => none
def bo (x : Option Bool) (s : Sto) : O D := match x with
  | some b => ok (.bl b) s
  | none => none
/-- a name that holds a dict: its place, the dict, its keys -/
def dictOf : It → Env → Sto → Option (Nat × Ob × List D)
  | .seq (.var i), env, s => match env[i]? with
    | some (some (.ref a)) => match s[a]? with
      | some o => (keysOf o).map fun ks => (a, o, ks)
      | none => none
    | _ => none
  | _, _, _ => none
/-- an int, or nothing, as a slice's end -/
def endF : Eo → D → Option (Option Int)
  | .none, _ => some none
  | .some _, .int i => some (some i)
  | _, _ => none
/-- the items of a list of the store -/
def lstOf : D → Sto → Option (List D)
  | .ref a, s => match s[a]? with
    | some (.lst xs) => some xs
    | _ => none
  | _, _ => none
/-- the keys of items, by a def -/
def keysF (cf : CF) (f : Nat) : List D → Option (List D)
  | [] => some []
  | x :: xs => match pureL [x], cf f [x] [], keysF cf f xs with
    | true, some (.ok d _), some ks => if d.pure then some (d :: ks) else none
    | _, _, _ => none
section
variable (cds : Cds) (cf : CF)
mutual
def evE : E → Env → Sto → O D
  | .bad, _, _ => none
  | .var i, env, s => match env[i]? with
    | some (some d) => ok d s
    | _ => none
  | .cst d, _, s => ok d s
  | .tup es, env, s => (evEs es env s).bind fun ds s => if small ds.length then ok (.tup ds) s else none
  | .lst es, env, s => (evEs es env s).bind fun ds s => if small ds.length then pr (some (new (.lst ds) s)) else none
  | .dnew, _, s => pr (some (new (.dK []) s))
  | .bin op a b, env, s => (evE a env s).bind fun x s => (evE b env s).bind fun y s => pr (binF op x y s)
  | .neg a, env, s => (evE a env s).bind fun x s => match x with
    | .int i => ok (.int (-i)) s
    | _ => none
  | .not a, env, s => (evE a env s).bind fun x s => match x with
    | .bl b => ok (.bl (!b)) s
    | _ => none
  | .and a b, env, s => (evE a env s).bind fun x s => match x with
    | .bl true => (evE b env s).bind fun y s => match y with
      | .bl c => ok (.bl c) s
      | _ => none
    | .bl false => ok (.bl false) s
    | _ => none
  | .or a b, env, s => (evE a env s).bind fun x s => match x with
    | .bl false => (evE b env s).bind fun y s => match y with
      | .bl c => ok (.bl c) s
      | _ => none
    | .bl true => ok (.bl true) s
    | _ => none
  | .cmp op a b, env, s => (evE a env s).bind fun x s => (evE b env s).bind fun y s => bo (cmpF cds op x y s) s
  | .isN ng a, env, s => (evE a env s).bind fun x s => match x with
    | .non => ok (.bl (!ng)) s
    | _ => ok (.bl ng) s
  | .isB ng k a, env, s => (evE a env s).bind fun x s => match x with
    | .bl b => ok (.bl (if ng then !(b == k) else b == k)) s
    | _ => none
  | .chn o1 o2 a b c, env, s => (evE a env s).bind fun x s => (evE b env s).bind fun y s => match cmpF cds o1 x y s with
    | some true => (evE c env s).bind fun z s => bo (cmpF cds o2 y z s) s
    | some false => ok (.bl false) s
    | none => none
  | .ife t a b, env, s => (evE t env s).bind fun x s => match x with
    | .bl true => evE a env s
    | .bl false => evE b env s
    | _ => none
  | .ix a i, env, s => (evE a env s).bind fun x s => (evE i env s).bind fun y s => va (ixF cds x y s) s
  | .sl a lo hi, env, s => (evE a env s).bind fun x s => (evO lo env s).bind fun l s => match endF lo l with
    | some l => (evO hi env s).bind fun h s => match endF hi h with
      | some h => pr (slF x l h s)
      | none => none
    | none => none
  | .call f es, env, s => (evEs es env s).bind fun ds s => callF cf f ds s
  | .cvar i es, env, s => match env[i]? with
    | some (some (.fn f)) => (evEs es env s).bind fun ds s => callF cf f ds s
    | _ => none
  | .bi b es, env, s => (evEs es env s).bind fun ds s => pr (biF b ds s)
  | .inst ty a, env, s => (evE a env s).bind fun x s => bo (isTy ty x s) s
  | .met m o es, env, s => (evE o env s).bind fun x s => match recv m x s with
    | true => (evEs es env s).bind fun ds s => pr (metF m x ds s)
    | false => none
  | .srt f a, env, s => (evE a env s).bind fun x s => match lstOf x s with
    | some xs => match keysF cf f xs with
      | some ks => match sortOk ks with
        | true => pr (some (new (.lst ((isort (fun p q => dle p.1 q.1) (ks.zip xs)).map (·.2))) s))
        | false => none
      | none => none
    | none => none
  | .comp elt tg src cond own, env, s =>
      let g := fun x s => match tg.set x (wipeE env own) with
        | some env' => match cond, evO cond env' s with
          | .none, _ => (evE elt env' s).bind fun y s => ok (some y) s
          | .some _, some (.ok (.bl true) s) => (evE elt env' s).bind fun y s => ok (some y) s
          | .some _, some (.ok (.bl false) s) => ok none s
          | _, _ => none
        | none => none
      match dictOf src env s with
      | some (a, o, ks) => match cGo g ks.length (.items ks) [] (s.set a (.lk o)) with
        | some (.ok ys s') => match s'[a]? with
          | some (.lk o') => pr (some (new (.lst ys) (s'.set a o')))
          | _ => none
        | _ => none
      | none => (evI src env s).bind fun src s => (cGo g (src.fuel s) src [] s).bind fun ys s => pr (some (new (.lst ys) s))
def evEs : Es → Env → Sto → O (List D)
  | .nil, _, s => ok [] s
  | .cons e es, env, s => (evE e env s).bind fun d s => (evEs es env s).bind fun ds s => ok (d :: ds) s
def evO : Eo → Env → Sto → O D
  | .none, _, s => ok .non s
  | .some e, env, s => evE e env s
def evI : It → Env → Sto → O Src
  | .seq e, env, s => (evE e env s).bind fun d s => match srcOf d s with
    | some x => ok x s
    | none => none
  | .rng es, env, s => (evEs es env s).bind fun ds s => match rngOf ds with
    | some x => ok x s
    | none => none
end
end

/-! ### statements -/
inductive Fl where
  | nx (env : Env) | bk (env : Env) | ct (env : Env) | rt (d : D)
def lGo (g : D → Env → Sto → O Fl) : Nat → Src → Env → Sto → O Fl
  | m, w, env, s => match nxt w s with
    | none => none
    | some none => ok (.nx env) s
    | some (some (x, w')) => match m with
      | 0 => none
      | m + 1 => (g x env s).bind fun f s => match f with
        | .nx e => lGo g m w' e s
        | .ct e => lGo g m w' e s
        | .bk e => ok (.nx e) s
        | .rt d => ok (.rt d) s
def lWhl (c : Env → Sto → O D) (g : Env → Sto → O Fl) : Nat → Env → Sto → O Fl
  | 0, _, _ => none
  | n + 1, env, s => (c env s).bind fun x s => match x with
    | .bl true => (g env s).bind fun f s => match f with
      | .nx e => lWhl c g n e s
      | .ct e => lWhl c g n e s
      | .bk e => ok (.nx e) s
      | .rt d => ok (.rt d) s
    | .bl false => ok (.nx env) s
    | _ => none
section
variable (cds : Cds) (cf : CF)
variable (hot : CF)
mutual
def evX : Xs → List D → Sto → O D
  | .cst d, _, s => ok d s
  | .fld i, fs, s => match fs[i]? with
    | some d => ok d s
    | none => none
  | .tup xs, fs, s => (evXl xs fs s).bind fun ds s => if small ds.length then ok (.tup ds) s else none
  | .call f xs, fs, s => (evXl xs fs s).bind fun ds s => hot f ds s
def evXl : Xl → List D → Sto → O (List D)
  | .nil, _, s => ok [] s
  | .cons x xs, fs, s => (evX x fs s).bind fun d s => (evXl xs fs s).bind fun ds s => ok (d :: ds) s
end
mutual
/-- no field is read -/
def Xs.plain : Xs → Bool
  | .cst _ => true
  | .fld _ => false
  | .tup xs => xs.plain
  | .call _ xs => xs.plain
def Xl.plain : Xl → Bool
  | .nil => true
  | .cons x xs => x.plain && xs.plain
end
/-- is the class c one of k, or below it -/
abbrev Sub := Nat → Nat → Option Bool
variable (sub : Sub)
def evH : Hs → Nat → List D → Sto → O Fl
  | .nil, c, fs, s => some (.exc c fs s)
  | .cons k b hs, c, fs, s => match sub c k with
    | some true => match b with
      | .ret x => if (c == k || x.plain) = true then (match evX hot x fs s with
        | some (.ok d s) => ok (.rt d) s
        | _ => none) else none
      | .bad => none
    | some false => evH hs c fs s
    | none => none
mutual
def evS : S → Env → Sto → O Fl
  | .bad, _, _ => none
  | .pass, env, s => ok (.nx env) s
  | .brk, env, s => ok (.bk env) s
  | .cnt, env, s => ok (.ct env) s
  | .retN, _, s => ok (.rt .non) s
  | .ret e, env, s => (evE cds cf e env s).bind fun d s => ok (.rt d) s
  | .asg t e, env, s => (evE cds cf e env s).bind fun d s => match t.set d env with
    | some env => ok (.nx env) s
    | none => none
  | .par i j a b, env, s => (evE cds cf a env s).bind fun x s => (evE cds cf b env s).bind fun y s => ok (.nx ((env.set i (some x)).set j (some y))) s
  | .put o i e, env, s => (evE cds cf e env s).bind fun v s => (evE cds cf o env s).bind fun d s => (evE cds cf i env s).bind fun y s => match putF d y v s with
    | some s' => ok (.nx env) s'
    | none => none
  | .aug i op e, env, s => match env[i]? with
    | some (some x) => (evE cds cf e env s).bind fun y s => match op, x, y with
      | .add, .int _, .int _ => (pr (binF op x y s)).bind fun z s => ok (.nx (env.set i (some z))) s
      | .sub, .int _, .int _ => (pr (binF op x y s)).bind fun z s => ok (.nx (env.set i (some z))) s
      | _, _, _ => none
    | _ => none
  | .exp e, env, s => (evE cds cf e env s).bind fun _ s => ok (.nx env) s
  | .ite c a b, env, s => (evE cds cf c env s).bind fun x s => match x with
    | .bl true => evSs a env s
    | .bl false => evSs b env s
    | _ => none
  | .for t src b, env, s => (evI cds cf src env s).bind fun src s => lGo (fun x env s => match t.set x env with
      | some env => evSs b env s
      | none => none) (src.fuel s) src env s
  | .whl c b, env, s => lWhl (fun env s => evE cds cf c env s) (fun env s => evSs b env s) 100000 env s
  | .rse c n es, env, s => (evEs cds cf es env s).bind fun ds s => if ds.length = n then some (.exc c ds s) else none
  | .try b hs, env, s => match evSs b env s with
    | some (.exc c fs s) => evH hot sub hs c fs s
    | r => r
def evSs : Ss → Env → Sto → O Fl
  | .nil, env, s => ok (.nx env) s
  | .cons st ss, env, s => (evS st env s).bind fun f s => match f with
    | .nx e => evSs ss e s
    | f => ok f s
end
end
/-- a def: its parameters, its names, its body -/
structure Fn where
  np : Nat
  nl : Nat
  body : Ss
def run (cds : Cds) (hot : CF) (sub : Sub) (tb : Nat → Option Fn) : Nat → CF
  | 0 => fun _ _ _ => none
  | k + 1 => fun f ds s => match tb f with
    | some t => match decide (ds.length = t.np) with
      | true => match evSs cds (run cds hot sub tb k) hot sub t.body (ds.map some ++ List.replicate (t.nl - t.np) none) s with
        | some (.ok (.nx _) s') => ok .non s'
        | some (.ok (.rt d) s') => ok d s'
        | some (.ok _ _) => none
        | some (.exc c fs s') => some (.exc c fs s')
        | none => none
      | false => none
    | none => none
end Ev
end
section
set_option Elab.async false
set_option linter.all false
set_option maxRecDepth 100000
set_option autoImplicit false
/-! What is looked at behind the top, and the run of the top: what the head needs alone. -/
namespace Ev
open PySem PySem.Spec PyProof.Rows L2
def mkS (x : Txt) : Str := ⟨x.toArray⟩
def bltFree : List Str := ["len", "isinstance", "int", "str", "bool", "tuple", "list", "abs", "sorted", "range"]
mutual
def repB (K : PySem.W.Frag) (nf : Nat) (fnA cdA : Nat → Addr) : D → Value → Bool
  | .non, .none => true
  | .bl b, .bool c => decide (b = c)
  | .int i, .int j _ => decide (i = j)
  | .str x, .str y _ => decide (mkS x = y)
  | .frz true xs, .ref a => (match K.lookup a with
    | some ⟨.type c, none, .seq its _, _⟩ => decide (c = "tuple") && (Nat.ble its.size sizeLine && repBL K nf fnA cdA xs its.toList)
    | _ => false)
  | .fn i, .ref a => Nat.blt i nf && decide (a = fnA i)
  | .cd i, .ref a => decide (a = cdA i)
  | _, _ => false
def repBL (K : PySem.W.Frag) (nf : Nat) (fnA cdA : Nat → Addr) : List D → List Value → Bool
  | [], [] => true
  | x :: xs, u :: us => repB K nf fnA cdA x u && repBL K nf fnA cdA xs us
  | _, _ => false
end
/-- the module's name x stands for u -/
def gloB (K : PySem.W.Frag) (x : Str) (f : Value → Bool) : Bool := match PySem.W.nsIn K mainGlobals x with
  | some (some u) => f u
  | _ => false
def refB (a : Addr) : Value → Bool
  | .ref b => decide (b = a)
  | _ => false
structure Da where
  a : Addr
  name : Str
  qual : Str
  params : Arguments
  body : List Stmt
  scope : Scope
def fnWA (K : PySem.W.Frag) (a : Addr) : He.FnW := match K.lookup a with
  | some ⟨_, _, .func fd, _⟩ => some (fd.name, fd.qualname, fd.params, fd.body, fd.scope, fd.globals, fd.closure, fd.builtins)
  | _ => none
def Da.val (d : Da) : He.FnW := some (d.name, d.qual, d.params, .stmts d.body, d.scope, mainGlobals, [], builtinsNs)
def Da.ok (K : PySem.W.Frag) (d : Da) : Bool := match K.lookup d.a with
  | some ⟨_, _, .func fd, _⟩ => PySem.W.codeIn K fd.code d.qual && (He.dflB K fd.defaults [] && He.kwdB K fd.kwdefaults [])
  | _ => false
/-- a dict's values -/
def cdB (K : PySem.W.Frag) (nf : Nat) (fnA cdA : Nat → Addr) (a : Addr) (kvs : List (Txt × D)) : Bool := kvs.all fun p => match PySem.W.nsIn K a (mkS p.1) with
  | some (some u) => repB K nf fnA cdA p.2 u
  | _ => false
def oexB (K : PySem.W.Frag) (C : Addr) : Bool := (match K.lookup C with
  | some ⟨.type "type", _, .cls cd, sl⟩ => (match cd.mro, sl.toList with
    | .ref C' :: bm, [_, _, _, _, some (.builtin n), _] => C' == C && n == "ValueError.__new__" && !cd.hasDel && cd.hasDict && PySem.HandSPX.refsVE bm
    | _, _ => false)
  | _ => false) && (He.eqO (PySem.W.findIn K (.ref C) "__setattr__") (some (some (.builtin "object.__setattr__"))) && (decide (PySem.W.subIn K (.ref C) (.type "BaseException") = some true) && (decide (PySem.W.typeIn K (.ref C) = some (.type "type")) && PySem.W.keepIn K (.ref C))))
/-- a law's table: defs, constants, classes of exceptions (their fields, addresses, own __init__), dicts -/
structure Tb where
  fns : List Str
  cons : List (Str × D)
  exs : List Str
  hots : List Nat
  ef : List (List Str)
  cdl : List (List (Txt × D))
  cda : List Addr
  exa : List Addr
  sub : Sub
  subs : List (Nat × Nat × Bool)
  slots : List (Nat × List Str)
  defs : List Da
  ini : List Da
def Tb.fnA (t : Tb) (i : Nat) : Addr := match t.defs[i]? with
  | some d => d.a
  | none => 0
def Tb.cdA (t : Tb) (i : Nat) : Addr := t.cda.getD i 0
def Tb.exA (t : Tb) (i : Nat) : Addr := t.exa.getD i 0
def Tb.np (t : Tb) (i : Nat) : Nat := match t.slots[i]? with
  | some s => s.1
  | none => 0
def Tb.cds (t : Tb) : Cds := fun i => t.cdl[i]?
/-- what is seen in the written part: the module's names -/
def Tb.okN (t : Tb) (K : PySem.W.Frag) : Bool :=
  (t.cons.all fun p => gloB K p.1 (repB K t.fns.length t.fnA t.cdA p.2)) && ((t.fns.zipIdx.all fun p => gloB K p.1 (refB (t.fnA p.2))) && ((bltFree.all fun x => He.eqO (PySem.W.nsIn K mainGlobals x) (some none)) && (gloB K "gcd" (fun u => decide (u = .builtin "math.gcd")) &&
  (t.exs.zipIdx.all fun p => gloB K p.1 (refB (t.exA p.2))))))
/-- the defs, the dicts -/
def Tb.okD (t : Tb) (K : PySem.W.Frag) : Bool := (t.cdl.zipIdx.all fun p => cdB K t.fns.length t.fnA t.cdA (t.cdA p.2) p.1) && (t.defs.all fun d => d.ok K)
/-- the classes of exceptions -/
def Tb.okE (t : Tb) (K : PySem.W.Frag) : Bool :=
  (t.ini.zipIdx.all fun p => (t.ef.getD p.2 []).isEmpty || (p.1.ok K && (oexB K (t.exA p.2) && (xfB K (t.exA p.2) && (He.eqO (PySem.W.findIn K (.ref (t.exA p.2)) "__init__") (some (some (.ref p.1.a))) && (decide (PySem.W.typeIn K (.ref p.1.a) = some (.type "function")) && (t.ef.getD p.2 []).all fun f => He.eqO (PySem.W.findIn K (.ref (t.exA p.2)) f) (some none))))))) &&
  t.subs.all fun q => decide (PySem.W.exmOne K (.ref (t.exA q.1)) (.ref (t.exA q.2.1)) = some q.2.2)
def Tb.okK (t : Tb) (K : PySem.W.Frag) : Bool := t.okN K && (t.okD K && t.okE K)
/-- what is seen besides: the defs' texts, the dicts' keys -/
def Tb.obs (t : Tb) (K : PySem.W.Frag) : (List He.FnW × List He.FnW) × List (Option (List (Option (Str × Int)))) := ((t.defs.map fun d => fnWA K d.a, t.ini.zipIdx.map fun p => if (t.ef.getD p.2 []).isEmpty then none else fnWA K p.1.a), t.cdl.zipIdx.map fun p => He.dicW K (t.cdA p.2))
def Tb.val (t : Tb) (w : World) : (List He.FnW × List He.FnW) × List (Option (List (Option (Str × Int)))) := ((t.defs.map Da.val, t.ini.zipIdx.map fun p => if (t.ef.getD p.2 []).isEmpty then none else p.1.val), t.cdl.map fun kvs => some (He.keysIn w.params (kvs.map fun p => mkS p.1)))
abbrev Al := ((List He.FnW × List He.FnW) × List (Option (List (Option (Str × Int))))) × Bool
def obsB (t : Tb) (as : List Addr) (g : Addr → Option Obj) : Al := (t.obs (He.frG g as), t.okK (He.frG g as))
def hookB (t : Tb) (as : List Addr) : PySem.W.Hook where
  α := Al
  obs := fun s => obsB t as s.heap.get?
  val := fun w => (t.val w, true)
  says := fun w h => ∃ K : PySem.W.Frag, K.In h ∧ t.obs K = t.val w ∧ t.okK K = true
  of := fun w s e => ⟨_, He.frG_in, congrArg (fun z => z.1) e, congrArg (fun z => z.2) e⟩
  keeps := fun _ _ _ ⟨K, hK, c⟩ k => ⟨K, PySem.W.Frag.In.keeps hK k, c⟩
theorem obsB_eq {t : Tb} {as : List Addr} {g : Addr → Option Obj} {s : Shared} (h : ∀ a, g a = s.heap.get? a) : obsB t as g = (hookB t as).obs s := by
  have e : g = s.heap.get? := funext h
  rw [e] <;> rfl
open HandSHeadRun PySem.W in
/-- the run behind the top, of a program with imports -/
noncomputable def whole (r : PySem.W.OpenRow) (M : Nat) (w : World) := wholeF (fun p => stepQ (denQ tabQ) p w) fenceQ M r.prog
open HandSHeadRun PySem.W in
/-- the run's equation, from its parts -/
theorem run_parts {r : PySem.W.OpenRow} {q : Program} {t : Tb} {as : List Addr} {M : Nat} {loose : List Str} {w : World}
    (hA : (whole r M w).map (fun x => looksF r.prog x.1.heap x.2.abs) = some true)
    (hB : (whole r M w).map (fun x => (seenQ q loose (importedModules r.prog.main.body) (fun s => xlAt q [] s && recOk r.toRowW.records s) x.2.abs, t.okE (He.frG (getT x.2) as))) = some (openGood q loose, true))
    (hC : (whole r M w).map (fun x => t.okN (He.frG (getT x.2) as)) = some true)
    (hD : (whole r M w).map (fun x => (t.obs (He.frG (getT x.2) as), t.okD (He.frG (getT x.2) as))) = some (t.val w, true)) :
    RunEqI r q (hookB t as) (fun s => obsB t as (getT s)) M loose w := by
  show (whole r M w).map _ = _
  cases hw : whole r M w with
  | none => rw [hw] at hC; cases hC
  | some x =>
    rw [hw] at hA hB hC hD
    simp only [Option.map_some, Option.some.injEq, Prod.mk.injEq] at hA hB hC hD
    obtain ⟨h2, h5⟩ := hB
    obtain ⟨e1, e2⟩ := hD
    show some (looksF r.prog x.1.heap x.2.abs, seenQ q loose (importedModules r.prog.main.body) (fun s => xlAt q [] s && recOk r.toRowW.records s) x.2.abs, t.obs (He.frG (getT x.2) as), t.okN (He.frG (getT x.2) as) && (t.okD (He.frG (getT x.2) as) && t.okE (He.frG (getT x.2) as))) = _
    rw [hA, h2, hC, h5, e1, e2]
    rfl
end Ev
end
section
set_option Elab.async false
set_option linter.all false
set_option maxRecDepth 100000
set_option autoImplicit false
namespace K91
open PySem Ev
abbrev P : Program := PySem.Challenge.pw_millbench_k91_names_fractions_records
def nmsOf : List Stmt → List Str
  | [] => []
  | .FunctionDef n .. :: r => n :: nmsOf r
  | _ :: r => nmsOf r
def fns : List Str := nmsOf P.main.body

def slots0 : List (Nat × List Str) := [(1, ["value", "sign"]),
  (1, ["value"]),
  (1, ["value", "parts", "part"]),
  (1, ["place", "parts"]),
  (2, ["seat", "place"]),
  (1, ["names", "seen", "name"]),
  (1, ["value"]),
  (1, ["value"]),
  (1, ["value"]),
  (2, ["p", "q", "shared"]),
  (2, ["a", "b"]),
  (2, ["a", "b"]),
  (2, ["a", "b", "left", "right"]),
  (1, ["number"]),
  (1, ["value", "top"]),
  (1, ["text", "sign"]),
  (1, ["text"]),
  (1, ["text"]),
  (1, ["text", "value", "top", "slash", "bottom"]),
  (3, ["value", "least", "most"])]
def slots1 : List (Nat × List Str) := [(1, ["value"]),
  (1, ["value"]),
  (1, ["value"]),
  (2, ["value", "size"]),
  (3, ["value", "least", "most"]),
  (3, ["value", "least", "most", "name"]),
  (1, ["value", "kind", "name", "lot"]),
  (2, ["value", "points"]),
  (2, ["value", "points", "name", "a", "b", "lo", "hi"]),
  (3, ["value", "most", "points", "span"]),
  (1, ["body"]),
  (1, ["value"]),
  (1, ["body", "use"]),
  (2, ["tool", "wear"]),
  (1, ["value", "step", "skill", "machines", "tool", "wear", "setup", "run"]),
  (1, ["body", "job"]),
  (2, ["value", "earliest"]),
  (1, ["body", "earliest", "window"]),
  (1, ["body"]),
  (1, ["body"])]
def slots2 : List (Nat × List Str) := [(2, ["value", "least"]),
  (1, ["body", "least", "one"]),
  (1, ["value"]),
  (1, ["body", "swap"]),
  (2, ["key", "body", "is_body"]),
  (1, ["value"]),
  (1, ["key"]),
  (1, ["shop", "key"]),
  (3, ["shop", "kind", "name", "lots", "lot", "key"]),
  (2, ["line", "fits"]),
  (2, ["line", "word"]),
  (2, ["line", "words", "word"]),
  (2, ["line", "word"]),
  (2, ["line", "word"]),
  (2, ["line", "word"]),
  (2, ["line", "words", "middle", "up", "down"]),
  (2, ["lo", "hi"]),
  (3, ["line", "words", "at", "names"]),
  (1, ["names"]),
  (2, ["line", "words"])]
def slots3 : List (Nat × List Str) := [(2, ["line", "words", "lo", "hi"]),
  (2, ["line", "words"]),
  (1, ["items", "points", "dims", "needs", "word", "found"]),
  (2, ["word", "span", "name", "a", "b", "lo", "hi"]),
  (1, ["body", "lines", "span", "points", "dims", "needs"]),
  (1, ["rows", "k", "row", "at"]),
  (1, ["row", "before", "word"]),
  (1, ["text", "rows", "result", "k", "words"]),
  (2, ["line", "words", "parts", "after"]),
  (3, ["line", "words", "at"]),
  (2, ["line", "words", "rest", "step", "skill", "machines", "after", "tool", "wear"]),
  (2, ["line", "words"]),
  (2, ["line", "words"]),
  (2, ["line", "words"]),
  (2, ["line", "words"]),
  (1, ["use", "seat", "count", "parts"]),
  (1, ["job", "words", "step", "skill", "machines", "tool", "wear", "setup", "run"]),
  (1, ["window"]),
  (1, ["one"]),
  (1, ["swap"])]
def slots4 : List (Nat × List Str) := [(2, ["kind", "body", "use", "job", "window", "one", "swap"]),
  (3, ["line", "word", "kind", "misplaced"]),
  (2, ["line", "words"]),
  (2, ["line", "words"]),
  (2, ["line", "words"]),
  (2, ["line", "words"]),
  (2, ["line", "words", "rate", "skills", "k"]),
  (2, ["line", "words"]),
  (2, ["line", "words", "key"]),
  (3, ["kind", "line", "words"]),
  (3, ["kind", "head", "items", "rows", "_", "found"]),
  (4, ["shop", "line", "key", "body"]),
  (1, ["text", "shop", "first", "key", "head", "items", "line", "words", "kind"]),
  (1, ["text", "shop", "key", "one"]),
  (2, ["key", "body", "words", "kind", "name", "lot"]),
  (2, ["kind", "body"]),
  (2, ["key", "body", "lines", "line"]),
  (2, ["script", "many", "found", "seed", "cell", "k", "left"]),
  (2, ["actual", "due", "k"]),
  (2, ["numbers", "base", "signs", "size", "word", "k", "sign"])]
def slots5 : List (Nat × List Str) := [(1, ["word", "sign"]),
  (1, ["word", "parts", "sign"]),
  (1, ["word", "parts", "part"]),
  (2, ["word", "asked", "e"]),
  (1, ["words", "word", "thing", "twice", "k", "due", "parts"]),
  (2, ["a", "b", "k"]),
  (3, ["p", "q", "number", "shared", "value", "text", "near", "wrong"]),
  (0, ["span", "rows"]),
  (0, ["span", "rows"]),
  (1, ["numbers", "kinds", "shop", "rows", "records", "k", "keys", "kind", "rank", "name", "lot", "row", "due", "key"]),
  (1, ["text", "e"]),
  (1, ["a", "due", "wrong", "one"]),
  (1, ["script", "numbers", "words", "p", "records", "spoilt", "row", "key", "body", "first", "second"])]
def slots : List (Nat × List Str) := slots0 ++ slots1 ++ slots2 ++ slots3 ++ slots4 ++ slots5
def exs : List Str := ["MillError", "BadName", "BadNumber", "BadFraction", "ZeroDenominator", "TooLarge", "BadSign", "UnknownWord", "Misplaced", "BadLine", "BadRecord", "DuplicateRecord", "Unclosed"]
def ef : List (List Str) := [[], ["name"], ["text"], ["text"], ["number"], ["what", "limit"], ["line", "column"], ["line", "word"], ["line"], ["line"], ["line"], ["line"], ["line"]]
def par : List (Option Nat) := [none, some 0, some 0, some 0, some 0, some 0, some 0, some 0, some 0, some 0, some 0, some 0, some 0]
def cons : List (Str × D) := [("LETTERS", .str [97, 98, 99, 100, 101, 102, 103, 104, 105, 106, 107, 108, 109, 110, 111, 112, 113, 114, 115, 116, 117, 118, 119, 120, 121, 122]),
  ("NAME_SIGNS", .str [97, 98, 99, 100, 101, 102, 103, 104, 105, 106, 107, 108, 109, 110, 111, 112, 113, 114, 115, 116, 117, 118, 119, 120, 121, 122, 48, 49, 50, 51, 52, 53, 54, 55, 56, 57]),
  ("LONGEST_NAME", .int 12),
  ("MOST_PARTS", .int 4),
  ("DIGITS", .str [48, 49, 50, 51, 52, 53, 54, 55, 56, 57]),
  ("MOST_DIGITS", .int 600),
  ("BEYOND", .int (1000000000000000000000000000000000000000000000000000000000000000000000000000000000000000000000000000000000000000000000000000000000000000000000000000000000000000000000000000000000000000000000000000000000000000000000000000000000000000000000000000000000000000000000000000000000000000000000000000000000000000000000000000000000000000000000000000000000000000000000000000000000000000000000000000000000000000000000000000000000000000000000000000000000000000000000000000000000000000000000000000000000000000000000000000000000000000000000000000000000000000000000000000000000000000000000000000000000000000000000000)),
  ("KINDS", .frz true [.str [100, 114, 97, 119, 105, 110, 103], .str [98, 105, 108, 108], .str [114, 111, 117, 116, 105, 110, 103], .str [109, 97, 99, 104, 105, 110, 101], .str [116, 111, 111, 108], .str [112, 101, 114, 115, 111, 110], .str [103, 97, 117, 103, 101], .str [112, 114, 105, 99, 101], .str [99, 104, 97, 110, 103, 101]]),
  ("VERSIONED", .frz true [.str [100, 114, 97, 119, 105, 110, 103], .str [98, 105, 108, 108], .str [114, 111, 117, 116, 105, 110, 103]]),
  ("LAST_LOT", .int 9999),
  ("LAST_TICK", .int 100000),
  ("MOST_BOOKED", .int 1000000),
  ("MOST_NUMERATOR", .int 1000000),
  ("MOST_DENOMINATOR", .int 1000),
  ("BODIES", .cd 0),
  ("ALLOWED", .str [32, 33, 34, 35, 36, 38, 39, 40, 41, 42, 43, 44, 45, 46, 47, 48, 49, 50, 51, 52, 53, 54, 55, 56, 57, 58, 59, 60, 61, 62, 63, 64, 65, 66, 67, 68, 69, 70, 71, 72, 73, 74, 75, 76, 77, 78, 79, 80, 81, 82, 83, 84, 85, 86, 87, 88, 89, 90, 91, 92, 93, 94, 95, 96, 97, 98, 99, 100, 101, 102, 103, 104, 105, 106, 107, 108, 109, 110, 111, 112, 113, 114, 115, 116, 117, 118, 119, 120, 121, 122, 123, 124, 125, 126]),
  ("MOST_LINES", .int 5000),
  ("MOST_RECORDS", .int 120),
  ("INNER_WORDS", .frz true [.str [112, 111, 105, 110, 116], .str [100, 105, 109], .str [110, 101, 101, 100], .str [117, 115, 101], .str [115, 116, 101, 112], .str [119, 105, 110, 100, 111, 119], .str [98, 114, 101, 97, 107], .str [115, 119, 97, 112]]),
  ("BLOCKS", .cd 1)]
def cdl : List (List (Txt × D)) := [[([100, 114, 97, 119, 105, 110, 103], .fn 30), ([98, 105, 108, 108], .fn 32), ([114, 111, 117, 116, 105, 110, 103], .fn 35), ([109, 97, 99, 104, 105, 110, 101], .fn 37), ([116, 111, 111, 108], .fn 38), ([112, 101, 114, 115, 111, 110], .fn 39), ([103, 97, 117, 103, 101], .fn 22), ([112, 114, 105, 99, 101], .fn 41), ([99, 104, 97, 110, 103, 101], .fn 43)],
  [([100, 114, 97, 119, 105, 110, 103], .frz true [.str [112, 111, 105, 110, 116], .str [100, 105, 109], .str [110, 101, 101, 100]]), ([98, 105, 108, 108], .frz true [.str [117, 115, 101]]), ([114, 111, 117, 116, 105, 110, 103], .frz true [.str [115, 116, 101, 112]]), ([109, 97, 99, 104, 105, 110, 101], .frz true [.str [119, 105, 110, 100, 111, 119]]), ([112, 114, 105, 99, 101], .frz true [.str [98, 114, 101, 97, 107]]), ([99, 104, 97, 110, 103, 101], .frz true [.str [115, 119, 97, 112]])]]
def cds : Cds := fun i => cdl[i]?
def subF : Nat → Nat → Nat → Bool
  | 0, _, _ => false
  | n + 1, c, k => if c = k then true else match par[c]? with
    | some (some p) => subF n p k
    | _ => false
def sub : Sub := fun c k => if c < exs.length ∧ k < exs.length then some (subF 9 c k) else none
def hots : List Nat := [98]
end K91
namespace K91
open PySem PySem.Spec PyProof.Rows L2 Ev
def fas0 : List Addr := [290, 297, 304, 311, 318, 325, 332, 339, 346, 353, 360, 367, 374, 381, 388, 395, 402, 409, 416, 425, 432, 439, 446, 453, 460, 467, 474, 481, 488, 493, 500, 507, 512, 519, 526, 531, 538, 545, 552, 559, 566, 573, 580, 585, 593, 600, 607, 612, 617, 624, 631, 636, 643, 650, 657, 664, 671, 678, 685, 692]
def fas1 : List Addr := [699, 706, 713, 720, 727, 734, 739, 746, 753, 760, 767, 774, 781, 788, 795, 802, 809, 816, 823, 830, 835, 850, 857, 864, 871, 878, 883, 890, 897, 904, 909, 916, 923, 928, 935, 942, 947, 954, 961, 968, 975, 982, 987, 994, 1001, 1008, 1015, 1022, 1029, 1034, 1041, 1048, 1055]
def fas : List Addr := fas0 ++ fas1
def exa : List Addr := [52, 72, 91, 110, 129, 148, 167, 186, 205, 224, 243, 262, 281]
def ias : List Addr := [0, 69, 88, 107, 126, 145, 164, 183, 202, 221, 240, 259, 278]
def cda : List Addr := [586, 837]
def dasOf : List Addr → List Stmt → List Da
  | a :: as, .FunctionDef n ar b _ _ _ sc _ _ _ :: r => ⟨a, n, n, ar, b, sc⟩ :: dasOf as r
  | as, _ :: r => dasOf as r
  | _, [] => []
def noDa : Da := ⟨0, "", "", ⟨[], [], none, [], [], none, []⟩, [], ⟨.function, [], false, false, []⟩⟩
def iniIn (c : Str) (a : Addr) : List Stmt → Da
  | .FunctionDef n ar b _ _ _ sc _ _ _ :: r => if n = "__init__" then ⟨a, n, c ++ ("." : Str) ++ n, ar, b, sc⟩ else iniIn c a r
  | _ :: r => iniIn c a r
  | [] => noDa
def inisOf : List Addr → List Stmt → List Da
  | a :: as, .ClassDef c _ _ b _ _ _ _ _ _ _ :: r => iniIn c a b :: inisOf as r
  | as, _ :: r => inisOf as r
  | _, [] => []
def subs : List (Nat × Nat × Bool) := (List.range exs.length).flatMap fun c => (List.range exs.length).map fun j => (c, j, subF 9 c j)
def tab : Tb := ⟨fns, cons, exs, hots, ef, cdl, cda, exa, sub, subs, slots, dasOf fas P.main.body, inisOf ias P.main.body⟩
def loose0 : List PySem.Str := ["MillError", "BadName", "BadNumber", "BadFraction", "ZeroDenominator", "TooLarge", "BadSign", "UnknownWord", "Misplaced", "BadLine", "BadRecord", "DuplicateRecord", "Unclosed", "LETTERS", "NAME_SIGNS", "LONGEST_NAME", "MOST_PARTS", "is_name", "check_name", "is_place", "place_parts", "join_place", "first_duplicate", "DIGITS", "MOST_DIGITS", "BEYOND", "is_whole", "is_fraction", "is_range"]
def loose1 : List PySem.Str := ["fraction", "plus", "minus", "compare", "write_whole", "write_fraction", "are_digits", "is_written_whole", "read_whole", "read_fraction", "KINDS", "VERSIONED", "LAST_LOT", "LAST_TICK", "MOST_BOOKED", "MOST_NUMERATOR", "MOST_DENOMINATOR", "is_between", "is_measure", "is_rate", "is_measured_range", "is_row", "are_rows", "are_names", "is_key", "is_end", "is_span", "are_spans", "is_drawing", "is_use"]
def loose2 : List PySem.Str := ["is_bill", "is_wear", "is_job", "is_routing", "is_window", "is_machine", "is_tool", "is_person", "is_break", "is_price", "is_swap", "is_change", "BODIES", "is_record", "is_order", "key_rank", "sorted_keys", "records_named", "need_form", "name_word", "name_words", "place_word", "whole_word", "fraction_word", "range_words", "written_range", "choice_words", "written_choice", "read_points", "read_span"]
def loose3 : List PySem.Str := ["read_drawing_line", "drawing_body", "write_span", "drawing_lines", "ALLOWED", "MOST_LINES", "check_signs", "words_of", "split_lines", "read_use", "read_tool_words", "read_step", "read_window", "read_break", "read_swap", "read_work_line", "write_use", "write_step", "write_window", "write_break", "write_swap", "work_lines", "MOST_RECORDS", "INNER_WORDS", "BLOCKS", "check_word", "read_versioned", "read_rated", "read_lead", "read_tool"]
def loose4 : List PySem.Str := ["read_person", "read_head", "read_first", "read_inner", "closed_body", "put_record", "read_shop", "read_record", "first_line", "inner_lines", "write_record", "_law_stream", "_law_same", "_law_word", "_law_is_name", "_law_parts", "_law_is_place", "_law_told", "_law_words", "_law_gcd", "_law_fractions", "_law_records", "_law_spoilt", "_law_shelf", "_law_two", "_law_orders"]
def loose : List PySem.Str := loose0 ++ loose1 ++ loose2 ++ loose3 ++ loose4
def as0 : List Addr := [3, 6, 4, 52, 72, 91, 110, 129, 148, 167, 186, 205, 224, 243, 262, 281, 290, 297, 304, 311, 318, 325, 332, 339, 346, 353, 360, 367, 374, 381, 388, 395, 402, 409, 416, 417, 418, 425, 432, 439, 446, 453, 460, 467, 474, 481, 488, 493, 500, 507, 512, 519, 526, 531, 538, 545, 552, 559, 566, 573, 580, 585, 586, 593, 600, 607, 612, 617, 624, 631, 636, 643, 650, 657, 664, 671, 678, 685, 692, 699, 706, 713, 720, 727, 734, 739, 746, 753, 760, 767, 774, 781, 788, 795, 802, 809, 816, 823, 830, 835]
def as1 : List Addr := [836, 837, 850, 857, 864, 871, 878, 883, 890, 897, 904, 909, 916, 923, 928, 935, 942, 947, 954, 961, 968, 975, 982, 987, 994, 1001, 1008, 1015, 1022, 1029, 1034, 1041, 1048, 1055, 0, 51, 71, 90, 109, 128, 147, 166, 185, 204, 223, 242, 261, 280, 289, 296, 303, 310, 317, 324, 331, 338, 345, 352, 359, 366, 373, 380, 387, 394, 401, 408, 415, 424, 431, 438, 445, 452, 459, 466, 473, 480, 487, 492, 499, 506, 511, 518, 525, 530, 537, 544, 551, 558, 565, 572, 579, 584, 592, 599, 606, 611, 616, 623, 630, 635]
def as2 : List Addr := [642, 649, 656, 663, 670, 677, 684, 691, 698, 705, 712, 719, 726, 733, 738, 745, 752, 759, 766, 773, 780, 787, 794, 801, 808, 815, 822, 829, 834, 838, 839, 840, 841, 842, 843, 849, 856, 863, 870, 877, 882, 889, 896, 903, 908, 915, 922, 927, 934, 941, 946, 953, 960, 967, 974, 981, 986, 993, 1000, 1007, 1014, 1021, 1028, 1033, 1040, 1047, 1054, 50, 53, 69, 70, 88, 89, 107, 108, 126, 127, 145, 146, 164, 165, 183, 184, 202, 203, 221, 222, 240, 241, 259, 260, 278, 279, 68, 87, 106, 125, 144, 163, 182]
def as3 : List Addr := [201, 220, 239, 258, 277]
def as : List Addr := as0 ++ as1 ++ as2 ++ as3
end K91
end
section
set_option Elab.async false
set_option linter.all false
set_option maxRecDepth 100000
set_option autoImplicit false
set_option maxHeartbeats 0
namespace K91
open PySem PySem.Spec PyProof.Rows L2 Ev
abbrev R : PySem.W.OpenRow := PySem.W.OpenLaw.row PySem.Challenge.rw_millbench_k91_names_fractions_records
abbrev qv : Program := PySem.W.view R.prog [0, 156]
abbrev hk : PySem.W.Hook := hookB tab as
def ob (s : PySem.W.SharedT) : Al := obsB tab as (HandSHeadRun.getT s)
theorem ob_eq (s : PySem.W.SharedT) : ob s = hk.obs s.abs := obsB_eq (HandSHeadRun.getT_eq s)
theorem runAF (w : World) : (whole R 8000 (w.withFollow "special-get-raises" false)).map (fun x => HandSHeadRun.looksF R.prog x.1.heap x.2.abs) = some true := by
  kernel_rfl
theorem runBF (w : World) : (whole R 8000 (w.withFollow "special-get-raises" false)).map (fun x => (HandSHeadRun.seenQ qv loose (importedModules R.prog.main.body) (fun s => PySem.W.xlAt qv [] s && PySem.W.recOk R.toRowW.records s) x.2.abs, tab.okE (He.frG (HandSHeadRun.getT x.2) as))) = some (PySem.W.openGood qv loose, true) := by
  kernel_rfl
theorem runCF (w : World) : (whole R 8000 (w.withFollow "special-get-raises" false)).map (fun x => tab.okN (He.frG (HandSHeadRun.getT x.2) as)) = some true := by
  kernel_rfl
theorem runDF (w : World) : (whole R 8000 (w.withFollow "special-get-raises" false)).map (fun x => (tab.obs (He.frG (HandSHeadRun.getT x.2) as), tab.okD (He.frG (HandSHeadRun.getT x.2) as))) = some (tab.val (w.withFollow "special-get-raises" false), true) := by
  kernel_rfl
theorem runAT (w : World) : (whole R 8000 (w.withFollow "special-get-raises" true)).map (fun x => HandSHeadRun.looksF R.prog x.1.heap x.2.abs) = some true := by
  kernel_rfl
theorem runBT (w : World) : (whole R 8000 (w.withFollow "special-get-raises" true)).map (fun x => (HandSHeadRun.seenQ qv loose (importedModules R.prog.main.body) (fun s => PySem.W.xlAt qv [] s && PySem.W.recOk R.toRowW.records s) x.2.abs, tab.okE (He.frG (HandSHeadRun.getT x.2) as))) = some (PySem.W.openGood qv loose, true) := by
  kernel_rfl
theorem runCT (w : World) : (whole R 8000 (w.withFollow "special-get-raises" true)).map (fun x => tab.okN (He.frG (HandSHeadRun.getT x.2) as)) = some true := by
  kernel_rfl
theorem runDT (w : World) : (whole R 8000 (w.withFollow "special-get-raises" true)).map (fun x => (tab.obs (He.frG (HandSHeadRun.getT x.2) as), tab.okD (He.frG (HandSHeadRun.getT x.2) as))) = some (tab.val (w.withFollow "special-get-raises" true), true) := by
  kernel_rfl
theorem top_run (w : World) : HandSHeadRun.RunEqI R qv hk ob 8000 loose w :=
  PySem.W.byRow2 "special-get-raises" (P := fun w => HandSHeadRun.RunEqI R qv hk ob 8000 loose w) (fun w => run_parts (runAF w) (runBF w) (runCF w) (runDF w)) (fun w => run_parts (runAT w) (runBT w) (runCT w) (runDT w)) w
end K91
end
section
set_option Elab.async false
set_option linter.all false
set_option maxRecDepth 100000
/-! From the text's own trees to the evaluator's syntax. -/
namespace Ev
open PySem L2

structure TC where
  /-- the def's names, the parameters first -/
  N : List Str
  fns : List Str
  cons : List (Str × D)
  exs : List Str
  /-- defs that may be called while an exception is handled -/
  hots : List Nat
  /-- no exception is being handled -/
  cold : Bool

def isLoc (sc : Scope) (x : Str) : Bool := match sc.names.lookup x with
  | some .local => true
  | some .cell => true
  | some .free => true
  | _ => false
def isSto (sc : Scope) (x : Str) : Bool := match sc.names.lookup x with
  | some .local => true
  | some .cell => true
  | _ => false
def isGlb (sc : Scope) (x : Str) : Bool := match sc.names.lookup x with
  | some .globalImplicit => true
  | _ => false
def ixOf : List Str → Str → Option Nat
  | [], _ => none
  | y :: r, x => if y = x then some 0 else (ixOf r x).map (· + 1)
def odd (x : Str) : Bool := (x == ("__debug__" : Str)) || (x == ("__classdict__" : Str)) || (x == ("__name__" : Str))
def varOf (N : List Str) (sc : Scope) (x : Str) : Option Nat := if isLoc sc x && !odd x then ixOf N x else none
def stoOf (N : List Str) (sc : Scope) (x : Str) : Option Nat := if isSto sc x && !odd x then ixOf N x else none

def locOf (N : List Str) (sc : Scope) (x : Str) : Option Nat := match sc.names.lookup x with
  | some .local => ixOf N x
  | _ => none

def trC : Const → Option D
  | .none => some .non
  | .bool b => some (.bl b)
  | .int i => some (.int i)
  | .str x => some (.str x.cps.toList)
  | _ => none
def isStar : Expr → Bool
  | .Starred .. => true
  | _ => false
def isCallE : Expr → Bool
  | .Call .. => true
  | _ => false
def isSliceE : Expr → Bool
  | .Slice .. => true
  | _ => false
def trL (f : Expr → E) : List Expr → Es
  | [] => .nil
  | e :: es => .cons (if isStar e then .bad else f e) (trL f es)
def trB (f : Expr → E) (op : BoolOp) : List Expr → E
  | [] => .bad
  | e :: es => match es with
    | [] => f e
    | _ :: _ => match op with
      | .And => .and (f e) (trB f op es)
      | .Or => .or (f e) (trB f op es)
def trOp : Operator → Option BOp
  | .Add => some .add | .Sub => some .sub | .Mult => some .mul | .FloorDiv => some .fdiv | .Mod => some .mod | .Pow => some .pow
  | _ => none
def trCmp : CmpOp → Option COp
  | .Eq => some .eq | .NotEq => some .ne | .Lt => some .lt | .LtE => some .le | .Gt => some .gt | .GtE => some .ge | .In => some .isin | .NotIn => some .notin
  | _ => none
def trTy (x : Str) : Option Ty := if x = "str" then some .str else if x = "int" then some .int else if x = "bool" then some .bool else if x = "tuple" then some .tuple else if x = "list" then some .list else none
def trBi (x : Str) : Option Bi := if x = "len" then some .len else if x = "int" then some .int else if x = "str" then some .str else if x = "abs" then some .abs
  else if x = "tuple" then some .tuple else if x = "list" then some .list else if x = "sorted" then some .sorted else if x = "gcd" then some .gcd else none
def trMt (x : Str) : Option Mt := if x = "append" then some .append else if x = "extend" then some .extend else if x = "join" then some .join else if x = "split" then some .split
  else if x = "partition" then some .partition else if x = "index" then some .index else none
def nmOf : Expr → Option Str
  | .Name x _ => some x
  | _ => none
/-- the places of plain names -/
def tgIs (N : List Str) (sc : Scope) : List Expr → Option (List Nat)
  | [] => some []
  | e :: es => match e with
    | .Name x _ => match stoOf N sc x, tgIs N sc es with
      | some i, some is => some (i :: is)
      | _, _ => none
    | _ => none
def trTg (N : List Str) (sc : Scope) : Expr → Option Tg
  | .Name x _ => (stoOf N sc x).map .nm
  | .Tuple es _ _ => (tgIs N sc es).map .tp
  | _ => none
/-- a comprehension's own names, with their places -/
def ownOf (N : List Str) (scope : Scope) : List (Str × Nat) := scope.names.filterMap fun y => match y.2 with
  | .local => (ixOf N y.1).map fun i => (y.1, i)
  | .cell => (ixOf N y.1).map fun i => (y.1, i)
  | _ => none
def Tg.ixs : Tg → List Nat
  | .nm i => [i]
  | .tp is => is
section
variable (T : TC)
def trName (sc : Scope) (x : Str) : E := match varOf T.N sc x with
  | some i => .var i
  | none => if isGlb sc x && !odd x then (match T.cons.lookup x with
    | some d => .cst d
    | none => .bad) else .bad
mutual
def trE : Nat → Scope → Expr → E
  | 0, _, _ => .bad
  | n + 1, sc, e => match e with
    | .Name x _ => trName T sc x
    | .Constant c _ _ => match trC c with
      | some d => .cst d
      | none => .bad
    | .Tuple es _ _ => .tup (trL (trE n sc) es)
    | .List es _ => .lst (trL (trE n sc) es)
    | .Dict [] [] _ => .dnew
    | .BinOp a op b _ => match trOp op with
      | some o => .bin o (trE n sc a) (trE n sc b)
      | none => .bad
    | .UnaryOp op a _ => match op with
      | .Not => .not (trE n sc a)
      | .USub => .neg (trE n sc a)
      | _ => .bad
    | .BoolOp op es _ => trB (trE n sc) op es
    | .IfExp t a b _ => .ife (trE n sc t) (trE n sc a) (trE n sc b)
    | .Compare l ops rs _ => match ops, rs with
      | [op], [r] => match op, r with
        | .Is, .Constant .none _ _ => .isN false (trE n sc l)
        | .IsNot, .Constant .none _ _ => .isN true (trE n sc l)
        | .Is, .Constant (.bool k) _ _ => .isB false k (trE n sc l)
        | .IsNot, .Constant (.bool k) _ _ => .isB true k (trE n sc l)
        | op, r => match trCmp op with
          | some o => if behindInMarks op r then .bad else .cmp o (trE n sc l) (trE n sc r)
          | none => .bad
      | [o1, o2], [b, c] => match trCmp o1, trCmp o2 with
        | some p1, some p2 => if lastMarks [o1, o2] [b, c] then .bad else .chn p1 p2 (trE n sc l) (trE n sc b) (trE n sc c)
        | _, _ => .bad
      | _, _ => .bad
    | .Subscript v s _ => match s with
      | .Slice lo hi none _ => .sl (trE n sc v) (trO n sc lo) (trO n sc hi)
      | .Slice _ _ (some _) _ => .bad
      | s => .ix (trE n sc v) (trE n sc s)
    | .Call f args kws pos => if args.any isStar then .bad else match kws with
      | [] => match f with
        | .Name x _ => if isGlb sc x && !odd x then (match args with
            | [] => (match ixOf T.fns x with
              | some i => if T.cold then .call i .nil else .bad
              | none => .bad)
            | a :: r => match ixOf T.fns x with
              | some i => if T.cold then .call i (trL (trE n sc) (a :: r)) else .bad
              | none => if x = "isinstance" then (match r with
                  | [.Name y _] => match trTy y with
                    | some ty => if isGlb sc y && !isStar a then .inst ty (trE n sc a) else .bad
                    | none => .bad
                  | _ => .bad)
                else match trBi x with
                  | some b => .bi b (trL (trE n sc) (a :: r))
                  | none => .bad)
          else match varOf T.N sc x, args with
            | some i, a :: r => if T.cold then .cvar i (trL (trE n sc) (a :: r)) else .bad
            | _, _ => .bad
        | .Attribute o m apos => match trMt m with
          | some m => match args with
            | [a] => if isCallE o || !(apos.endLine == pos.line) || isStar a then .bad else .met m (trE n sc o) (.cons (trE n sc a) .nil)
            | _ => .bad
          | none => .bad
        | _ => .bad
      | [⟨some k, .Name g _, _⟩] => match f, args with
        | .Name x _, [a] => if x = "sorted" && k = "key" && isGlb sc x && isGlb sc g && !odd g && !isStar a then (match ixOf T.fns g with
            | some i => if T.cold then .srt i (trE n sc a) else .bad
            | none => .bad) else .bad
        | _, _ => .bad
      | _ => .bad
    | .ListComp elt gs scope _ => match gs with
      | [⟨tg, iter, ifs, 0⟩] => match trTg T.N scope tg, blkC T.N sc scope (ownOf T.N scope) with
        | some t, true => if !(t.ixs.all fun i => ((ownOf T.N scope).map (·.2)).contains i) || !T.cold then .bad else match ifs with
          | [] => .comp (trE n scope elt) t (trI n sc iter) .none ((ownOf T.N scope).map (·.2))
          | [c] => .comp (trE n scope elt) t (trI n sc iter) (.some (trE n scope c)) ((ownOf T.N scope).map (·.2))
          | _ => .bad
        | _, _ => .bad
      | _ => .bad
    | _ => .bad
def trO : Nat → Scope → Option Expr → Eo
  | 0, _, _ => .some .bad
  | n + 1, sc, e => match e with
    | none => .none
    | some e => .some (trE n sc e)
/-- what a loop goes over -/
def trI : Nat → Scope → Expr → It
  | 0, _, _ => .seq .bad
  | n + 1, sc, e => match e with
    | .Call (.Name x _) args [] _ => if x = "range" && isGlb sc x then (match args with
        | [a] => if isStar a then .seq .bad else .rng (.cons (trE n sc a) .nil)
        | [a, b] => if isStar a || isStar b then .seq .bad else .rng (.cons (trE n sc a) (.cons (trE n sc b) .nil))
        | _ => .seq .bad) else .seq (trE n sc e)
    | .Set .. => .seq .bad
    | e => .seq (trE n sc e)
end
/-! ### statements -/
def trXl (f : Expr → Option Xs) : List Expr → Option Xl
  | [] => some .nil
  | e :: es => match f e, trXl f es with
    | some x, some xs => some (.cons x xs)
    | _, _ => none
/-- suites of except clauses; nm: the exception's name, fs: its class's fields -/
def trX (fns : List Str) (hots : List Nat) (nm : Option Str) (fs : List Str) (sc : Scope) : Nat → Expr → Option Xs
  | 0, _ => none
  | n + 1, e => match e with
    | .Constant c _ _ => (trC c).map .cst
    | .Attribute (.Name x _) f _ => if some x = nm then (ixOf fs f).map .fld else none
    | .Tuple es _ _ => if es.any isStar then none else (trXl (trX fns hots nm fs sc n) es).map .tup
    | .Call (.Name g _) (a :: r) [] _ => if isGlb sc g && !odd g && !(a :: r).any isStar then (match ixOf fns g with
        | some i => if hots.contains i then (trXl (trX fns hots nm fs sc n) (a :: r)).map (.call i) else none
        | none => none) else none
    | _ => none
/-- a clause's name, where there is one, is a plain local one -/
def nmC (N : List Str) (sc : Scope) : Option Str → Bool
  | none => true
  | some n => (locOf N sc n).isSome && !odd n
def trH (ef : List (List Str)) (sc : Scope) : List ExceptHandler → Option Hs
  | [] => some .nil
  | .ExceptHandler ty nm body _ :: r => match ty, trH ef sc r, body with
    | some (.Name c _), some hs, b :: bs => if isGlb sc c && !odd c && nmC T.N sc nm then (match ixOf T.exs c with
      | some k => match b, bs with
        | .Return (some e) _, [] => match trX T.fns T.hots nm (ef.getD k []) sc 10 e with
          | some x => some (.cons k (.ret x) hs)
          | none => some (.cons k .bad hs)
        | _, _ => some (.cons k .bad hs)
      | none => none) else none
    | _, _, _ => none
/-- a, b = x, y with plain local names -/
def parOf (N : List Str) (sc : Scope) : Expr → Expr → Option (Nat × Nat × Expr × Expr)
  | .Tuple [.Name x px, .Name y py] _ _, .Tuple [a, b] _ _ => match locOf N sc x, locOf N sc y with
    | some i, some j => if x = y || isStar a || isStar b || !(py.line == px.line) || (foldedForSure 8 a && foldedForSure 8 b) || (constantsAlone 8 a && constantsAlone 8 b) then none else some (i, j, a, b)
    | _, _ => none
  | _, _ => none
def isTupE : Expr → Bool
  | .Tuple .. => true
  | _ => false
def asgOk : Expr → Expr → Bool
  | .Name .., _ => true
  | _, e => !isTupE e
def isDoc : Expr → Bool
  | .Constant (.str _) _ _ => true
  | _ => false
def trR (ef : List (List Str)) (sc : Scope) : Expr → S
  | .Call (.Name c _) (a :: r) [] _ => if isGlb sc c && !odd c && !(a :: r).any isStar then (match ixOf T.exs c with
    | some k => if Nat.ble 1 (ef.getD k []).length && Nat.ble (ef.getD k []).length 100 then .rse k (ef.getD k []).length (trL (trE T 40 sc) (a :: r)) else .bad
    | none => .bad) else .bad
  | _ => .bad
/-- what may stand where an exception is handled -/
def okS (cold : Bool) : Stmt → Bool
  | .If .. => true
  | .Return .. => true
  | .Pass _ => true
  | _ => cold
mutual
def trS (ef : List (List Str)) : Nat → Scope → Stmt → S
  | 0, _, _ => .bad
  | n + 1, sc, st => if okS T.cold st then (match st with
    | .Pass _ => .pass
    | .Break _ => .brk
    | .Continue _ => .cnt
    | .Return none _ => .retN
    | .Return (some e) _ => .ret (trE T 40 sc e)
    | .Expr e _ => if isDoc e then .pass else match e with
      | .Call .. => .exp (trE T 40 sc e)
      | _ => .bad
    | .Assign [tg] e _ => match tg with
      | .Subscript o i _ => if isSliceE i then .bad else .put (trE T 40 sc o) (trE T 40 sc i) (trE T 40 sc e)
      | tg => match parOf T.N sc tg e with
        | some (i, j, a, b) => .par i j (trE T 40 sc a) (trE T 40 sc b)
        | none => match trTg T.N sc tg with
          | some t => if asgOk tg e then .asg t (trE T 40 sc e) else .bad
          | none => .bad
    | .AugAssign (.Name x _) op e _ => match stoOf T.N sc x, trOp op with
      | some i, some .add => .aug i .add (trE T 40 sc e)
      | some i, some .sub => .aug i .sub (trE T 40 sc e)
      | _, _ => .bad
    | .If c a b _ => .ite (trE T 40 sc c) (trSs ef n sc a) (trSs ef n sc b)
    | .For tg it b [] _ => match trTg T.N sc tg with
      | some t => .for t (trI T 40 sc it) (trSs ef n sc b)
      | none => .bad
    | .While c b [] _ => .whl (trE T 40 sc c) (trSs ef n sc b)
    | .Raise (some e) none _ => trR T ef sc e
    | .Try b (h :: hs) [] [] _ => match trH T ef sc (h :: hs) with
      | some hs => .try (trSs ef n sc b) hs
      | none => .bad
    | _ => .bad) else .bad
def trSs (ef : List (List Str)) : Nat → Scope → List Stmt → Ss
  | 0, _, _ => .cons .bad .nil
  | n + 1, sc, l => match l with
    | [] => .nil
    | st :: r => .cons (trS ef n sc st) (trSs ef n sc r)
end
end
end Ev
end
section
set_option Elab.async false
set_option linter.all false
set_option autoImplicit false
set_option maxRecDepth 100000
/-! How the evaluator's values and store stand in the layer's heap. -/
namespace Ev
open PySem PySem.Spec PyProof.Rows L2

def kk : K1 → Key
  | .inl i => .inl i
  | .inr x => .inr (mkS x)
/-- where the program's own things stand -/
structure Pl where
  K : PySem.W.Frag
  nf : Nat
  fnA : Nat → Addr
  cdA : Nat → Addr
  exA : Nat → Addr

/-- a tuple, a list that never changes -/
def FzT (K : PySem.W.Frag) (a : Addr) (vs : List V) : Prop :=
  ∃ (o : Obj) (its : Array Value) (n : Nat), K.lookup a = some o ∧ o.cls = .type "tuple" ∧ o.dict = none ∧ o.data = .seq its n ∧ its.size ≤ sizeLine ∧ Vals vs its.toList
def FzL (K : PySem.W.Frag) (H : Hp) (a : Addr) (vs : List V) : Prop :=
  (∃ o, H a = some (.frz o (.lst vs))) ∨ ∃ (o : Obj) (its : Array Value) (n : Nat), K.lookup a = some o ∧ o.cls = .type "list" ∧ o.dict = none ∧ o.data = .seq its n ∧ its.size ≤ sizeLine ∧ Vals vs its.toList
theorem FzT.sq {K : PySem.W.Frag} {H : Hp} {a : Addr} {vs : List V} (h : FzT K a vs) : SqT K H a vs := by
  obtain ⟨o, its, n, h1, h2, _, h3⟩ := h
  exact .inr ⟨o, its, n, h1, h2, h3⟩
theorem FzL.sq {K : PySem.W.Frag} {H : Hp} {a : Addr} {vs : List V} (h : FzL K H a vs) : SqL K H a vs := by
  rcases h with ⟨o, h⟩ | h
  · exact .inl (.inr ⟨o, h⟩)
  · exact .inr h
def Fz (K : PySem.W.Frag) (H : Hp) (t : Bool) (a : Addr) (vs : List V) : Prop := if t then FzT K a vs else FzL K H a vs

section
variable (g : Pl) (ρ : List Addr) (H : Hp)
mutual
def rep : D → V → Prop
  | .non, v => v = .non
  | .bl b, v => v = .bl b
  | .int i, v => v = .int i
  | .str x, v => v = .str (mkS x)
  | .tup xs, v => ∃ a vs, v = .ref a ∧ H a = some (.tup vs) ∧ repL xs vs
  | .frz t xs, v => ∃ a vs, v = .ref a ∧ Fz g.K H t a vs ∧ repL xs vs
  | .ref n, v => ∃ a, ρ[n]? = some a ∧ v = .ref a
  | .fn i, v => i < g.nf ∧ v = .ref (g.fnA i)
  | .cd i, v => v = .ref (g.cdA i)
def repL : List D → List V → Prop
  | [], vs => vs = []
  | x :: xs, vs => ∃ v r, vs = v :: r ∧ rep x v ∧ repL xs r
end
/-- a dict's entries -/
def repK {κ κ' : Type} (f : κ → κ') : List (κ × D) → List (κ' × V) → Prop
  | [], ws => ws = []
  | p :: r, ws => ∃ w t, ws = (f p.1, w) :: t ∧ rep g ρ H p.2 w ∧ repK f r t
def obR : Ob → HO → Prop
  | .lst xs, u => ∃ vs, u = .lst vs ∧ repL g ρ H xs vs
  | .dK kvs, u => ∃ ws, u = .dK ws ∧ repK g ρ H kk kvs ws
  | .dT kvs, u => ∃ ws, u = .dT ws ∧ repK g ρ H (List.map kk) kvs ws
  | .lk o, u => ∃ ob u', u = .frz ob u' ∧ (match o with
    | .dK kvs => ∃ ws, u' = .dK ws ∧ repK g ρ H kk kvs ws
    | .dT kvs => ∃ ws, u' = .dT ws ∧ repK g ρ H (List.map kk) kvs ws
    | _ => False)
end

/-- what is kept of the tuples and of what never changes -/
structure Le (ρ : List Addr) (H : Hp) (ρ' : List Addr) (H' : Hp) : Prop where
  pre : ∃ more, ρ' = ρ ++ more
  tp : ∀ a vs, H a = some (.tup vs) → H' a = some (.tup vs)
  fl : ∀ a o vs, H a = some (.frz o (.lst vs)) → H' a = some (.frz o (.lst vs))
section
variable {g : Pl} {ρ ρ' : List Addr} {H H' : Hp}
theorem Fz.le (L : Le ρ H ρ' H') {t : Bool} {a : Addr} {vs : List V} (h : Fz g.K H t a vs) : Fz g.K H' t a vs := by
  cases t with
  | true => exact h
  | false =>
    have h : FzL g.K H a vs := h
    show FzL g.K H' a vs
    rcases h with ⟨o, h⟩ | h
    · exact .inl ⟨o, L.fl _ _ _ h⟩
    · exact .inr h
mutual
theorem rep_le (L : Le ρ H ρ' H') : ∀ (d : D) (v : V), rep g ρ H d v → rep g ρ' H' d v
  | .non, v, h => by simpa only [rep] using h
  | .bl _, v, h => by simpa only [rep] using h
  | .int _, v, h => by simpa only [rep] using h
  | .str _, v, h => by simpa only [rep] using h
  | .fn _, v, h => by simpa only [rep] using h
  | .cd _, v, h => by simpa only [rep] using h
  | .tup xs, v, h => by
    simp only [rep] at h ⊢
    obtain ⟨a, vs, e, ha, hr⟩ := h
    exact ⟨a, vs, e, L.tp _ _ ha, repL_le L xs vs hr⟩
  | .frz t xs, v, h => by
    simp only [rep] at h ⊢
    obtain ⟨a, vs, e, ha, hr⟩ := h
    exact ⟨a, vs, e, ha.le L, repL_le L xs vs hr⟩
  | .ref n, v, h => by
    simp only [rep] at h ⊢
    obtain ⟨a, e, ha⟩ := h
    obtain ⟨more, em⟩ := L.pre
    refine ⟨a, ?_, ha⟩
    rw [em]
    exact List.getElem?_append_left (List.getElem?_eq_some_iff.mp e).1 ▸ e
theorem repL_le (L : Le ρ H ρ' H') : ∀ (xs : List D) (vs : List V), repL g ρ H xs vs → repL g ρ' H' xs vs
  | [], vs, h => by simpa only [repL] using h
  | x :: xs, vs, h => by
    simp only [repL] at h ⊢
    obtain ⟨v, r, e, h1, h2⟩ := h
    exact ⟨v, r, e, rep_le L x v h1, repL_le L xs r h2⟩
end
theorem repK_le {κ κ' : Type} {f : κ → κ'} (L : Le ρ H ρ' H') : ∀ (kvs : List (κ × D)) (ws : List (κ' × V)), repK g ρ H f kvs ws → repK g ρ' H' f kvs ws
  | [], ws, h => by simpa only [repK] using h
  | p :: r, ws, h => by
    simp only [repK] at h ⊢
    obtain ⟨w, t, e, h1, h2⟩ := h
    exact ⟨w, t, e, rep_le L _ _ h1, repK_le L r t h2⟩
theorem obR_le (L : Le ρ H ρ' H') {o : Ob} {u : HO} (h : obR g ρ H o u) : obR g ρ' H' o u := by
  cases o with
  | lst xs =>
    obtain ⟨vs, e, h⟩ := h
    exact ⟨vs, e, repL_le L _ _ h⟩
  | dK kvs =>
    obtain ⟨vs, e, h⟩ := h
    exact ⟨vs, e, repK_le L _ _ h⟩
  | dT kvs =>
    obtain ⟨vs, e, h⟩ := h
    exact ⟨vs, e, repK_le L _ _ h⟩
  | lk o =>
    obtain ⟨ob, u', e, h⟩ := h
    refine ⟨ob, u', e, ?_⟩
    cases o with
    | lst xs => exact h.elim
    | lk xs => exact h.elim
    | dK kvs =>
      obtain ⟨vs, e, h⟩ := h
      exact ⟨vs, e, repK_le L _ _ h⟩
    | dT kvs =>
      obtain ⟨vs, e, h⟩ := h
      exact ⟨vs, e, repK_le L _ _ h⟩
mutual
/-- plain data hangs on no store -/
theorem rep_pure : ∀ (d : D) (v : V), d.pure = true → rep g ρ H d v → rep g ρ' H d v
  | .non, v, _, h => by simpa only [rep] using h
  | .bl _, v, _, h => by simpa only [rep] using h
  | .int _, v, _, h => by simpa only [rep] using h
  | .str _, v, _, h => by simpa only [rep] using h
  | .fn _, v, _, h => by simpa only [rep] using h
  | .cd _, v, _, h => by simpa only [rep] using h
  | .tup xs, v, p, h => by
    simp only [rep] at h ⊢
    obtain ⟨a, vs, e, ha, hr⟩ := h
    exact ⟨a, vs, e, ha, repL_pure xs vs (by simpa only [D.pure] using p) hr⟩
  | .frz t xs, v, p, h => by
    simp only [rep] at h ⊢
    obtain ⟨a, vs, e, ha, hr⟩ := h
    exact ⟨a, vs, e, ha, repL_pure xs vs (by simpa only [D.pure] using p) hr⟩
  | .ref n, v, p, h => by simp [D.pure] at p
theorem repL_pure : ∀ (xs : List D) (vs : List V), pureL xs = true → repL g ρ H xs vs → repL g ρ' H xs vs
  | [], vs, _, h => by simpa only [repL] using h
  | x :: xs, vs, p, h => by
    simp only [repL] at h ⊢
    simp only [pureL, Bool.and_eq_true] at p
    obtain ⟨v, r, e, h1, h2⟩ := h
    exact ⟨v, r, e, rep_pure x v p.1 h1, repL_pure xs r p.2 h2⟩
end
mutual
theorem rep_sh (ρ₀ : List Addr) : ∀ (d : D) (v : V), rep g ρ H d v → rep g (ρ₀ ++ ρ) H (d.sh ρ₀.length) v
  | .non, v, h => by simpa only [rep, D.sh] using h
  | .bl _, v, h => by simpa only [rep, D.sh] using h
  | .int _, v, h => by simpa only [rep, D.sh] using h
  | .str _, v, h => by simpa only [rep, D.sh] using h
  | .fn _, v, h => by simpa only [rep, D.sh] using h
  | .cd _, v, h => by simpa only [rep, D.sh] using h
  | .tup xs, v, h => by
    simp only [rep, D.sh] at h ⊢
    obtain ⟨a, vs, e, ha, hr⟩ := h
    exact ⟨a, vs, e, ha, repL_sh ρ₀ xs vs hr⟩
  | .frz t xs, v, h => by
    simp only [rep, D.sh] at h ⊢
    obtain ⟨a, vs, e, ha, hr⟩ := h
    exact ⟨a, vs, e, ha, repL_sh ρ₀ xs vs hr⟩
  | .ref n, v, h => by
    simp only [rep, D.sh] at h ⊢
    obtain ⟨a, e, ha⟩ := h
    refine ⟨a, ?_, ha⟩
    rw [List.getElem?_append_right (Nat.le_add_left _ _), Nat.add_sub_cancel]
    exact e
theorem repL_sh (ρ₀ : List Addr) : ∀ (xs : List D) (vs : List V), repL g ρ H xs vs → repL g (ρ₀ ++ ρ) H (shL ρ₀.length xs) vs
  | [], vs, h => by simpa only [repL, shL] using h
  | x :: xs, vs, h => by
    simp only [repL, shL] at h ⊢
    obtain ⟨v, r, e, h1, h2⟩ := h
    exact ⟨v, r, e, rep_sh ρ₀ x v h1, repL_sh ρ₀ xs r h2⟩
end
theorem repK_sh {κ κ' : Type} {f : κ → κ'} (ρ₀ : List Addr) : ∀ (kvs : List (κ × D)) (ws : List (κ' × V)), repK g ρ H f kvs ws → repK g (ρ₀ ++ ρ) H f (kvs.map fun p => (p.1, p.2.sh ρ₀.length)) ws
  | [], ws, h => by simpa only [repK, List.map_nil] using h
  | p :: r, ws, h => by
    simp only [repK, List.map_cons] at h ⊢
    obtain ⟨w, t, e, h1, h2⟩ := h
    exact ⟨w, t, e, rep_sh ρ₀ _ _ h1, repK_sh ρ₀ r t h2⟩
theorem obR_sh (ρ₀ : List Addr) {o : Ob} {u : HO} (h : obR g ρ H o u) : obR g (ρ₀ ++ ρ) H (o.sh ρ₀.length) u := by
  cases o with
  | lst xs =>
    obtain ⟨vs, e, h⟩ := h
    exact ⟨vs, e, repL_sh ρ₀ _ _ h⟩
  | dK kvs =>
    obtain ⟨vs, e, h⟩ := h
    exact ⟨vs, e, repK_sh ρ₀ _ _ h⟩
  | dT kvs =>
    obtain ⟨vs, e, h⟩ := h
    exact ⟨vs, e, repK_sh ρ₀ _ _ h⟩
  | lk o =>
    obtain ⟨ob, u', e, h⟩ := h
    refine ⟨ob, u', e, ?_⟩
    cases o with
    | lst xs => exact h.elim
    | lk xs => exact h.elim
    | dK kvs =>
      obtain ⟨vs, e, h⟩ := h
      exact ⟨vs, e, repK_sh ρ₀ _ _ h⟩
    | dT kvs =>
      obtain ⟨vs, e, h⟩ := h
      exact ⟨vs, e, repK_sh ρ₀ _ _ h⟩
theorem repL_length : ∀ {xs : List D} {vs : List V}, repL g ρ H xs vs → vs.length = xs.length
  | [], vs, h => by
    simp only [repL] at h
    rw [h]
    rfl
  | x :: xs, vs, h => by
    simp only [repL] at h
    obtain ⟨v, r, e, _, h2⟩ := h
    rw [e, List.length_cons, List.length_cons, repL_length h2]
theorem repL_append : ∀ {xs ys : List D} {vs ws : List V}, repL g ρ H xs vs → repL g ρ H ys ws → repL g ρ H (xs ++ ys) (vs ++ ws)
  | [], ys, vs, ws, h, h' => by
    simp only [repL] at h
    rw [h]
    exact h'
  | x :: xs, ys, vs, ws, h, h' => by
    simp only [repL, List.cons_append] at h ⊢
    obtain ⟨v, r, e, h1, h2⟩ := h
    exact ⟨v, r ++ ws, by rw [e]; rfl, h1, repL_append h2 h'⟩
theorem repL_get : ∀ {xs : List D} {vs : List V} {i : Nat} {d : D}, repL g ρ H xs vs → xs[i]? = some d → ∃ v, vs[i]? = some v ∧ rep g ρ H d v
  | [], _, _, _, _, e => by simp at e
  | x :: xs, vs, 0, d, h, e => by
    simp only [repL] at h
    obtain ⟨v, r, e', h1, _⟩ := h
    simp at e
    subst e
    exact ⟨v, by rw [e']; rfl, h1⟩
  | x :: xs, vs, i + 1, d, h, e => by
    simp only [repL] at h
    obtain ⟨v, r, e', _, h2⟩ := h
    obtain ⟨w, hw, rw'⟩ := repL_get (i := i) h2 (by simpa using e)
    exact ⟨w, by rw [e']; simpa using hw, rw'⟩
theorem repL_set : ∀ {xs : List D} {vs : List V} {d : D} {v : V} (i : Nat), repL g ρ H xs vs → rep g ρ H d v → repL g ρ H (xs.set i d) (vs.set i v)
  | [], vs, _, _, _, h, _ => by
    simp only [repL, List.set_nil] at h ⊢
    rw [h]
    rfl
  | x :: xs, vs, d, v, 0, h, hv => by
    simp only [repL, List.set_cons_zero] at h ⊢
    obtain ⟨w, r, e, _, h2⟩ := h
    exact ⟨v, r, by rw [e]; rfl, hv, h2⟩
  | x :: xs, vs, d, v, i + 1, h, hv => by
    simp only [repL, List.set_cons_succ] at h ⊢
    obtain ⟨w, r, e, h1, h2⟩ := h
    exact ⟨w, r.set i v, by rw [e]; rfl, h1, repL_set i h2 hv⟩
theorem repL_drop : ∀ {xs : List D} {vs : List V} (n : Nat), repL g ρ H xs vs → repL g ρ H (xs.drop n) (vs.drop n)
  | xs, vs, 0, h => h
  | [], vs, n + 1, h => by
    simp only [repL, List.drop_nil] at h ⊢
    rw [h]
    rfl
  | x :: xs, vs, n + 1, h => by
    simp only [repL] at h
    obtain ⟨v, r, e, _, h2⟩ := h
    rw [e]
    exact repL_drop n h2
theorem repL_take : ∀ {xs : List D} {vs : List V} (n : Nat), repL g ρ H xs vs → repL g ρ H (xs.take n) (vs.take n)
  | xs, vs, 0, h => by simp only [List.take_zero, repL]
  | [], vs, n + 1, h => by
    simp only [repL, List.take_nil] at h ⊢
    rw [h]
    rfl
  | x :: xs, vs, n + 1, h => by
    simp only [repL, List.take_succ_cons] at h ⊢
    obtain ⟨v, r, e, h1, h2⟩ := h
    exact ⟨v, r.take n, by rw [e]; rfl, h1, repL_take n h2⟩
end

theorem pure_get : ∀ {xs : List D} {i : Nat} {d : D}, pureL xs = true → xs[i]? = some d → d.pure = true
  | [], i, d, _, h => by simp at h
  | x :: xs, 0, d, p, h => by
    simp at h
    simp only [pureL, Bool.and_eq_true] at p
    exact h ▸ p.1
  | x :: xs, i + 1, d, p, h => by
    simp only [pureL, Bool.and_eq_true] at p
    exact pure_get (i := i) p.2 (by simpa using h)

/-! ### the store -/
/-- what stands at a place of the store -/
def objU : HO → Bool
  | .lst _ => true | .dK _ => true | .dT _ => true | .frz _ (.dK _) => true | .frz _ (.dT _) => true | _ => false
theorem obR_obj {g : Pl} {ρ : List Addr} {H : Hp} {o : Ob} {u : HO} (h : obR g ρ H o u) : objU u = true := by
  cases o with
  | lst xs =>
    obtain ⟨vs, e, h⟩ := h
    rw [e]
    rfl
  | dK kvs =>
    obtain ⟨vs, e, h⟩ := h
    rw [e]
    rfl
  | dT kvs =>
    obtain ⟨vs, e, h⟩ := h
    rw [e]
    rfl
  | lk o =>
    obtain ⟨ob, u', e, h⟩ := h
    cases o with
    | lst xs => exact h.elim
    | lk xs => exact h.elim
    | dK kvs =>
      obtain ⟨vs, e2, h⟩ := h
      rw [e, e2]
      rfl
    | dT kvs =>
      obtain ⟨vs, e2, h⟩ := h
      rw [e, e2]
      rfl
structure Sim (g : Pl) (ρ : List Addr) (S : Sto) (H : Hp) : Prop where
  nd : ρ.Nodup
  len : ρ.length = S.length
  ob : ∀ (n : Nat) (o : Ob), S[n]? = some o → ∃ a u, ρ[n]? = some a ∧ H a = some u ∧ obR g ρ H o u
structure Ext (ρ : List Addr) (H : Hp) (ρ' : List Addr) (H' : Hp) : Prop where
  pre : ∃ more, ρ' = ρ ++ more
  fr : ∀ a o, a ∉ ρ → H a = some o → H' a = some o
  kp : ∀ a, H a ≠ none → H' a ≠ none
  fresh : ∀ a, a ∈ ρ' → a ∉ ρ → H a = none
  fz : ∀ a o u, H a = some (.frz o u) → H' a = some (.frz o u)
section
variable {g : Pl} {ρ ρ' ρ'' : List Addr} {H H' H'' : Hp} {S S' : Sto}
theorem Sim.mem (s : Sim g ρ S H) {a : Addr} (h : a ∈ ρ) : ∃ u, H a = some u ∧ objU u = true := by
  obtain ⟨n, hn, e⟩ := List.mem_iff_getElem.mp h
  obtain ⟨b, u, eb, eu, r⟩ := s.ob n (S[n]'(by rw [← s.len]; exact hn)) (List.getElem?_eq_getElem _)
  rw [List.getElem?_eq_getElem hn, e] at eb
  cases eb
  exact ⟨u, eu, obR_obj r⟩
theorem Sim.at {n : Nat} {a : Addr} {o : Ob} (s : Sim g ρ S H) (h : S[n]? = some o) (e : ρ[n]? = some a) : ∃ u, H a = some u ∧ obR g ρ H o u := by
  obtain ⟨b, u, eb, eu, r⟩ := s.ob n o h
  rw [e] at eb
  cases eb
  exact ⟨u, eu, r⟩
theorem Sim.out (s : Sim g ρ S H) {a : Addr} {u : HO} (h : H a = some u) (hu : objU u = false) : a ∉ ρ := fun hm => by
  obtain ⟨v, e, hv⟩ := s.mem hm
  rw [h] at e
  cases e
  rw [hu] at hv
  cases hv
theorem Sim.none (s : Sim g ρ S H) {a : Addr} (h : H a = none) : a ∉ ρ := fun hm => by
  obtain ⟨v, e, _⟩ := s.mem hm
  rw [h] at e
  cases e
theorem Ext.le (s : Sim g ρ S H) (x : Ext ρ H ρ' H') : Le ρ H ρ' H' :=
  ⟨x.pre, fun a vs h => x.fr a _ (s.out h rfl) h, fun a o vs h => x.fr a _ (s.out h rfl) h⟩
theorem Ext.refl : Ext ρ H ρ H := ⟨⟨[], by simp⟩, fun _ _ _ h => h, fun _ h => h, fun _ h n => absurd h n, fun _ _ _ h => h⟩
theorem Ext.sub (x : Ext ρ H ρ' H') {a : Addr} (h : a ∈ ρ) : a ∈ ρ' := by
  obtain ⟨more, e⟩ := x.pre
  rw [e]
  exact List.mem_append_left _ h
theorem Ext.trans (s : Sim g ρ S H) (x : Ext ρ H ρ' H') (y : Ext ρ' H' ρ'' H'') : Ext ρ H ρ'' H'' := by
  obtain ⟨m1, e1⟩ := x.pre
  obtain ⟨m2, e2⟩ := y.pre
  have key : ∀ a o, a ∉ ρ → H a = some o → a ∉ ρ' := fun a o n h hm => by
    have z := x.fresh a hm n
    rw [h] at z
    cases z
  refine ⟨⟨m1 ++ m2, by rw [e2, e1, List.append_assoc]⟩, fun a o n h => y.fr a o (key a o n h) (x.fr a o n h), fun a h => y.kp a (x.kp a h), fun a hm n => ?_, fun a o u h => y.fz a o u (x.fz a o u h)⟩
  by_cases hc : a ∈ ρ'
  · exact x.fresh a hc n
  · have z := y.fresh a hm hc
    cases q : H a with
    | none => rfl
    | some o => exact absurd z (x.kp a (by rw [q]; simp))
theorem Sim.up {H2 : Hp} (s : Sim g ρ S H) (L : Le ρ H ρ H2) (k : ∀ a u, a ∈ ρ → H a = some u → H2 a = some u) : Sim g ρ S H2 :=
  ⟨s.nd, s.len, fun n o h => by
    obtain ⟨a, u, e, eu, r⟩ := s.ob n o h
    exact ⟨a, u, e, k a u (List.mem_of_getElem? e) eu, obR_le L r⟩⟩
/-- a new thing that is no object of the store -/
theorem Sim.side (s : Sim g ρ S H) {p : Addr} {u : HO} (hp : H p = Option.none) : Sim g ρ S (upd H p u) ∧ Ext ρ H ρ (upd H p u) := by
  have x : Ext ρ H ρ (upd H p u) := ⟨⟨[], by simp⟩, fun a o _ h => by rw [upd_ne (ne_of_none h hp)]; exact h, fun a h => by
    by_cases e : a = p
    · rw [e, upd_same]; simp
    · rw [upd_ne e]; exact h, fun _ h n => absurd h n, fun a o v h => by rw [upd_ne (ne_of_none h hp)]; exact h⟩
  exact ⟨s.up (x.le s) fun a v _ h => by rw [upd_ne (ne_of_none h hp)]; exact h, x⟩
/-- a new object at the store's end -/
theorem Sim.new (s : Sim g ρ S H) {p : Addr} {u : HO} {o : Ob} (hp : H p = Option.none) (r : obR g ρ H o u) : Sim g (ρ ++ [p]) (S ++ [o]) (upd H p u) ∧ Ext ρ H (ρ ++ [p]) (upd H p u) := by
  have hm : p ∉ ρ := s.none hp
  have x : Ext ρ H (ρ ++ [p]) (upd H p u) := ⟨⟨[p], rfl⟩, fun a o _ h => by rw [upd_ne (ne_of_none h hp)]; exact h, fun a h => by
    by_cases e : a = p
    · rw [e, upd_same]; simp
    · rw [upd_ne e]; exact h, fun a h n => by
      rcases List.mem_append.mp h with h | h
      · exact absurd h n
      · rw [List.mem_singleton.mp h]; exact hp, fun a o v h => by rw [upd_ne (ne_of_none h hp)]; exact h⟩
  have L := x.le s
  refine ⟨⟨?_, by simp [s.len], fun n o' h => ?_⟩, x⟩
  · rw [List.nodup_append]
    exact ⟨s.nd, by simp, fun a ha b hb e => by
      rw [List.mem_singleton.mp hb] at e
      exact hm (e ▸ ha)⟩
  · by_cases hn : n < S.length
    · rw [List.getElem?_append_left hn] at h
      obtain ⟨a, v, e, ev, rv⟩ := s.ob n o' h
      exact ⟨a, v, by rw [List.getElem?_append_left (by rw [s.len]; exact hn)]; exact e, by rw [upd_ne (ne_of_none ev hp)]; exact ev, obR_le L rv⟩
    · rw [List.getElem?_append_right (by omega)] at h
      have hz : n - S.length = 0 := by
        have := (List.getElem?_eq_some_iff.mp h).1
        simp at this
        omega
      rw [hz] at h
      cases h
      exact ⟨p, u, by rw [List.getElem?_append_right (by rw [s.len]; omega), s.len, hz]; rfl, upd_same, obR_le L r⟩
/-- an object of the store changed -/
theorem Sim.over (s : Sim g ρ S H) {n : Nat} {a : Addr} {o : Ob} {u : HO} (e : ρ[n]? = some a) (r : obR g ρ H o u) (L : Le ρ H ρ (upd H a u)) : Sim g ρ (S.set n o) (upd H a u) := by
  refine ⟨s.nd, by simp [s.len], fun m o' h => ?_⟩
  by_cases hmn : m = n
  · subst hmn
    have hl : m < S.length := by
      have := (List.getElem?_eq_some_iff.mp e).1
      rw [← s.len]
      exact this
    rw [List.getElem?_set_self hl] at h
    cases h
    exact ⟨a, u, e, upd_same, obR_le L r⟩
  · rw [List.getElem?_set_ne (Ne.symm hmn)] at h
    obtain ⟨b, v, eb, ev, rv⟩ := s.ob m o' h
    have hab : b ≠ a := fun q => by
      subst q
      have h1 := (List.getElem?_eq_some_iff.mp eb)
      have h2 := (List.getElem?_eq_some_iff.mp e)
      obtain ⟨l1, q1⟩ := h1
      obtain ⟨l2, q2⟩ := h2
      exact hmn ((List.getElem_inj s.nd).mp (q1.trans q2.symm))
    exact ⟨b, v, eb, by rw [upd_ne hab]; exact ev, obR_le L rv⟩
theorem Sim.write (s : Sim g ρ S H) {n : Nat} {a : Addr} {o : Ob} {u : HO} (e : ρ[n]? = some a) (r : obR g ρ H o u) (hf : ∀ o' u', H a ≠ some (.frz o' u')) : Sim g ρ (S.set n o) (upd H a u) ∧ Ext ρ H ρ (upd H a u) := by
  have hm : a ∈ ρ := List.mem_of_getElem? e
  have x : Ext ρ H ρ (upd H a u) := ⟨⟨[], by simp⟩, fun b o n h => by
    have hb : b ≠ a := fun q => n (by rw [q]; exact hm)
    rw [upd_ne hb]
    exact h, fun b h => by
    by_cases q : b = a
    · rw [q, upd_same]; simp
    · rw [upd_ne q]; exact h, fun _ h n => absurd h n, fun b o' v h => by
    by_cases q : b = a
    · rw [q] at h; exact absurd h (hf _ _)
    · rw [upd_ne q]; exact h⟩
  exact ⟨s.over e r (x.le s), x⟩
/-- a thing of the heap taken into the store -/
theorem Sim.adopt (s : Sim g ρ S H) {p : Addr} {u : HO} {o : Ob} (hp : H p = some u) (hm : p ∉ ρ) (r : obR g ρ H o u) : Sim g (ρ ++ [p]) (S ++ [o]) H := by
  have L : Le ρ H (ρ ++ [p]) H := ⟨⟨[p], rfl⟩, fun _ _ h => h, fun _ _ _ h => h⟩
  refine ⟨?_, by simp [s.len], fun n o' h => ?_⟩
  · rw [List.nodup_append]
    exact ⟨s.nd, by simp, fun a ha b hb e => by
      rw [List.mem_singleton.mp hb] at e
      exact hm (e ▸ ha)⟩
  · by_cases hn : n < S.length
    · rw [List.getElem?_append_left hn] at h
      obtain ⟨a, v, e, ev, rv⟩ := s.ob n o' h
      exact ⟨a, v, by rw [List.getElem?_append_left (by rw [s.len]; exact hn)]; exact e, ev, obR_le L rv⟩
    · rw [List.getElem?_append_right (by omega)] at h
      have hz : n - S.length = 0 := by
        have := (List.getElem?_eq_some_iff.mp h).1
        simp at this
        omega
      rw [hz] at h
      cases h
      exact ⟨p, u, by rw [List.getElem?_append_right (by rw [s.len]; omega), s.len, hz]; rfl, hp, obR_le L r⟩
theorem Ext.adopt (x : Ext ρ H ρ' H') {p : Addr} (hp : H p = none) : Ext ρ H (ρ' ++ [p]) H' := by
  obtain ⟨m, e⟩ := x.pre
  refine ⟨⟨m ++ [p], by rw [e, List.append_assoc]⟩, x.fr, x.kp, fun a h n => ?_, x.fz⟩
  rcases List.mem_append.mp h with h | h
  · exact x.fresh a h n
  · rw [List.mem_singleton.mp h]; exact hp
/-- a thing that is no object of the store changed, that was not at the start -/
theorem Ext.poke (x : Ext ρ H ρ' H') {p : Addr} {u : HO} (hp : H p = none) : Ext ρ H ρ' (upd H' p u) := by
  refine ⟨x.pre, fun a o n h => by rw [upd_ne (ne_of_none h hp)]; exact x.fr a o n h, fun a h => ?_, x.fresh, fun a o v h => by rw [upd_ne (ne_of_none h hp)]; exact x.fz a o v h⟩
  by_cases e : a = p
  · rw [e, upd_same]; simp
  · rw [upd_ne e]; exact x.kp a h
theorem Sim.poke (s : Sim g ρ S H) {p : Addr} {u v : HO} (hp : H p = some v) (hm : p ∉ ρ) (ht : objU v = true) (hf : ∀ o' u', v ≠ .frz o' u') : Sim g ρ S (upd H p u) ∧ Le ρ H ρ (upd H p u) := by
  have L : Le ρ H ρ (upd H p u) := ⟨⟨[], by simp⟩, fun a vs h => by
    have hne : a ≠ p := fun e => by
      rw [e, hp] at h
      cases h
      cases ht
    rw [upd_ne hne]; exact h, fun a o vs h => by
    have hne : a ≠ p := fun e => by
      rw [e, hp] at h
      cases h
      exact hf _ _ rfl
    rw [upd_ne hne]; exact h⟩
  exact ⟨s.up L fun a w ha h => by
    have hne : a ≠ p := fun e => hm (by rw [← e]; exact ha)
    rw [upd_ne hne]; exact h, L⟩
/-- behind a def that had a store of its own -/
theorem Sim.join {ρc : List Addr} (s : Sim g ρ S H) (x : Ext [] H ρc H') (sc : Sim g ρc S' H') : Sim g ρ S H' ∧ Ext ρ H ρ H' ∧ Sim g (ρ ++ ρc) (S ++ S'.map (Ob.sh S.length)) H' ∧ Ext ρ H (ρ ++ ρc) H' := by
  have fr : ∀ a o, H a = some o → H' a = some o := fun a o h => x.fr a o (by simp) h
  have x1 : Ext ρ H ρ H' := ⟨⟨[], by simp⟩, fun a o _ h => fr a o h, x.kp, fun _ h n => absurd h n, fun a o u h => fr a _ h⟩
  have x2 : Ext ρ H (ρ ++ ρc) H' := ⟨⟨ρc, rfl⟩, fun a o _ h => fr a o h, x.kp, fun a h n => by
    rcases List.mem_append.mp h with h | h
    · exact absurd h n
    · exact x.fresh a h (by simp), fun a o u h => fr a _ h⟩
  have s1 : Sim g ρ S H' := s.up (x1.le s) fun a u _ h => fr a u h
  refine ⟨s1, x1, ⟨?_, by simp [s.len, sc.len], fun n o h => ?_⟩, x2⟩
  · rw [List.nodup_append]
    refine ⟨s.nd, sc.nd, fun a ha b hb e => ?_⟩
    subst e
    obtain ⟨u, hu, _⟩ := s.mem ha
    have z := x.fresh a hb (by simp)
    rw [hu] at z
    cases z
  · by_cases hn : n < S.length
    · rw [List.getElem?_append_left hn] at h
      obtain ⟨a, v, e, ev, rv⟩ := s.ob n o h
      exact ⟨a, v, by rw [List.getElem?_append_left (by rw [s.len]; exact hn)]; exact e, fr a v ev, obR_le (x2.le s) rv⟩
    · rw [List.getElem?_append_right (by omega), List.getElem?_map] at h
      cases q : S'[n - S.length]? with
      | none => rw [q] at h; cases h
      | some o' =>
        rw [q] at h
        cases h
        obtain ⟨a, v, e, ev, rv⟩ := sc.ob _ o' q
        refine ⟨a, v, by rw [List.getElem?_append_right (by rw [s.len]; omega), s.len]; exact e, ev, ?_⟩
        rw [← s.len]
        exact obR_sh ρ rv
end
end Ev
end
section
set_option Elab.async false
set_option linter.all false
set_option maxRecDepth 100000
set_option autoImplicit false
/-! What the evaluator answers is what the machine does: the frame, operators. -/
namespace Ev
open PySem PySem.Spec PyProof.Rows L2

/-- what is wanted of an answer -/
def post {α β : Type} (g : Pl) (ef : List (List Str)) (E0 : XK) (Rl : List Addr → Hp → α → β → Prop) (ρ : List Addr) (H : Hp) (r : O α) (Q : β → Hp → Prop) : Prop :=
  match r with
  | none => False
  | some (.ok a S') => ∀ ρ' H' v, Ext ρ H ρ' H' → Sim g ρ' S' H' → Rl ρ' H' a v → Q v H'
  | some (.exc c fs S') => ∀ ρ' H' dx ws, Ext ρ H ρ' H' → Sim g ρ' S' H' → H' dx = some (.xd ws) → (∀ (i : Nat) (n : Str) (d : D), (ef.getD c [])[i]? = some n → fs[i]? = some d → ∃ v, ws.lookup n = some v ∧ rep g ρ' H' d v) → E0 (.ref (g.exA c)) (some dx) H'
section
variable {g : Pl} {ef : List (List Str)} {E0 : XK} {ρ ρ' : List Addr} {H H' : Hp} {S S' : Sto}
theorem post_mono {α β : Type} {Rl : List Addr → Hp → α → β → Prop} {r : O α} {Q Q' : β → Hp → Prop} (h : post g ef E0 Rl ρ H r Q) (i : ∀ v H', Q v H' → Q' v H') : post g ef E0 Rl ρ H r Q' := by
  unfold post at h ⊢
  split
  · exact h
  · exact fun ρ' H' v x s r => i _ _ (h ρ' H' v x s r)
  · exact h
theorem post_ext {α β : Type} {Rl : List Addr → Hp → α → β → Prop} {r : O α} {Q : β → Hp → Prop} (s : Sim g ρ S H) (x : Ext ρ H ρ' H') (h : post g ef E0 Rl ρ H r Q) : post g ef E0 Rl ρ' H' r Q := by
  unfold post at h ⊢
  split
  · exact h
  · exact fun ρ2 H2 v x2 s2 r => h ρ2 H2 v (x.trans s x2) s2 r
  · exact fun ρ2 H2 dx ws x2 s2 e => h ρ2 H2 dx ws (x.trans s x2) s2 e
theorem post_bind {α β γ δ : Type} {Ra : List Addr → Hp → α → β → Prop} {Rb : List Addr → Hp → γ → δ → Prop} {x : O α} {f : α → Sto → O γ} {Q : δ → Hp → Prop} (s : Sim g ρ S H) (h : post g ef E0 Rb ρ H (x.bind f) Q) :
    post g ef E0 Ra ρ H x (fun v H1 => ∃ d S1 ρ1, Ext ρ H ρ1 H1 ∧ Sim g ρ1 S1 H1 ∧ Ra ρ1 H1 d v ∧ post g ef E0 Rb ρ1 H1 (f d S1) Q) := by
  cases x with
  | none => exact h
  | some r =>
    cases r with
    | ok a S' => exact fun ρ' H' v x s' r => ⟨a, S', ρ', x, s', r, post_ext s x h⟩
    | exc c fs S' => exact h
theorem post_ok {α β : Type} {Rl : List Addr → Hp → α → β → Prop} {a : α} {Q : β → Hp → Prop} (h : post g ef E0 Rl ρ H (ok a S) Q) {v : β} (s : Sim g ρ S H) (r : Rl ρ H a v) : Q v H := h ρ H v Ext.refl s r
end

/-- the names' values -/
structure EnvR (g : Pl) (ρ : List Addr) (H : Hp) (env : Env) (σ : L2.St) : Prop where
  len : env.length = σ.length
  at_ : ∀ (i : Nat) (d : D), env[i]? = some (some d) → ∃ v, σ[i]? = some (some v) ∧ rep g ρ H d v
section
variable {g : Pl} {ρ ρ' : List Addr} {H H' : Hp} {env : Env} {σ : L2.St}
theorem EnvR.le (L : Le ρ H ρ' H') (e : EnvR g ρ H env σ) : EnvR g ρ' H' env σ := ⟨e.len, fun i d h => by
  obtain ⟨v, h1, h2⟩ := e.at_ i d h
  exact ⟨v, h1, rep_le L _ _ h2⟩⟩
theorem EnvR.set (e : EnvR g ρ H env σ) (i : Nat) {d : D} {v : V} (r : rep g ρ H d v) : EnvR g ρ H (env.set i (some d)) (σ.set i (some v)) := ⟨by simp [e.len], fun j d' h => by
  by_cases hj : i = j
  · subst hj
    by_cases hl : i < env.length
    · rw [List.getElem?_set_self hl] at h
      cases h
      exact ⟨v, List.getElem?_set_self (by rw [← e.len]; exact hl), r⟩
    · rw [List.getElem?_eq_none (by simpa using hl)] at h
      cases h
  · rw [List.getElem?_set_ne hj] at h
    obtain ⟨w, h1, h2⟩ := e.at_ j d' h
    exact ⟨w, by rw [List.getElem?_set_ne hj]; exact h1, h2⟩⟩
theorem EnvR.unset (e : EnvR g ρ H env σ) (i : Nat) : EnvR g ρ H (env.set i none) (σ.set i none) := ⟨by simp [e.len], fun j d' h => by
  by_cases hj : i = j
  · subst hj
    by_cases hl : i < env.length
    · rw [List.getElem?_set_self hl] at h
      cases h
    · rw [List.getElem?_eq_none (by simpa using hl)] at h
      cases h
  · rw [List.getElem?_set_ne hj] at h
    obtain ⟨w, h1, h2⟩ := e.at_ j d' h
    exact ⟨w, by rw [List.getElem?_set_ne hj]; exact h1, h2⟩⟩
theorem EnvR.wipe (e : EnvR g ρ H env σ) : ∀ vs : List Nat, EnvR g ρ H (wipeE env vs) (wipe σ vs)
  | [] => e
  | v :: vs => (EnvR.wipe e vs).unset v
end

/-! ### the context -/
/-- a def's promise -/
def spF (g : Pl) (ef : List (List Str)) (cf : CF) (np : Nat) (i : Nat) : Sp := fun vs H Q E => vs.length = np ∧ ∃ ρ S ds, Sim g ρ S H ∧ repL g ρ H ds vs ∧ post g ef E (rep g) ρ H (cf i ds S) Q

/-- the program's own dicts -/
def CdOk (g : Pl) (K : PySem.W.Frag) (w : World) (cds : Cds) : Prop := ∀ i kvs, cds i = some kvs → ∃ (es : Array DictEntry) (n : Nat), KDict K w (g.cdA i) es n ∧ ∀ z : Txt, ∃ r, PySem.W.nsIn K (g.cdA i) (mkS z) = some r ∧ r.isSome = (kvs.any fun p => decide (p.1 = z)) ∧
    ∀ d, (kvs.find? fun p => decide (p.1 = z)).map (·.2) = some d → ∃ u v, r = some u ∧ RelV v u ∧ ∀ ρ H, rep g ρ H d v
structure Ct (g : Pl) (T : TC) (cf : CF) (np : Nat → Nat) (ef : List (List Str)) (cds : Cds) (E0 : XK) (k : Nat) (sc : Scope) (X : Cx) : Prop where
  K : X.K = g.K
  calm : T.cold = true → X.calm = true
  hd : T.cold = true → X.A.handled = none
  N : X.N = T.N
  nd : T.N.Nodup
  vis : ∀ x, isLoc sc x = true → Vis X.env.scope x
  sto : ∀ x, isSto sc x = true → Loc X.env.scope x
  stf : ∀ x, isSto sc x = true → X.fn x = true ∨ X.env.scope.names.lookup x = some .local
  glb : ∀ x, isGlb sc x = true → L2.Gl X x
  blk : ∀ scope own, blkC T.N sc scope own = true → BlkOk T.N X.env.scope scope own
  room : L2H.RoomH (k + 1) X.A
  cons : ∀ x d, T.cons.lookup x = some d → ∃ u v, X.mg x = some u ∧ RelV v u ∧ ∀ ρ H, rep g ρ H d v
  nf : g.nf = T.fns.length
  fns : ∀ i x, T.fns[i]? = some x → X.mg x = some (.ref (g.fnA i))
  fn : ∀ i, i < T.fns.length → ∃ fd ps, PySem.W.keepIn X.K (.ref (g.fnA i)) = true ∧ Binds X.K fd ps [] ∧ FnOk X.prog X.w X.K X.mg X.base (L2N.CX X.prog X.w) k (g.fnA i) fd ps (spF g ef cf (np i) i)
  ar : ∀ i ds S, (cf i ds S).isSome = true → ds.length = np i ∧ i < T.fns.length
  pass : Passes (L2N.CX X.prog X.w) X E0
  blt : ∀ x ∈ bltFree, X.mg x = none
  gcd : X.mg "gcd" = some (.builtin "math.gcd")
  cd : CdOk g X.K X.w cds

section
variable {g : Pl} {T : TC} {cf : CF} {np : Nat → Nat} {ef : List (List Str)} {cds : Cds} {E0 : XK} {k : Nat} {sc : Scope} {X : Cx}
/-- what an expression's reading asks -/
def tS (g : Pl) (cf : CF) (ef : List (List Str)) (cds : Cds) (E0 : XK) (e : E) : TE := fun σ H Q => ∃ ρ S env, Sim g ρ S H ∧ EnvR g ρ H env σ ∧ post g ef E0 (rep g) ρ H (evE cds cf e env S) Q
def tL (g : Pl) (cf : CF) (ef : List (List Str)) (cds : Cds) (E0 : XK) (es : Es) : TA := fun σ H Q => ∃ ρ S env, Sim g ρ S H ∧ EnvR g ρ H env σ ∧ post g ef E0 (repL g) ρ H (evEs cds cf es env S) Q
theorem PE.imp {X : Cx} {e : Expr} {t t' : TE} (h : PE X e t) (i : ∀ σ H Q, t' σ H Q → t σ H Q) : PE X e t' := ⟨fun pins s σ H Q I hw => h.run pins s σ H Q I (i _ _ _ hw)⟩
theorem PT.imp {X : Cx} {e : Expr} {t t' : TT} (h : PT X e t) (i : ∀ σ H Q, t' σ H Q → t σ H Q) : PT X e t' := ⟨fun pins s σ H Q I hw => h.run pins s σ H Q I (i _ _ _ hw)⟩
theorem PW.imp {X : Cx} {e : Expr} {t t' : TT} (h : PW X e t) (i : ∀ σ H Q, t' σ H Q → t σ H Q) : PW X e t' := ⟨fun wh pins s σ H Q I hw => h.run wh pins s σ H Q I (i _ _ _ hw)⟩
theorem PA.imp {X : Cx} {e : List Expr} {t t' : TA} (h : PA X e t) (i : ∀ σ H Q, t' σ H Q → t σ H Q) : PA X e t' := ⟨fun pos pins s σ H Q I hw => h.run pos pins s σ H Q I (i _ _ _ hw)⟩
theorem PE.no {X : Cx} {e : Expr} {t : TE} (h : ∀ σ H Q, ¬ t σ H Q) : PE X e t := ⟨fun _ _ _ _ _ _ hw => absurd hw (h _ _ _)⟩
theorem PT.no {X : Cx} {e : Expr} {t : TT} (h : ∀ σ H Q, ¬ t σ H Q) : PT X e t := ⟨fun _ _ _ _ _ _ hw => absurd hw (h _ _ _)⟩
theorem tS_bad (σ : L2.St) (H : Hp) (Q : VK) : ¬ tS g cf ef cds E0 .bad σ H Q := fun ⟨ρ, S, env, s, e, p⟩ => by
  simp only [evE, post] at p
/-- first a, then what follows -/
theorem tS_bind {a : E} {env : Env} {ρ : List Addr} {S : Sto} {H : Hp} {σ : L2.St} {f : D → Sto → O D} {Q : VK} {R : V → Hp → Prop} (s : Sim g ρ S H) (e : EnvR g ρ H env σ) (p : post g ef E0 (rep g) ρ H ((evE cds cf a env S).bind f) Q)
    (k : ∀ v H1 d S1 ρ1, Sim g ρ1 S1 H1 → EnvR g ρ1 H1 env σ → Le ρ H ρ1 H1 → rep g ρ1 H1 d v → post g ef E0 (rep g) ρ1 H1 (f d S1) Q → R v H1) : tS g cf ef cds E0 a σ H R :=
  ⟨ρ, S, env, s, e, post_mono (post_bind (Ra := rep g) s p) fun v H1 ⟨d, S1, ρ1, x, s1, r, p1⟩ => k v H1 d S1 ρ1 s1 (e.le (x.le s)) (x.le s) r p1⟩
theorem tL_bind {es : Es} {env : Env} {ρ : List Addr} {S : Sto} {H : Hp} {σ : L2.St} {f : List D → Sto → O D} {Q : VK} {R : List V → Hp → Prop} (s : Sim g ρ S H) (e : EnvR g ρ H env σ) (p : post g ef E0 (rep g) ρ H ((evEs cds cf es env S).bind f) Q)
    (k : ∀ vs H1 ds S1 ρ1, Sim g ρ1 S1 H1 → EnvR g ρ1 H1 env σ → Le ρ H ρ1 H1 → repL g ρ1 H1 ds vs → post g ef E0 (rep g) ρ1 H1 (f ds S1) Q → R vs H1) : tL g cf ef cds E0 es σ H R :=
  ⟨ρ, S, env, s, e, post_mono (post_bind (Ra := repL g) s p) fun v H1 ⟨d, S1, ρ1, x, s1, r, p1⟩ => k v H1 d S1 ρ1 s1 (e.le (x.le s)) (x.le s) r p1⟩

/-! ### names -/
theorem ixOf_get {l : List Str} {x : Str} {i : Nat} (h : ixOf l x = some i) : l[i]? = some x := by
  induction l generalizing i with
  | nil => simp [ixOf] at h
  | cons y r ih =>
    simp only [ixOf] at h
    split at h
    · cases h
      rename_i e
      rw [e]
      rfl
    · cases q : ixOf r x with
      | none => rw [q] at h; cases h
      | some j =>
        rw [q] at h
        cases h
        simpa using ih q
theorem odd_of {x : Str} (h : odd x = false) : (x == ("__debug__" : Str)) = false ∧ (x == ("__classdict__" : Str)) = false ∧ x ≠ "__name__" := by
  unfold odd at h
  simp only [Bool.or_eq_false_iff] at h
  exact ⟨h.1.1, h.1.2, fun e => by
    have z := h.2
    rw [e] at z
    simp at z⟩
theorem varOf_of {N : List Str} {sc : Scope} {x : Str} {i : Nat} (h : varOf N sc x = some i) : N[i]? = some x ∧ isLoc sc x = true ∧ odd x = false := by
  unfold varOf at h
  split at h
  · rename_i c
    simp only [Bool.and_eq_true, Bool.not_eq_true'] at c
    exact ⟨ixOf_get h, c.1, c.2⟩
  · cases h
theorem stoOf_of {N : List Str} {sc : Scope} {x : Str} {i : Nat} (h : stoOf N sc x = some i) : N[i]? = some x ∧ isSto sc x = true ∧ odd x = false := by
  unfold stoOf at h
  split at h
  · rename_i c
    simp only [Bool.and_eq_true, Bool.not_eq_true'] at c
    exact ⟨ixOf_get h, c.1, c.2⟩
  · cases h
theorem s_name (C : Ct g T cf np ef cds E0 k sc X) (x : Str) (pos : Pos) : PE X (.Name x pos) (tS g cf ef cds E0 (trName T sc x)) := by
  unfold trName
  split
  · rename_i i hi
    obtain ⟨h1, h2, h3⟩ := varOf_of hi
    obtain ⟨o1, o2, _⟩ := odd_of h3
    refine PE.imp (pe_var (i := i) (by rw [C.N]; exact h1) (C.vis _ h2) o1 o2) ?_
    rintro σ H Q ⟨ρ, S, env, s, e, p⟩
    simp only [evE] at p
    split at p
    · rename_i d hd
      obtain ⟨v, hv, rv⟩ := e.at_ i d hd
      exact ⟨v, hv, post_ok p s rv⟩
    · exact p.elim
  · split
    · rename_i hc
      simp only [Bool.and_eq_true, Bool.not_eq_true'] at hc
      obtain ⟨o1, o2, _⟩ := odd_of hc.2
      split
      · rename_i d hd
        obtain ⟨u, v, hm, r, rv⟩ := C.cons _ _ hd
        refine PE.imp (pe_glob (C.glb _ hc.1) hm r o1) ?_
        rintro σ H Q ⟨ρ, S, env, s, e, p⟩
        simp only [evE] at p
        exact post_ok p s (rv ρ H)
      · exact PE.no tS_bad
    · exact PE.no tS_bad
theorem s_cst {c : Const} {d : D} (hc : trC c = some d) {j : Nat} {pos : Pos} : PE X (.Constant c j pos) (tS g cf ef cds E0 (.cst d)) := by
  cases c with
  | none =>
    cases hc
    refine PE.imp pe_non ?_
    rintro σ H Q ⟨ρ, S, env, s, e, p⟩
    simp only [evE] at p
    exact post_ok p s (by simp only [rep])
  | bool b =>
    cases hc
    refine PE.imp pe_bl ?_
    rintro σ H Q ⟨ρ, S, env, s, e, p⟩
    simp only [evE] at p
    exact post_ok p s (by simp only [rep])
  | int b =>
    cases hc
    refine PE.imp pe_int ?_
    rintro σ H Q ⟨ρ, S, env, s, e, p⟩
    simp only [evE] at p
    exact post_ok p s (by simp only [rep])
  | str b =>
    cases hc
    refine PE.imp pe_str ?_
    rintro σ H Q ⟨ρ, S, env, s, e, p⟩
    simp only [evE] at p
    exact post_ok p s (by simp only [rep]; rfl)
  | float _ => cases hc
  | complex _ _ => cases hc
  | bytes _ => cases hc
  | ellipsis => cases hc

/-! ### argument lists, displays -/
theorem star_of {e : Expr} (h : isStar e = false) (es : List Expr) (env : PySem.Env) : starEach (e :: es) env = (false, eval e env) :: starEach es env := by
  cases e <;> first | rfl | cases h
theorem s_list {f : Expr → E} (C : Ct g T cf np ef cds E0 k sc X) (ih : ∀ e, PE X e (tS g cf ef cds E0 (f e))) : ∀ es : List Expr, PA X es (tL g cf ef cds E0 (trL f es))
  | [] => PA.imp pa_nil (by
    rintro σ H Q ⟨ρ, S, env, s, e, p⟩
    simp only [trL, evEs] at p
    exact post_ok p s (by simp only [repL]))
  | e :: es => by
    cases hs : isStar e with
    | true =>
      refine ⟨fun pos pins s σ H Q I hw => ?_⟩
      obtain ⟨ρ, S, env, s, e, p⟩ := hw
      simp only [trL, hs, if_true, evEs, evE, O.bind, post] at p
    | false =>
      refine PA.imp (pa_cons (ih e) (s_list C ih es) (star_of hs es _)) ?_
      rintro σ H Q ⟨ρ, S, env, s, e, p⟩
      simp only [trL, hs, Bool.false_eq_true, if_false, evEs] at p
      refine ⟨ρ, S, env, s, e, post_mono (post_bind (Ra := rep g) s p) ?_⟩
      rintro v H1 ⟨d, S1, ρ1, x, s1, r, p1⟩
      refine ⟨ρ1, S1, env, s1, e.le (x.le s), post_mono (post_bind (Ra := repL g) s1 p1) ?_⟩
      rintro vs H2 ⟨ds, S2, ρ2, x2, s2, r2, p2⟩
      exact post_ok p2 s2 (by
        simp only [repL]
        exact ⟨v, vs, rfl, rep_le (x2.le s1) _ _ r, r2⟩)
theorem star_back : ∀ {es : List Expr} (pos : Pos) (env : PySem.Env), es.any isStar = false → (backTo pos (starEach es env)).any (·.1) = false
  | [], pos, env, _ => rfl
  | e :: es, pos, env, h => by
    simp only [List.any_cons, Bool.or_eq_false_iff] at h
    rw [star_of h.1]
    have ih := star_back (es := es) pos env h.2
    unfold backTo at ih ⊢
    rw [List.map_cons, List.any_cons, ih]
    rfl
/-! ### a comprehension's block -/
theorem relabel_look (env : PySem.Env) (x : Str) : ∀ (names : List (Str × NameKind)) (kd : NameKind), names.lookup x = some kd →
    ∃ kd', (names.map fun (n, k) => if (k == NameKind.free && env.scope.kind == .function && env.kindOf n == some .cell) then (n, NameKind.cell) else (n, k)).lookup x = some kd' ∧ (kd' = kd ∨ (kd = .free ∧ kd' = .cell))
  | [], _, h => by simp at h
  | (n, k) :: r, kd, h => by
    have ih := relabel_look env x r kd
    show ∃ kd', List.lookup x ((if (k == NameKind.free && env.scope.kind == .function && env.kindOf n == some .cell) = true then (n, NameKind.cell) else (n, k)) :: _) = some kd' ∧ _
    cases hx : x == n with
    | true =>
      simp only [List.lookup_cons, hx] at h
      cases h
      by_cases hc : (k == NameKind.free && env.scope.kind == .function && env.kindOf n == some .cell) = true
      · rw [if_pos hc]
        simp only [List.lookup_cons, hx]
        simp only [Bool.and_eq_true, beq_iff_eq] at hc
        exact ⟨.cell, rfl, .inr ⟨hc.1.1, rfl⟩⟩
      · rw [if_neg hc]
        simp only [List.lookup_cons, hx]
        exact ⟨k, rfl, .inl rfl⟩
    | false =>
      simp only [List.lookup_cons, hx] at h
      obtain ⟨kd', h1, h2⟩ := ih h
      refine ⟨kd', ?_, h2⟩
      by_cases hc : (k == NameKind.free && env.scope.kind == .function && env.kindOf n == some .cell) = true
      · rw [if_pos hc]; simp only [List.lookup_cons, hx]; exact h1
      · rw [if_neg hc]; simp only [List.lookup_cons, hx]; exact h1
theorem relabel_get {scope : Scope} (env : PySem.Env) {x : Str} {kd : NameKind} (h : scope.names.lookup x = some kd) : ∃ kd', (relabel scope env).names.lookup x = some kd' ∧ (kd' = kd ∨ (kd = .free ∧ kd' = .cell)) := relabel_look env x _ _ h
theorem Ct.comp (C : Ct g T cf np ef cds E0 k sc X) (scope : Scope) (s : Shared) (H : Hp) (c : Addr) (cl : List (Str × Addr)) (fp : List Addr) : Ct g T cf np ef cds (fun _ _ _ => False) k scope (X.blk s H scope (compEnvC scope cl c X.env) fp) where
  K := C.K
  calm := C.calm
  hd := C.hd
  N := C.N
  nd := C.nd
  vis := fun x h => by
    unfold isLoc at h
    show (relabel scope X.env).names.lookup x = _ ∨ (relabel scope X.env).names.lookup x = _ ∨ (relabel scope X.env).names.lookup x = _
    split at h
    · rename_i e
      obtain ⟨kd, e1, e2 | e2⟩ := relabel_get X.env e
      · subst e2; exact .inl e1
      · cases e2.1
    · rename_i e
      obtain ⟨kd, e1, e2 | e2⟩ := relabel_get X.env e
      · subst e2; exact .inr (.inl e1)
      · cases e2.1
    · rename_i e
      obtain ⟨kd, e1, e2 | e2⟩ := relabel_get X.env e
      · subst e2; exact .inr (.inr e1)
      · rw [e2.2] at e1; exact .inr (.inl e1)
    · cases h
  sto := fun x h => by
    unfold isSto at h
    show (relabel scope X.env).names.lookup x = _ ∨ (relabel scope X.env).names.lookup x = _
    split at h
    · rename_i e
      obtain ⟨kd, e1, e2 | e2⟩ := relabel_get X.env e
      · subst e2; exact .inl e1
      · cases e2.1
    · rename_i e
      obtain ⟨kd, e1, e2 | e2⟩ := relabel_get X.env e
      · subst e2; exact .inr e1
      · cases e2.1
    · cases h
  stf := fun x h => by
    unfold isSto at h
    show (scope.names.lookup x == some .cell) = true ∨ (relabel scope X.env).names.lookup x = _
    split at h
    · rename_i e
      obtain ⟨kd, e1, e2 | e2⟩ := relabel_get X.env e
      · subst e2; exact .inr e1
      · cases e2.1
    · rename_i e
      rw [e]
      exact .inl rfl
    · cases h
  glb := fun x h => by
    unfold isGlb at h
    show (relabel scope X.env).names.lookup x = _
    split at h
    · rename_i e
      obtain ⟨kd, e1, e2 | e2⟩ := relabel_get X.env e
      · subst e2; exact e1
      · cases e2.1
    · cases h
  blk := fun scope' own h => by
    have b := blkOk_by h
    refine ⟨b.kind, b.uniq, b.ix, fun y hy e => ?_, b.own⟩
    show (relabel scope X.env).names.lookup y.1 = _ ∨ (relabel scope X.env).names.lookup y.1 = _
    rcases b.free y hy e with e | e
    · obtain ⟨kd, e1, e2 | e2⟩ := relabel_get X.env e
      · subst e2; exact .inl e1
      · cases e2.1
    · obtain ⟨kd, e1, e2 | e2⟩ := relabel_get X.env e
      · subst e2; exact .inr e1
      · rw [e2.2] at e1; exact .inl e1
  room := C.room
  cons := C.cons
  nf := C.nf
  fns := C.fns
  fn := C.fn
  ar := C.ar
  pass := fun _ _ _ _ _ _ _ ⟨_, _, _, _, _, _, _, _, _, _, _, _, h⟩ => h.elim
  blt := C.blt
  gcd := C.gcd
  cd := C.cd
end
end Ev
end
section
set_option Elab.async false
set_option linter.all false
set_option maxRecDepth 100000
set_option autoImplicit false
/-! What the evaluator's operators answer is what the machine does. -/
namespace Ev
open PySem PySem.Spec PyProof.Rows L2

section
variable {g : Pl} {ef : List (List Str)} {E0 : XK} {ρ : List Addr} {H : Hp} {S : Sto} {Q : VK} {cds : Cds}
/-! ### new things -/
theorem small_le {n : Nat} (h : small n = true) : n ≤ 1000000 := Nat.le_of_ble_eq_true h
theorem small_sz {n : Nat} (h : small n = true) : n ≤ sizeLine := Nat.le_trans (small_le h) (by decide)
theorem small_lt {n : Nat} (h : small n = true) : n < sizeLine := Nat.lt_of_le_of_lt (small_le h) (by decide)
theorem rep_sub {ρ' : List Addr} {H' : Hp} (s : Sim g ρ S H) (x : Ext ρ H ρ' H') {d : D} {v : V} (r : rep g ρ H d v) : rep g ρ' H' d v := rep_le (x.le s) d v r
theorem new_lst (s : Sim g ρ S H) {xs : List D} {vs : List V} (r : repL g ρ H xs vs) (p : post g ef E0 (rep g) ρ H (pr (some (new (.lst xs) S))) Q) : ∀ q, H q = none → Q (.ref q) (upd H q (.lst vs)) := fun q hq => by
  obtain ⟨s', x⟩ := s.new hq (o := .lst xs) (u := .lst vs) ⟨vs, rfl, r⟩
  exact p _ _ _ x s' (by
    simp only [rep]
    exact ⟨q, by rw [← s.len]; simp, rfl⟩)
theorem new_dK (s : Sim g ρ S H) (p : post g ef E0 (rep g) ρ H (pr (some (new (.dK []) S))) Q) : ∀ q, H q = none → Q (.ref q) (upd H q (.dK [])) := fun q hq => by
  obtain ⟨s', x⟩ := s.new hq (o := .dK []) (u := .dK []) ⟨[], rfl, by simp only [repK]⟩
  exact p _ _ _ x s' (by
    simp only [rep]
    exact ⟨q, by rw [← s.len]; simp, rfl⟩)
theorem new_tup (s : Sim g ρ S H) {xs : List D} {vs : List V} (r : repL g ρ H xs vs) (p : post g ef E0 (rep g) ρ H (ok (.tup xs) S) Q) : ∀ q, H q = none → Q (.ref q) (upd H q (.tup vs)) := fun q hq => by
  obtain ⟨s', x⟩ := s.side (u := .tup vs) hq
  exact p _ _ _ x s' (by
    simp only [rep]
    exact ⟨q, vs, rfl, upd_same, repL_le (x.le s) _ _ r⟩)
theorem nf_lst {a : Addr} {vs : List V} (h : H a = some (.lst vs)) : ∀ o' u', H a ≠ some (.frz o' u') := fun o' u' e => by rw [h] at e; cases e
theorem nf_dK {a : Addr} {vs : List (L2.Key × V)} (h : H a = some (.dK vs)) : ∀ o' u', H a ≠ some (.frz o' u') := fun o' u' e => by rw [h] at e; cases e
theorem nf_dT {a : Addr} {vs : List (List L2.Key × V)} (h : H a = some (.dT vs)) : ∀ o' u', H a ≠ some (.frz o' u') := fun o' u' e => by rw [h] at e; cases e
theorem put_ob (s : Sim g ρ S H) {n : Nat} {a : Addr} {o : Ob} {u : HO} (e : ρ[n]? = some a) (r : obR g ρ H o u) (hf : ∀ o' u', H a ≠ some (.frz o' u')) {β γ : Type} {Rl : List Addr → Hp → β → γ → Prop} {d : β} {v : γ} {Q : γ → Hp → Prop} (p : post g ef E0 Rl ρ H (ok d (S.set n o)) Q) (rd : ∀ H', Le ρ H ρ H' → Rl ρ H' d v) : Q v (upd H a u) := by
  obtain ⟨s', x⟩ := s.write e r hf
  exact p _ _ _ x s' (rd _ (x.le s))
theorem rep_lst {n : Nat} {xs : List D} {v : V} (s : Sim g ρ S H) (hs : S[n]? = some (.lst xs)) (h : rep g ρ H (.ref n) v) : ∃ a vs, ρ[n]? = some a ∧ v = .ref a ∧ H a = some (.lst vs) ∧ repL g ρ H xs vs := by
  simp only [rep] at h
  obtain ⟨a, e, rfl⟩ := h
  obtain ⟨u, hu, r⟩ := s.at hs e
  obtain ⟨vs, rfl, r⟩ := r
  exact ⟨a, vs, e, rfl, hu, r⟩
theorem rep_obj {n : Nat} {o : Ob} {v : V} (s : Sim g ρ S H) (hs : S[n]? = some o) (h : rep g ρ H (.ref n) v) : ∃ a u, ρ[n]? = some a ∧ v = .ref a ∧ H a = some u ∧ obR g ρ H o u := by
  simp only [rep] at h
  obtain ⟨a, e, rfl⟩ := h
  obtain ⟨u, hu, r⟩ := s.at hs e
  exact ⟨a, u, e, rfl, hu, r⟩
theorem sqT {a : Addr} {vs : List V} (h : H a = some (.tup vs)) : SqT g.K H a vs := .inl (.inl h)
theorem sqL {a : Addr} {vs : List V} (h : H a = some (.lst vs)) : SqL g.K H a vs := .inl (.inl h)
theorem rep_frz {t : Bool} {xs : List D} {v : V} (h : rep g ρ H (.frz t xs) v) : ∃ a vs, v = .ref a ∧ (if t then SqT g.K H a vs else SqL g.K H a vs) ∧ repL g ρ H xs vs := by
  simp only [rep] at h
  obtain ⟨a, vs, e, f, r⟩ := h
  refine ⟨a, vs, e, ?_, r⟩
  cases t with
  | true => exact FzT.sq f
  | false => exact FzL.sq f
theorem mkS_app (x y : Txt) : mkS x ++ mkS y = mkS (x ++ y) := by
  show Str.mk _ = Str.mk _
  simp [mkS]
theorem mkS_len (x : Txt) : (mkS x).length = x.length := by
  show (mkS x).cps.size = _
  simp [mkS]

/-! ### binary operators -/
def opN : BOp → Operator
  | .add => .Add | .sub => .Sub | .mul => .Mult | .fdiv => .FloorDiv | .mod => .Mod | .pow => .Pow
def binR (K : PySem.W.Frag) : BOp → R2
  | .add => fun x y H Q => rI0 (fun i j => .int (i + j)) x y H Q ∨ (∃ i j, x = .str i ∧ y = .str j ∧ i.length + j.length ≤ sizeLine ∧ Q (.str (i ++ j)) H) ∨ rCatA K x y H Q ∨ rCat x y H Q
  | .sub => rI0 fun i j => .int (i - j)
  | .mul => rI CMul fun i j => .int (i * j)
  | .fdiv => rI CDiv fun i j => .int (i / j)
  | .mod => rI (fun _ j => 0 < j) fun i j => .int (i % j)
  | .pow => rI CPow fun i j => .int (i ^ j.toNat)
theorem op_bin {X : Cx} : ∀ op : BOp, OpR X (binaryOp (opN op)) (binR X.K op)
  | .add => op_add.or (op_add_str.or (op_catA.or op_cat))
  | .sub => op_sub
  | .mul => op_mul
  | .fdiv => op_fdiv
  | .mod => op_mod
  | .pow => op_pow
theorem big_abs {i : Int} (h : Nat.blt i.natAbs big = true) : -(2 ^ 64) < i ∧ i < 2 ^ 64 := by
  have h := Nat.le_of_ble_eq_true h
  have hb : big = 2 ^ 64 := by decide
  rw [hb] at h
  omega
theorem bin_sound {op : BOp} {x y : D} {v w : V} (s : Sim g ρ S H) (hx : rep g ρ H x v) (hy : rep g ρ H y w) (p : post g ef E0 (rep g) ρ H (pr (binF op x y S)) Q) : binR g.K op v w H Q := by
  unfold binF at p
  split at p
  · simp only [rep] at hx hy
    subst hx; subst hy
    exact .inl ⟨_, _, rfl, rfl, post_ok p s (by simp only [rep])⟩
  · split at p
    · rename_i hs
      simp only [rep] at hx hy
      subst hx; subst hy
      exact .inr (.inl ⟨_, _, rfl, rfl, by rw [mkS_len, mkS_len]; exact small_sz hs, post_ok p s (by simp only [rep, mkS_app])⟩)
    · exact p.elim
  · rename_i _ x xs ys
    split at p
    · rename_i hs
      have hx' := hx
      have hy' := hy
      simp only [rep] at hx hy
      obtain ⟨a, vs, rfl, ha, ra⟩ := hx
      obtain ⟨b, ws, rfl, hb, rb⟩ := hy
      have l1 := repL_length ra
      have l2 := repL_length rb
      refine .inr (.inr (.inl ⟨a, b, vs, ws, rfl, rfl, sqT ha, sqT hb, ?_, ?_, ?_, ?_⟩))
      · have h := small_le hs
        rw [l1, l2, List.length_cons]
        exact Nat.le_trans (show xs.length + 1 + ys.length ≤ 1000001 by omega) (by decide)
      · intro hv
        rw [hv] at l1
        simp at l1
      · intro _ hw
        have e : ys = [] := by
          rw [hw] at l2
          exact List.length_eq_zero_iff.mp l2.symm
        subst e
        rw [List.append_nil] at p
        exact post_ok p s hx'
      · exact fun _ _ => new_tup s (repL_append ra rb) p
    · exact p.elim
  · rename_i a b _
    split at p
    · rename_i xs ys e1 e2
      split at p
      · rename_i hs
        obtain ⟨a, vs, _, rfl, ha, ra⟩ := rep_lst s e1 hx
        obtain ⟨b, ws, _, rfl, hb, rb⟩ := rep_lst s e2 hy
        refine .inr (.inr (.inr ⟨a, b, vs, ws, rfl, rfl, ha, hb, ?_, ?_⟩))
        · rw [repL_length ra, repL_length rb]
          exact small_sz hs
        · exact new_lst s (repL_append ra rb) p
      · exact p.elim
    · exact p.elim
  · simp only [rep] at hx hy
    subst hx; subst hy
    exact ⟨_, _, rfl, rfl, post_ok p s (by simp only [rep])⟩
  · split at p
    · rename_i hs
      simp only [rep] at hx hy
      subst hx; subst hy
      refine ⟨_, _, rfl, rfl, ?_, post_ok p s (by simp only [rep])⟩
      simp only [Bool.or_eq_true] at hs
      exact hs.imp big_abs big_abs
    · exact p.elim
  · split at p
    · rename_i hs
      simp only [rep] at hx hy
      subst hx; subst hy
      exact ⟨_, _, rfl, rfl, hs, post_ok p s (by simp only [rep])⟩
    · exact p.elim
  · split at p
    · rename_i hs
      simp only [rep] at hx hy
      subst hx; subst hy
      exact ⟨_, _, rfl, rfl, hs, post_ok p s (by simp only [rep])⟩
    · exact p.elim
  · split at p
    · rename_i hs
      simp only [rep] at hx hy
      subst hx; subst hy
      exact ⟨_, _, rfl, rfl, ⟨hs.1, by omega, by
        have hb : big = 2 ^ 64 := by decide
        rw [← hb]
        exact hs.2.2⟩, post_ok p s (by simp only [rep])⟩
    · exact p.elim
  · exact p.elim

/-! ### data -/
mutual
theorem toP_dp {rf : Nat → Option PyData} (hr : ∀ n d v, rf n = some d → rep g ρ H (.ref n) v → Dp g.K H v d) : ∀ (x : D) (d : PyData) (v : V), x.toP rf = some d → rep g ρ H x v → Dp g.K H v d
  | .non, d, v, e, h => by
    simp only [D.toP, Option.some.injEq] at e
    simp only [rep] at h
    subst e; subst h
    exact .non
  | .bl b, d, v, e, h => by
    simp only [D.toP, Option.some.injEq] at e
    simp only [rep] at h
    subst e; subst h
    exact .bl b
  | .int b, d, v, e, h => by
    simp only [D.toP, Option.some.injEq] at e
    simp only [rep] at h
    subst e; subst h
    exact .int b
  | .str b, d, v, e, h => by
    simp only [D.toP, Option.some.injEq] at e
    simp only [rep] at h
    subst e; subst h
    exact .str _
  | .tup xs, d, v, e, h => by
    simp only [D.toP, Option.map_eq_some_iff] at e
    simp only [rep] at h
    obtain ⟨ds, e, rfl⟩ := e
    obtain ⟨a, vs, rfl, ha, r⟩ := h
    exact .tup (sqT ha) (toPL_dp hr xs ds vs e r)
  | .frz t xs, d, v, e, h => by
    simp only [D.toP, Option.map_eq_some_iff] at e
    obtain ⟨ds, e, rfl⟩ := e
    obtain ⟨a, vs, rfl, ha, r⟩ := rep_frz h
    cases t with
    | true => exact .tup ha (toPL_dp hr xs ds vs e r)
    | false => exact .lst ha (toPL_dp hr xs ds vs e r)
  | .ref n, d, v, e, h => hr n d v (by simpa only [D.toP] using e) h
  | .fn _, d, v, e, h => by simp only [D.toP, reduceCtorEq] at e
  | .cd _, d, v, e, h => by simp only [D.toP, reduceCtorEq] at e
theorem toPL_dp {rf : Nat → Option PyData} (hr : ∀ n d v, rf n = some d → rep g ρ H (.ref n) v → Dp g.K H v d) : ∀ (xs : List D) (ds : List PyData) (vs : List V), toPL rf xs = some ds → repL g ρ H xs vs → DpAll g.K H vs ds
  | [], ds, vs, e, h => by
    simp only [toPL, Option.some.injEq] at e
    simp only [repL] at h
    subst e; subst h
    exact .nil
  | x :: xs, ds, vs, e, h => by
    simp only [toPL] at e
    simp only [repL] at h
    obtain ⟨v, r, rfl, h1, h2⟩ := h
    split at e
    · rename_i d ds' e1 e2
      cases e
      exact .cons (toP_dp hr x d v e1 h1) (toPL_dp hr xs ds' r e2 h2)
    · cases e
end
theorem rfN_dp (s : Sim g ρ S H) : ∀ (m n : Nat) (d : PyData) (v : V), rfN S m n = some d → rep g ρ H (.ref n) v → Dp g.K H v d
  | 0, n, d, v, e, h => by simp only [rfN, reduceCtorEq] at e
  | m + 1, n, d, v, e, h => by
    simp only [rfN] at e
    split at e
    · rename_i xs hs
      simp only [Option.map_eq_some_iff] at e
      obtain ⟨ds, e, rfl⟩ := e
      obtain ⟨a, vs, _, rfl, ha, r⟩ := rep_lst s hs h
      exact .lst (sqL ha) (toPL_dp (rfN_dp s m) xs ds vs e r)
    · cases e
theorem toData_dp (s : Sim g ρ S H) {x : D} {d : PyData} {v : V} (e : toData S x = some d) (h : rep g ρ H x v) : Dp g.K H v d ∧ SeqAt.shaped d = true := by
  unfold toData at e
  split at e
  · rename_i p hp
    split at e
    · rename_i hs
      cases e
      exact ⟨toP_dp (rfN_dp s 4) x _ v hp h, hs⟩
    · cases e
  · cases e

/-! ### comparisons -/
def opC : COp → CmpOp
  | .eq => .Eq | .ne => .NotEq | .lt => .Lt | .le => .LtE | .gt => .Gt | .ge => .GtE | .isin => .In | .notin => .NotIn
theorem flat_V {x : D} {v : V} (hf : x.flat = true) (h : rep g ρ H x v) : flatV v = true := by
  cases x <;> simp only [D.flat, Bool.false_eq_true] at hf <;> simp only [rep] at h <;> subst h <;> rfl
theorem feq_V {x y : D} {v w : V} (hf : x.flat = true) (hf' : y.flat = true) (h : rep g ρ H x v) (h' : rep g ρ H y w) : eqV v w = feq x y := by
  cases x <;> simp only [D.flat, Bool.false_eq_true] at hf <;> cases y <;> simp only [D.flat, Bool.false_eq_true] at hf' <;> simp only [rep] at h h' <;> subst h <;> subst h' <;> first | rfl | skip
  rename_i a b
  show (mkS a == mkS b) = (a == b)
  rw [Bool.eq_iff_iff, beq_iff_eq, beq_iff_eq]
  constructor
  · intro e
    have e2 := congrArg (fun z : Str => z.cps.toList) e
    simpa [mkS] using e2
  · intro e
    rw [e]
theorem flats_V : ∀ {xs : List D} {vs : List V}, xs.all D.flat = true → repL g ρ H xs vs → vs.all flatV = true
  | [], vs, _, h => by
    simp only [repL] at h
    subst h
    rfl
  | x :: xs, vs, hf, h => by
    simp only [repL] at h
    obtain ⟨v, r, rfl, h1, h2⟩ := h
    simp only [List.all_cons, Bool.and_eq_true] at hf ⊢
    exact ⟨flat_V hf.1 h1, flats_V hf.2 h2⟩
theorem inV_V {x : D} {v : V} (hx : x.flat = true) (rx : rep g ρ H x v) : ∀ {xs : List D} {vs : List V}, xs.all D.flat = true → repL g ρ H xs vs → inV v vs = xs.any fun y => feq y x
  | [], vs, _, h => by
    simp only [repL] at h
    subst h
    rfl
  | y :: xs, vs, hf, h => by
    simp only [repL] at h
    obtain ⟨w, r, rfl, h1, h2⟩ := h
    simp only [List.all_cons, Bool.and_eq_true] at hf
    have ih := inV_V hx rx hf.2 h2
    unfold inV at ih ⊢
    rw [List.any_cons, List.any_cons, ih, feq_V hf.1 hx h1 rx]
end
end Ev
end
section
set_option Elab.async false
set_option linter.all false
set_option maxRecDepth 100000
set_option autoImplicit false
/-! Comparisons, subscripts, slices, dicts. -/
namespace Ev
open PySem PySem.Spec PyProof.Rows L2

/-! ### an empty dict is of either kind -/
theorem inv_dT {X : Cx} {pins : List (Addr × Obj)} {σ : L2.St} {H : Hp} {s : Shared} {a : Addr} (I : Inv X pins σ H s) (h : H a = some (.dK [])) : Inv X pins σ (upd H a (.dT [])) s := by
  obtain ⟨_, hd, vs, rel, o, es, ep, h1, h2, h3, h4, h5, h6⟩ := dk_of I.hok h
  cases rel
  have he : es.toList = [] := by
    cases q : es.toList with
    | nil => rfl
    | cons x r => rw [q] at h5; cases h5
  exact I.write (x := a) (e := a) (t' := s.toks) (h' := s.heap) (by rw [h]; exact trivial) (.inl rfl) (fun b v _ q => q) ⟨o, h1⟩ ⟨Nat.zero_le _, hd, [], .nil, o, es, ep, h1, h2, h3, by simpa using he, List.nodup_nil⟩
theorem inv_dK {X : Cx} {pins : List (Addr × Obj)} {σ : L2.St} {H : Hp} {s : Shared} {a : Addr} (I : Inv X pins σ H s) (h : H a = some (.dT [])) : Inv X pins σ (upd H a (.dK [])) s := by
  obtain ⟨_, hd, vs, rel, o, es, ep, h1, h2, h3, h4, _⟩ := (show ObjOk X.prog X.w H s.heap a (.dT []) from I.hok a _ h)
  cases rel
  have he : es = #[] := by simpa using h4
  subst he
  exact I.write (x := a) (e := a) (t' := s.toks) (h' := s.heap) (by rw [h]; exact trivial) (.inl rfl) (fun b v _ q => q) ⟨o, h1⟩ ⟨Nat.zero_le _, hd, [], .nil, o, #[], ep, h1, h2, h3, (fun e he => by simp at he), .nil, List.nodup_nil⟩
theorem upd_back {H : Hp} {a : Addr} {o o' : HO} (h : H a = some o) : upd (upd H a o') a o = H := by
  funext b
  by_cases e : b = a
  · subst e
    rw [upd_same, h]
  · rw [upd_ne e, upd_ne e]
theorem upd_twice {H : Hp} {a : Addr} {o o' : HO} : upd (upd H a o') a o = upd H a o := by
  funext b
  by_cases e : b = a
  · subst e
    rw [upd_same, upd_same]
  · rw [upd_ne e, upd_ne e, upd_ne e]

/-! ### keys -/
section
variable {g : Pl} {ef : List (List Str)} {E0 : XK} {ρ : List Addr} {H : Hp} {S : Sto} {Q : VK} {cds : Cds}
theorem key1_V {y : D} {k : K1} {v : V} (e : key1 y = some k) (h : rep g ρ H y v) : v = kV (kk k) := by
  cases y <;> simp only [key1, reduceCtorEq, Option.some.injEq] at e <;> subst e <;> simp only [rep] at h <;> subst h <;> rfl
theorem keyT_V : ∀ {xs : List D} {ks : List K1} {vs : List V}, keyT xs = some ks → repL g ρ H xs vs → vs = (ks.map kk).map kV
  | [], ks, vs, e, h => by
    simp only [keyT, Option.some.injEq] at e
    simp only [repL] at h
    subst e; subst h
    rfl
  | x :: xs, ks, vs, e, h => by
    simp only [keyT] at e
    simp only [repL] at h
    obtain ⟨v, r, rfl, h1, h2⟩ := h
    split at e
    · rename_i k ks' e1 e2
      cases e
      rw [List.map_cons, List.map_cons, ← key1_V e1 h1, ← keyT_V e2 h2]
    · cases e
theorem mkS_inj {x y : Txt} (e : mkS x = mkS y) : x = y := by
  have e2 := congrArg (fun z : Str => z.cps.toList) e
  simpa [mkS] using e2
theorem kk_inj {a b : K1} (e : kk a = kk b) : a = b := by
  cases a <;> cases b <;> simp only [kk, reduceCtorEq, Sum.inl.injEq, Sum.inr.injEq] at e ⊢
  · exact e
  · exact mkS_inj e
theorem kks_inj : ∀ {a b : List K1}, a.map kk = b.map kk → a = b
  | [], [], _ => rfl
  | [], _ :: _, e => by simp at e
  | _ :: _, [], e => by simp at e
  | x :: xs, y :: ys, e => by
    rw [List.map_cons, List.map_cons] at e
    injection e with e1 e2
    rw [kk_inj e1, kks_inj e2]
/-- what is there -/
theorem look_V {κ κ' : Type} [DecidableEq κ] [DecidableEq κ'] {f : κ → κ'} (hf : ∀ a b, f a = f b → a = b) (k : κ) : ∀ {kvs : List (κ × D)} {ws : List (κ' × V)}, repK g ρ H f kvs ws →
    match look kvs k with
    | none => valV ws (f k) = none
    | some d => ∃ v, valV ws (f k) = some v ∧ rep g ρ H d v
  | [], ws, h => by
    simp only [repK] at h
    subst h
    exact rfl
  | p :: r, ws, h => by
    simp only [repK] at h
    obtain ⟨w, t, rfl, h1, h2⟩ := h
    by_cases e : p.1 = k
    · have e1 : look (p :: r) k = some p.2 := by
        unfold look
        rw [List.find?_cons_of_pos (by simp [e])]
        rfl
      rw [e1]
      exact ⟨w, valV_pos (by show f p.1 = f k; rw [e]), h1⟩
    · have e1 : look (p :: r) k = look r k := by
        unfold look
        rw [List.find?_cons_of_neg (by simp [e])]
      have e2 : valV ((f p.1, w) :: t) (f k) = valV t (f k) := valV_neg (fun z => e (hf _ _ z))
      rw [e1, e2]
      exact look_V hf k h2
theorem repK_len {κ κ' : Type} {f : κ → κ'} : ∀ {kvs : List (κ × D)} {ws : List (κ' × V)}, repK g ρ H f kvs ws → ws.length = kvs.length
  | [], ws, h => by
    simp only [repK] at h
    subst h
    rfl
  | p :: r, ws, h => by
    simp only [repK] at h
    obtain ⟨w, t, rfl, h1, h2⟩ := h
    rw [List.length_cons, List.length_cons, repK_len h2]
theorem any_V {κ κ' : Type} [DecidableEq κ] [DecidableEq κ'] {f : κ → κ'} (hf : ∀ a b, f a = f b → a = b) (k : κ) : ∀ {kvs : List (κ × D)} {ws : List (κ' × V)}, repK g ρ H f kvs ws → (ws.any fun p => decide (p.1 = f k)) = (kvs.any fun p => decide (p.1 = k))
  | [], ws, h => by
    simp only [repK] at h
    subst h
    rfl
  | p :: r, ws, h => by
    simp only [repK] at h
    obtain ⟨w, t, rfl, h1, h2⟩ := h
    rw [List.any_cons, List.any_cons, any_V hf k h2]
    congr 1
    by_cases e : p.1 = k
    · simp [e]
    · have : ¬ f p.1 = f k := fun z => e (hf _ _ z)
      simp [e, this]
theorem map_V {κ κ' : Type} [DecidableEq κ] [DecidableEq κ'] {f : κ → κ'} (hf : ∀ a b, f a = f b → a = b) (k : κ) {d : D} {v : V} (rd : rep g ρ H d v) : ∀ {kvs : List (κ × D)} {ws : List (κ' × V)}, repK g ρ H f kvs ws →
    repK g ρ H f (kvs.map fun p => if p.1 = k then (p.1, d) else p) (ws.map fun p => if p.1 = f k then (p.1, v) else p)
  | [], ws, h => by
    simp only [repK] at h
    subst h
    simp only [List.map_nil, repK]
  | p :: r, ws, h => by
    simp only [repK] at h
    obtain ⟨w, t, rfl, h1, h2⟩ := h
    simp only [List.map_cons, repK]
    have ih := map_V hf k rd h2
    by_cases e : p.1 = k
    · have e2 : f p.1 = f k := by rw [e]
      rw [if_pos e, if_pos e2]
      exact ⟨v, _, rfl, rd, ih⟩
    · have e2 : ¬ f p.1 = f k := fun z => e (hf _ _ z)
      rw [if_neg e, if_neg e2]
      exact ⟨w, _, rfl, h1, ih⟩
theorem repK_snoc {κ κ' : Type} {f : κ → κ'} {k : κ} {d : D} {v : V} (rd : rep g ρ H d v) : ∀ {kvs : List (κ × D)} {ws : List (κ' × V)}, repK g ρ H f kvs ws → repK g ρ H f (kvs ++ [(k, d)]) (ws ++ [(f k, v)])
  | [], ws, h => by
    simp only [repK] at h
    subst h
    simp only [List.nil_append, repK]
    exact ⟨v, [], rfl, rd, rfl⟩
  | p :: r, ws, h => by
    simp only [repK] at h
    obtain ⟨w, t, rfl, h1, h2⟩ := h
    simp only [List.cons_append, repK]
    exact ⟨w, _, rfl, h1, repK_snoc rd h2⟩
theorem putK_V {κ κ' : Type} [DecidableEq κ] [DecidableEq κ'] {f : κ → κ'} (hf : ∀ a b, f a = f b → a = b) (k : κ) {d : D} {v : V} (rd : rep g ρ H d v) {kvs : List (κ × D)} {ws : List (κ' × V)} (h : repK g ρ H f kvs ws) : repK g ρ H f (put kvs k d) (putK ws (f k) v) := by
  unfold put putK
  rw [any_V hf k h]
  by_cases q : (kvs.any fun p => decide (p.1 = k)) = true
  · rw [if_pos q, if_pos q]
    exact map_V hf k rd h
  · rw [if_neg q, if_neg q]
    exact repK_snoc rd h

/-! ### a dict asked -/
/-- what a dict answers: the key as it stands -/
def DAsk (H : Hp) (a : Addr) (y : V) (r : Option V) : Prop := DGet H a y r ∨ (r = none ∧ H a = some (.dK []) ∧ ∃ (b : Addr) (k : List L2.Key), y = .ref b ∧ H b = some (.tup (k.map kV)))
def DAns (g : Pl) (ρ : List Addr) (H : Hp) (a : Addr) (w : V) : Option D → Prop
  | none => DAsk H a w none
  | some d => ∃ z, DGet H a w (some z) ∧ rep g ρ H d z
theorem dget_V {n : Nat} {o : Ob} {y : D} {v w : V} {r : Option D} (s : Sim g ρ S H) (hs : S[n]? = some o) (hv : rep g ρ H (.ref n) v) (hy : rep g ρ H y w) (e : dget o y = some r) :
    ∃ a, v = .ref a ∧ DAns g ρ H a w r := by
  obtain ⟨a, u, _, rfl, ha, ru⟩ := rep_obj s hs hv
  refine ⟨a, rfl, ?_⟩
  unfold dget at e
  split at e
  · rename_i kvs xs
    split at e
    · rename_i hk
      obtain ⟨ks, hks, rfl⟩ := Option.map_eq_some_iff.mp e
      simp only [rep] at hy
      obtain ⟨b, vs, rfl, hb, rb⟩ := hy
      have hk2 : kvs = [] := by simpa using hk
      subst hk2
      obtain ⟨ws, rfl, rw'⟩ := ru
      simp only [repK] at rw'
      subst rw'
      exact .inr ⟨rfl, ha, b, ks.map kk, rfl, by rw [hb, keyT_V hks rb]⟩
    · cases e
  · rename_i kvs y _
    obtain ⟨k, hk, rfl⟩ := Option.map_eq_some_iff.mp e
    obtain ⟨ws, rfl, rw'⟩ := ru
    have ey := key1_V hk hy
    have q := look_V (f := kk) (fun _ _ => kk_inj) k rw'
    split at q
    · rename_i e1
      rw [e1, ey]
      have := DGet.k (k := kk k) ha
      rw [q] at this
      exact .inl this
    · rename_i d e1
      rw [e1, ey]
      obtain ⟨z, hz, rz⟩ := q
      have := DGet.k (k := kk k) ha
      rw [hz] at this
      exact ⟨z, this, rz⟩
  · rename_i kvs xs
    obtain ⟨k, hk, rfl⟩ := Option.map_eq_some_iff.mp e
    obtain ⟨ws, rfl, rw'⟩ := ru
    simp only [rep] at hy
    obtain ⟨b, vs, rfl, hb, rb⟩ := hy
    have hb' : H b = some (.tup ((k.map kk).map kV)) := by rw [hb, keyT_V hk rb]
    have q := look_V (f := List.map kk) (fun _ _ => kks_inj) k rw'
    split at q
    · rename_i e1
      rw [e1]
      have := DGet.t ha hb'
      rw [q] at this
      exact .inl this
    · rename_i d e1
      rw [e1]
      obtain ⟨z, hz, rz⟩ := q
      have := DGet.t ha hb'
      rw [hz] at this
      exact ⟨z, this, rz⟩
  · cases e
end
section
variable {X : Cx}
theorem d_in2 {pins : List (Addr × Obj)} {σ : L2.St} {H : Hp} {s : Shared} {a : Addr} {y : V} {u : Value} {o : Option V} {E : Value → Shared → Prop} {A : Around} {Q : Value → Shared → Prop} (hu : A.units + 1 < cLine) (I : Inv X pins σ H s) (q : DAsk H a y o) (ry : L2.RelV y u) (h : ∀ s', Inv X pins σ H s' → Q (.bool o.isSome) s') :
    wpAny (model X.prog X.w) A (compareOp .In u (.ref a)) Q E s := by
  rcases q with q | ⟨rfl, ha, b, k, rfl, hb⟩
  · exact d_in hu I q ry h
  · have hne : b ≠ a := fun e => by rw [e, ha] at hb; cases hb
    have q : DGet (upd H a (.dT [])) a (.ref b) (valV [] k) := DGet.t upd_same (by rw [upd_ne hne]; exact hb)
    exact d_in hu (inv_dT I ha) q ry fun s' I' => h s' (by
      have := inv_dK I' upd_same
      rw [upd_back ha] at this
      exact this)
theorem d_notIn2 {pins : List (Addr × Obj)} {σ : L2.St} {H : Hp} {s : Shared} {a : Addr} {y : V} {u : Value} {o : Option V} {E : Value → Shared → Prop} {A : Around} {Q : Value → Shared → Prop} (hu : A.units + 1 < cLine) (I : Inv X pins σ H s) (q : DAsk H a y o) (ry : L2.RelV y u) (h : ∀ s', Inv X pins σ H s' → Q (.bool (!o.isSome)) s') :
    wpAny (model X.prog X.w) A (compareOp .NotIn u (.ref a)) Q E s := by
  rcases q with q | ⟨rfl, ha, b, k, rfl, hb⟩
  · exact d_notIn hu I q ry h
  · have hne : b ≠ a := fun e => by rw [e, ha] at hb; cases hb
    have q : DGet (upd H a (.dT [])) a (.ref b) (valV [] k) := DGet.t upd_same (by rw [upd_ne hne]; exact hb)
    exact d_notIn hu (inv_dT I ha) q ry fun s' I' => h s' (by
      have := inv_dK I' upd_same
      rw [upd_back ha] at this
      exact this)
def rDin (ng : Bool) : R2 := fun x y H Q => ∃ a o, y = .ref a ∧ DAsk H a x o ∧ Q (.bl (if ng then !o.isSome else o.isSome)) H
theorem op_din (hu : X.A.units + 1 < cLine) : OpR X (compareOp .In) (rDin false) := by
  intro pins s σ H x y v u Q I rx ry h
  obtain ⟨a, o, rfl, g, q⟩ := h
  obtain rfl : u = Value.ref a := ry
  exact d_in2 hu I g rx fun s3 I3 => ⟨.bl o.isSome, H, I3, rfl, q⟩
theorem op_dnotin (hu : X.A.units + 1 < cLine) : OpR X (compareOp .NotIn) (rDin true) := by
  intro pins s σ H x y v u Q I rx ry h
  obtain ⟨a, o, rfl, g, q⟩ := h
  obtain rfl : u = Value.ref a := ry
  exact d_notIn2 hu I g rx fun s3 I3 => ⟨.bl (!o.isSome), H, I3, rfl, q⟩
/-- a written dict -/
def rKin (K : PySem.W.Frag) (w : World) (ng : Bool) : R2 := fun x y H Q => ∃ d es n z r, KDict K w d es n ∧ x = .str z ∧ y = .ref d ∧ PySem.W.nsIn K d z = some r ∧ Q (.bl (if ng then !r.isSome else r.isSome)) H
theorem op_kin : OpR X (compareOp .In) (rKin X.K X.w false) := by
  intro pins s σ H x y v u Q I rx ry h
  obtain ⟨d, es, n, z, r, D, ex, ey, e, q⟩ := h
  exact op_in_kd D pins s σ H x y v u Q I rx ry ⟨z, r, ex, ey, e, q⟩
theorem op_knotin : OpR X (compareOp .NotIn) (rKin X.K X.w true) := by
  intro pins s σ H x y v u Q I rx ry h
  obtain ⟨d, es, n, z, r, D, ex, ey, e, q⟩ := h
  exact op_notIn_kd D pins s σ H x y v u Q I rx ry ⟨z, r, ex, ey, e, q⟩
def rSign (ng : Bool) : R2 := fun x y H Q => ∃ (c : Nat) (z : Str), x = .str ⟨#[c]⟩ ∧ y = .str z ∧ Q (.bl (if ng then !decide (c ∈ z.cps.toList) else decide (c ∈ z.cps.toList))) H
def rDeep (K : PySem.W.Frag) (ng : Bool) : R2 := fun x y H Q => ∃ d ds, Dp K H x d ∧ Dp K H y (.list ds) ∧ SeqAt.shaped d = true ∧ SeqAt.shaped (.list ds) = true ∧ Q (.bl (if ng then !ds.any fun z => PyData.eqv z d else ds.any fun z => PyData.eqv z d)) H
def inR (K : PySem.W.Frag) (w : World) (ng : Bool) : R2 := fun x y H Q => rSign ng x y H Q ∨ rIn K ng x y H Q ∨ rDeep K ng x y H Q ∨ rDin ng x y H Q ∨ rKin K w ng x y H Q
theorem op_in (hu : X.A.units + 65 < cLine) : OpR X (compareOp .In) (inR X.K X.w false) :=
  OpR.or (r := rSign false) op_in_sign (op_in_seq.or (OpR.or (r := rDeep X.K false) (op_inD hu) ((op_din (by omega)).or op_kin)))
theorem op_notin (hu : X.A.units + 65 < cLine) : OpR X (compareOp .NotIn) (inR X.K X.w true) :=
  OpR.or (r := rSign true) op_notIn_sign (op_notIn_seq.or (OpR.or (r := rDeep X.K true) (op_notInD hu) ((op_dnotin (by omega)).or op_knotin)))
end

section
variable {g : Pl} {ef : List (List Str)} {E0 : XK} {ρ : List Addr} {H : Hp} {S : Sto} {Q : VK} {cds : Cds}
theorem any_mem (y : Txt) (c : Nat) : (y.any fun z => decide (z = c)) = decide (c ∈ (mkS y).cps.toList) := by
  rw [Bool.eq_iff_iff, List.any_eq_true, decide_eq_true_iff]
  have e : (mkS y).cps.toList = y := by simp [mkS]
  rw [e]
  constructor
  · rintro ⟨z, hz, h⟩
    rw [← of_decide_eq_true h]
    exact hz
  · intro h
    exact ⟨c, h, by simp⟩
theorem in_sound {K : PySem.W.Frag} (hK : K = g.K) {W : World} (hcd : CdOk g K W cds) {x y : D} {v w : V} {b ng : Bool} (s : Sim g ρ S H) (hx : rep g ρ H x v) (hy : rep g ρ H y w) (e : inF cds x y S = some b) (q : Q (.bl (if ng then !b else b)) H) : inR K W ng v w H Q := by
  subst hK
  unfold inF at e
  split at e
  · rename_i y'
    split at e
    · rename_i c
      split at e
      · cases e
        simp only [rep] at hx hy
        subst hx; subst hy
        rw [any_mem] at q
        exact .inl ⟨c, mkS y', rfl, rfl, q⟩
      · cases e
    · cases e
  · split at e
    · rename_i ys _ hf
      cases e
      simp only [Bool.and_eq_true] at hf
      simp only [rep] at hy
      obtain ⟨a, vs, rfl, ha, ra⟩ := hy
      refine .inr (.inl ⟨a, vs, rfl, .inr (sqT ha), flat_V hf.1 hx, flats_V hf.2 ra, ?_⟩)
      rw [inV_V hf.1 hx hf.2 ra]
      exact q
    · cases e
  · split at e
    · rename_i t ys hf
      cases e
      simp only [Bool.and_eq_true] at hf
      obtain ⟨a, vs, rfl, ha, ra⟩ := rep_frz hy
      refine .inr (.inl ⟨a, vs, rfl, ?_, flat_V hf.1 hx, flats_V hf.2 ra, ?_⟩)
      · cases t with
        | true => exact .inr ha
        | false => exact .inl ha
      · rw [inV_V hf.1 hx hf.2 ra]
        exact q
    · cases e
  · split at e
    · rename_i ys hs
      split at e
      · rename_i hf
        cases e
        simp only [Bool.and_eq_true] at hf
        obtain ⟨a, vs, _, rfl, ha, ra⟩ := rep_lst s hs hy
        refine .inr (.inl ⟨a, vs, rfl, .inl (sqL ha), flat_V hf.1 hx, flats_V hf.2 ra, ?_⟩)
        rw [inV_V hf.1 hx hf.2 ra]
        exact q
      · split at e
        · rename_i d ds e1 e2
          cases e
          obtain ⟨d1, s1⟩ := toData_dp s e1 hx
          obtain ⟨d2, s2⟩ := toData_dp s e2 hy
          exact .inr (.inr (.inl ⟨d, ds, d1, d2, s1, s2, q⟩))
        · cases e
    · rename_i o _ hs
      obtain ⟨r, hr, rfl⟩ := Option.map_eq_some_iff.mp e
      obtain ⟨a, rfl, ha⟩ := dget_V s hs hy hx hr
      cases r with
      | none => exact .inr (.inr (.inr (.inl ⟨a, none, rfl, ha, q⟩)))
      | some d =>
        obtain ⟨z, hz, _⟩ := ha
        exact .inr (.inr (.inr (.inl ⟨a, some z, rfl, .inl hz, q⟩)))
    · cases e
  · split at e
    · rename_i k kvs hk
      cases e
      simp only [rep] at hx hy
      subst hx; subst hy
      obtain ⟨es, n, D, h⟩ := hcd _ _ hk
      obtain ⟨r, h1, h2, _⟩ := h k
      exact .inr (.inr (.inr (.inr ⟨_, es, n, mkS k, r, D, rfl, rfl, h1, by rw [h2]; exact q⟩)))
    · cases e
  · cases e
def cmpR (K : PySem.W.Frag) (w : World) : COp → R2
  | .eq => rEqD K
  | .ne => rNeD K
  | .lt => rI0 fun i j => .bl (decide (i < j))
  | .le => rI0 fun i j => .bl (decide (i ≤ j))
  | .gt => rI0 fun i j => .bl (decide (j < i))
  | .ge => rI0 fun i j => .bl (decide (j ≤ i))
  | .isin => inR K w false
  | .notin => inR K w true
theorem op_cmp {X : Cx} (hu : X.A.units + 65 < cLine) : ∀ op : COp, OpR X (compareOp (opC op)) (cmpR X.K X.w op)
  | .eq => op_eqD (by omega)
  | .ne => op_neD (by omega)
  | .lt => op_lt
  | .le => op_le
  | .gt => op_gt
  | .ge => op_ge
  | .isin => op_in hu
  | .notin => op_notin hu
theorem cmp_sound {K : PySem.W.Frag} (hK : K = g.K) {W : World} (hcd : CdOk g K W cds) {op : COp} {x y : D} {v w : V} {b : Bool} (s : Sim g ρ S H) (hx : rep g ρ H x v) (hy : rep g ρ H y w) (e : cmpF cds op x y S = some b) (q : Q (.bl b) H) : cmpR K W op v w H Q := by
  unfold cmpF at e
  split at e
  · split at e
    · rename_i d e' e1 e2
      cases e
      obtain ⟨d1, s1⟩ := toData_dp s e1 hx
      obtain ⟨d2, s2⟩ := toData_dp s e2 hy
      subst hK
      exact ⟨_, _, d1, d2, s1, s2, q⟩
    · cases e
  · split at e
    · rename_i d e' e1 e2
      cases e
      obtain ⟨d1, s1⟩ := toData_dp s e1 hx
      obtain ⟨d2, s2⟩ := toData_dp s e2 hy
      subst hK
      exact ⟨_, _, d1, d2, s1, s2, q⟩
    · cases e
  · cases e
    simp only [rep] at hx hy
    exact ⟨_, _, hx, hy, q⟩
  · cases e
    simp only [rep] at hx hy
    exact ⟨_, _, hx, hy, q⟩
  · cases e
    simp only [rep] at hx hy
    exact ⟨_, _, hx, hy, q⟩
  · cases e
    simp only [rep] at hx hy
    exact ⟨_, _, hx, hy, q⟩
  · exact in_sound hK hcd (ng := false) s hx hy e q
  · obtain ⟨c, hc, rfl⟩ := Option.map_eq_some_iff.mp e
    exact in_sound hK hcd (ng := true) s hx hy hc q
  · cases e

/-! ### subscripts -/
def rDix : R2 := fun x y H Q => ∃ a v, x = .ref a ∧ DGet H a y (some v) ∧ Q v H
theorem ix_dict {X : Cx} (hu : X.A.units + 1 < cLine) : IxR X rDix := by
  intro value slice pins s σ H x y v u Q I rx ry h hs
  obtain ⟨a, z, rfl, g, q⟩ := h
  obtain rfl : v = Value.ref a := rx
  exact tail_any (dict_typeIs I g) PySem.F.slot_dict_getitem.lookup (d_getItem hu I g ry fun w' s3 I3 rw' => ⟨z, H, I3, rw', q⟩) hs
def ixR (K : PySem.W.Frag) (w : World) : R2 := fun x y H Q => rIx K x y H Q ∨ rDix x y H Q ∨ rIxD K w x y H Q
theorem ix_all {X : Cx} (hu : X.A.units + 1 < cLine) : IxR X (ixR X.K X.w) := ix_seq.or ((ix_dict hu).or ix_kdict)
theorem at_atI {α : Type} {xs : List α} {i : Int} {x : α} (h : at? xs i = some x) : ∃ j : Nat, ixN xs.length i = some j ∧ xs[j]? = some x := by
  unfold at? at h
  unfold ixN
  by_cases h0 : 0 ≤ i
  · rw [if_pos h0] at h ⊢
    have hl := (List.getElem?_eq_some_iff.mp h).1
    exact ⟨i.toNat, by rw [if_pos (by omega)], h⟩
  · rw [if_neg h0] at h ⊢
    by_cases h1 : -(xs.length : Int) ≤ i
    · rw [if_pos h1] at h ⊢
      exact ⟨_, rfl, h⟩
    · rw [if_neg h1] at h
      cases h
theorem at_V {xs : List D} {vs : List V} {i : Int} {d : D} (h : at? xs i = some d) (r : repL g ρ H xs vs) : ∃ v, atI vs i = some v ∧ rep g ρ H d v := by
  obtain ⟨j, h1, h2⟩ := at_atI h
  obtain ⟨v, h3, h4⟩ := repL_get r h2
  refine ⟨v, ?_, h4⟩
  unfold atI
  rw [repL_length r, h1]
  exact h3
theorem ix_sound {K : PySem.W.Frag} (hK : K = g.K) {W : World} (hcd : CdOk g K W cds) {x y d : D} {v w : V} (s : Sim g ρ S H) (hx : rep g ρ H x v) (hy : rep g ρ H y w) (e : ixF cds x y S = some d) (q : ∀ z, rep g ρ H d z → Q z H) : ixR K W v w H Q := by
  subst hK
  unfold ixF at e
  split at e
  · split at e
    · rename_i x i hs
      obtain ⟨c, hc, rfl⟩ := Option.map_eq_some_iff.mp e
      simp only [rep] at hx hy
      subst hx; subst hy
      obtain ⟨j, h1, h2⟩ := at_atI hc
      refine .inl (.inr (.inr ⟨mkS x, i, c, rfl, rfl, by rw [mkS_len]; exact small_sz hs, ?_, q _ (by simp only [rep]; rfl)⟩))
      have el : (mkS x).cps.toList = x := by simp [mkS]
      rw [el]
      unfold atI
      rw [h1]
      exact h2
    · cases e
  · simp only [rep] at hx hy
    obtain ⟨a, vs, rfl, ha, ra⟩ := hx
    subst hy
    obtain ⟨z, h1, h2⟩ := at_V e ra
    exact .inl (.inr (.inl ⟨a, vs, _, z, rfl, rfl, sqT ha, h1, q _ h2⟩))
  · rename_i t xs i
    obtain ⟨a, vs, rfl, ha, ra⟩ := rep_frz hx
    simp only [rep] at hy
    subst hy
    obtain ⟨z, h1, h2⟩ := at_V e ra
    cases t with
    | true => exact .inl (.inr (.inl ⟨a, vs, _, z, rfl, rfl, ha, h1, q _ h2⟩))
    | false => exact .inl (.inl ⟨a, vs, _, z, rfl, rfl, ha, h1, q _ h2⟩)
  · split at e
    · rename_i xs i hs
      obtain ⟨a, vs, _, rfl, ha, ra⟩ := rep_lst s hs hx
      simp only [rep] at hy
      subst hy
      obtain ⟨z, h1, h2⟩ := at_V e ra
      exact .inl (.inl ⟨a, vs, _, z, rfl, rfl, sqL ha, h1, q _ h2⟩)
    · cases e
    · rename_i y' _ _ o _ hs _
      cases hr : dget o y' with
      | none => rw [hr] at e; cases e
      | some r =>
        rw [hr] at e
        have e : r = some d := e
        subst e
        obtain ⟨a, rfl, z, hz, rz⟩ := dget_V s hs hx hy hr
        exact .inr (.inl ⟨a, z, rfl, hz, q _ rz⟩)
    · cases e
  · rename_i i k
    cases hk : cds i with
    | none => rw [hk] at e; cases e
    | some kvs =>
      rw [hk] at e
      simp only [rep] at hx hy
      subst hx; subst hy
      obtain ⟨es, n, D, h⟩ := hcd _ _ hk
      obtain ⟨r, h1, _, h3⟩ := h k
      obtain ⟨u, z, rfl, hz, rz⟩ := h3 d e
      exact .inr (.inr ⟨_, mkS k, z, rfl, rfl, ⟨es, n, u, D.at_, D.lit, h1, hz⟩, q _ (rz ρ H)⟩)
  · cases e
/-! ### slices -/
theorem bound_sIx (n d : Nat) (o : Option Int) : bound n d o = HT.sIx n d o := by cases o <;> rfl
theorem cut_V {xs : List D} {vs : List V} {lo hi : Option Int} (r : repL g ρ H xs vs) : repL g ρ H (cut xs lo hi) (cutV vs lo hi) := by
  unfold cut cutV
  rw [bound_sIx, bound_sIx, repL_length r]
  exact repL_take _ (repL_drop _ r)
def slR (K : PySem.W.Frag) : V → Option Int → Option Int → Hp → VK → Prop := fun x lo hi H Q => rSlS x lo hi H Q ∨ rSlA K x lo hi H Q ∨ rSlL K x lo hi H Q
theorem sl_all {X : Cx} : SlR X (slR X.K) := sl_str.or (sl_tupA.or sl_list)
theorem cut_whole {xs : List D} {vs : List V} {lo hi : Option Int} (r : repL g ρ H xs vs) (h : HT.sIx vs.length 0 lo = 0 ∧ HT.sIx vs.length vs.length hi = vs.length) : cut xs lo hi = xs := by
  have hl := repL_length r
  unfold cut
  rw [bound_sIx, bound_sIx, ← hl, h.1, h.2, List.drop_zero, hl, Nat.sub_zero, List.take_length]
theorem sl_sound {K : PySem.W.Frag} (hK : K = g.K) {x : D} {v : V} {lo hi : Option Int} (s : Sim g ρ S H) (hx : rep g ρ H x v) (p : post g ef E0 (rep g) ρ H (pr (slF x lo hi S)) Q) : slR K v lo hi H Q := by
  subst hK
  unfold slF at p
  split at p
  · rename_i x
    split at p
    · rename_i hs
      simp only [rep] at hx
      subst hx
      refine .inl ⟨mkS x, rfl, by rw [mkS_len]; exact small_sz hs, ?_⟩
      have el : (mkS x).cps.toList = x := by simp [mkS]
      have e : cutS (mkS x) lo hi = mkS (cut x lo hi) := by
        unfold cutS cut
        rw [bound_sIx, bound_sIx, mkS_len, el]
        rfl
      rw [e]
      exact post_ok p s (by simp only [rep])
    · exact p.elim
  · have hx' := hx
    simp only [rep] at hx
    obtain ⟨a, vs, rfl, ha, ra⟩ := hx
    refine .inr (.inl ⟨a, vs, rfl, sqT ha, fun h => ?_, fun _ => ?_⟩)
    · rw [cut_whole ra h] at p
      exact post_ok p s hx'
    · exact new_tup s (cut_V ra) p
  · split at p
    · rename_i xs hs
      obtain ⟨a, vs, _, rfl, ha, ra⟩ := rep_lst s hs hx
      exact .inr (.inr ⟨a, vs, rfl, sqL ha, new_lst s (cut_V ra) p⟩)
    · exact p.elim
  · obtain ⟨a, vs, rfl, ha, ra⟩ := rep_frz hx
    exact .inr (.inr ⟨a, vs, rfl, ha, new_lst s (cut_V ra) p⟩)
  · exact p.elim
end
end Ev
end
section
set_option Elab.async false
set_option linter.all false
set_option maxRecDepth 100000
set_option autoImplicit false
/-! Expressions. -/
namespace Ev
open PySem PySem.Spec PyProof.Rows L2

section
variable {g : Pl} {T : TC} {cf : CF} {np : Nat → Nat} {ef : List (List Str)} {cds : Cds} {E0 : XK} {k : Nat} {sc : Scope} {X : Cx}
/-- a test's reading -/
def tT (g : Pl) (cf : CF) (ef : List (List Str)) (cds : Cds) (E0 : XK) (e : E) : TT := tB (tS g cf ef cds E0 e)
theorem post_bo {ρ : List Addr} {H : Hp} {S : Sto} {c : Option Bool} {Q : VK} (p : post g ef E0 (rep g) ρ H (bo c S) Q) (s : Sim g ρ S H) : ∃ b, c = some b ∧ Q (.bl b) H := by
  cases c with
  | none => exact p.elim
  | some b => exact ⟨b, rfl, post_ok p s (by simp only [rep])⟩
theorem post_va {ρ : List Addr} {H : Hp} {S : Sto} {c : Option D} {Q : VK} (p : post g ef E0 (rep g) ρ H (va c S) Q) (s : Sim g ρ S H) : ∃ d, c = some d ∧ ∀ z, rep g ρ H d z → Q z H := by
  cases c with
  | none => exact p.elim
  | some b => exact ⟨b, rfl, fun z r => post_ok p s r⟩
theorem rep_bl {ρ : List Addr} {H : Hp} {b : Bool} {v : V} (h : rep g ρ H (.bl b) v) : v = .bl b := by simpa only [rep] using h
theorem rep_int {ρ : List Addr} {H : Hp} {b : Int} {v : V} (h : rep g ρ H (.int b) v) : v = .int b := by simpa only [rep] using h
theorem rep_str {ρ : List Addr} {H : Hp} {b : Txt} {v : V} (h : rep g ρ H (.str b) v) : v = .str (mkS b) := by simpa only [rep] using h
theorem rep_tup {ρ : List Addr} {H : Hp} {xs : List D} {v : V} (h : rep g ρ H (.tup xs) v) : ∃ a vs, v = .ref a ∧ H a = some (.tup vs) ∧ repL g ρ H xs vs := by simpa only [rep] using h
theorem rep_Non {ρ : List Addr} {H : Hp} {v : V} (h : rep g ρ H .non v) : v = .non := by simpa only [rep] using h
/-- two in a row -/
theorem two_of {a b : E} {f : D → D → Sto → O D} {r : R2} {ρ : List Addr} {S : Sto} {H : Hp} {env : Env} {σ : L2.St} {Q : VK} (s : Sim g ρ S H) (e : EnvR g ρ H env σ) (p : post g ef E0 (rep g) ρ H ((evE cds cf a env S).bind fun x S => (evE cds cf b env S).bind fun y S => f x y S) Q)
    (h : ∀ ρ S H x y v w, Sim g ρ S H → rep g ρ H x v → rep g ρ H y w → post g ef E0 (rep g) ρ H (f x y S) Q → r v w H Q) : tOp r (tS g cf ef cds E0 a) (tS g cf ef cds E0 b) σ H Q :=
  tS_bind s e p fun v H1 x S1 ρ1 s1 e1 L1 r1 p1 => tS_bind s1 e1 p1 fun w H2 y S2 ρ2 s2 e2 L2 r2 p2 => h ρ2 S2 H2 x y v w s2 (rep_le L2 _ _ r1) r2 p2
/-! ### displays -/
theorem s_tup {es : List Expr} {f : Expr → E} (ih : PA X es (tL g cf ef cds E0 (trL f es))) (j : Nat) (pos : Pos) : PE X (.Tuple es j pos) (tS g cf ef cds E0 (.tup (trL f es))) := by
  refine PE.imp (pe_tup ih) ?_
  rintro σ H Q ⟨ρ, S, env, s, e, p⟩
  simp only [evE] at p
  refine tL_bind s e p fun vs H1 ds S1 ρ1 s1 e1 L1 r1 p1 => ?_
  split at p1
  · rename_i hs
    exact ⟨by rw [repL_length r1]; exact small_sz hs, new_tup s1 r1 p1⟩
  · exact p1.elim
theorem s_lst {es : List Expr} {f : Expr → E} (ih : PA X es (tL g cf ef cds E0 (trL f es))) (pos : Pos) : PE X (.List es pos) (tS g cf ef cds E0 (.lst (trL f es))) := by
  refine PE.imp (pe_lst ih) ?_
  rintro σ H Q ⟨ρ, S, env, s, e, p⟩
  simp only [evE] at p
  refine tL_bind s e p fun vs H1 ds S1 ρ1 s1 e1 L1 r1 p1 => ?_
  split at p1
  · rename_i hs
    exact ⟨by rw [repL_length r1]; exact small_sz hs, new_lst s1 r1 p1⟩
  · exact p1.elim
theorem s_dnew (pos : Pos) : PE X (.Dict [] [] pos) (tS g cf ef cds E0 .dnew) := by
  refine PE.imp pe_dnewK ?_
  rintro σ H Q ⟨ρ, S, env, s, e, p⟩
  simp only [evE] at p
  exact new_dK s p
/-! ### operators -/
theorem trOp_of {op : Operator} {o : BOp} (h : trOp op = some o) : op = opN o := by
  cases op <;> simp only [trOp, reduceCtorEq, Option.some.injEq] at h <;> subst h <;> rfl
theorem trCmp_of {op : CmpOp} {o : COp} (h : trCmp op = some o) : op = opC o := by
  cases op <;> simp only [trCmp, reduceCtorEq, Option.some.injEq] at h <;> subst h <;> rfl
theorem Ct.rm (C : Ct g T cf np ef cds E0 k sc X) (hc : T.cold = true) : Room (k + 1) X.A := ⟨C.hd hc, C.room.dp, C.room.un⟩
theorem Ct.units (C : Ct g T cf np ef cds E0 k sc X) : X.A.units + 65 < cLine := by
  have := C.room.un
  omega
theorem s_bin (C : Ct g T cf np ef cds E0 k sc X) {a b : Expr} {a' b' : E} (ha : PE X a (tS g cf ef cds E0 a')) (hb : PE X b (tS g cf ef cds E0 b')) (op : BOp) (pos : Pos) : PE X (.BinOp a (opN op) b pos) (tS g cf ef cds E0 (.bin op a' b')) := by
  refine PE.imp (pe_op (op_bin op) ha hb) ?_
  rintro σ H Q ⟨ρ, S, env, s, e, p⟩
  simp only [evE] at p
  refine two_of s e p fun ρ S H x y v w s rx ry p => ?_
  rw [C.K]
  exact bin_sound s rx ry p
theorem s_neg {a : Expr} {a' : E} (ha : PE X a (tS g cf ef cds E0 a')) (pos : Pos) : PE X (.UnaryOp .USub a pos) (tS g cf ef cds E0 (.neg a')) := by
  refine PE.imp (pe_un un_neg ha) ?_
  rintro σ H Q ⟨ρ, S, env, s, e, p⟩
  simp only [evE] at p
  refine tS_bind s e p fun v H1 x S1 ρ1 s1 e1 L1 r1 p1 => ?_
  split at p1
  · exact ⟨_, rep_int r1, post_ok p1 s1 (by simp only [rep])⟩
  · exact p1.elim
theorem s_not {a : Expr} {a' : E} (ha : PE X a (tS g cf ef cds E0 a')) (pos : Pos) : PE X (.UnaryOp .Not a pos) (tS g cf ef cds E0 (.not a')) := by
  refine PE.imp (pe_not ha) ?_
  rintro σ H Q ⟨ρ, S, env, s, e, p⟩
  simp only [evE] at p
  refine tS_bind s e p fun v H1 x S1 ρ1 s1 e1 L1 r1 p1 => ?_
  split at p1
  · exact ⟨_, rep_bl r1, post_ok p1 s1 (by simp only [rep])⟩
  · exact p1.elim
theorem t_not {a : Expr} {a' : E} (ha : PT X a (tT g cf ef cds E0 a')) (pos : Pos) : PT X (.UnaryOp .Not a pos) (tT g cf ef cds E0 (.not a')) := by
  refine PT.imp (pt_not ha) ?_
  rintro σ H Q ⟨ρ, S, env, s, e, p⟩
  simp only [evE] at p
  refine tS_bind s e p fun v H1 x S1 ρ1 s1 e1 L1 r1 p1 => ?_
  split at p1
  · rename_i b
    obtain ⟨c, e2, q⟩ := post_ok p1 s1 (v := .bl (!b)) (by simp only [rep])
    cases e2
    exact ⟨b, rep_bl r1, q⟩
  · exact p1.elim
theorem and_cont {b' : E} {x : D} {v : V} {env : Env} {ρ : List Addr} {S : Sto} {H : Hp} {σ : L2.St} {Q : VK} (s : Sim g ρ S H) (e : EnvR g ρ H env σ) (r : rep g ρ H x v)
    (p : post g ef E0 (rep g) ρ H (match (generalizing := false) x with
    | .bl true => (evE cds cf b' env S).bind fun y s => match y with
      | .bl c => ok (.bl c) s
      | _ => none
    | .bl false => ok (.bl false) S
    | _ => none) Q) : ∃ c, v = .bl c ∧ if c = true then tS g cf ef cds E0 b' σ H (fun y H => ∃ d, y = .bl d ∧ Q y H) else Q (.bl false) H := by
  split at p
  · refine ⟨true, rep_bl r, ?_⟩
    rw [if_pos rfl]
    refine tS_bind s e p fun w H2 y S2 ρ2 s2 e2 L2 r2 p2 => ?_
    split at p2
    · exact ⟨_, rep_bl r2, post_ok p2 s2 r2⟩
    · exact p2.elim
  · refine ⟨false, rep_bl r, ?_⟩
    rw [if_neg (by decide)]
    exact post_ok p s (by simp only [rep])
  · exact p.elim
theorem or_cont {b' : E} {x : D} {v : V} {env : Env} {ρ : List Addr} {S : Sto} {H : Hp} {σ : L2.St} {Q : VK} (s : Sim g ρ S H) (e : EnvR g ρ H env σ) (r : rep g ρ H x v)
    (p : post g ef E0 (rep g) ρ H (match (generalizing := false) x with
    | .bl false => (evE cds cf b' env S).bind fun y s => match y with
      | .bl c => ok (.bl c) s
      | _ => none
    | .bl true => ok (.bl true) S
    | _ => none) Q) : ∃ c, v = .bl c ∧ if c = true then Q (.bl true) H else tS g cf ef cds E0 b' σ H (fun y H => ∃ d, y = .bl d ∧ Q y H) := by
  split at p
  · refine ⟨false, rep_bl r, ?_⟩
    rw [if_neg (by decide)]
    refine tS_bind s e p fun w H2 y S2 ρ2 s2 e2 L2 r2 p2 => ?_
    split at p2
    · exact ⟨_, rep_bl r2, post_ok p2 s2 r2⟩
    · exact p2.elim
  · refine ⟨true, rep_bl r, ?_⟩
    rw [if_pos rfl]
    exact post_ok p s (by simp only [rep])
  · exact p.elim
theorem tS_mono {a : E} {σ : L2.St} {H : Hp} {Q Q' : VK} (h : tS g cf ef cds E0 a σ H Q) (i : ∀ v H, Q v H → Q' v H) : tS g cf ef cds E0 a σ H Q' := by
  obtain ⟨ρ, S, env, s, e, p⟩ := h
  exact ⟨ρ, S, env, s, e, post_mono p i⟩
theorem s_and {a b : Expr} {rest : List Expr} {pos : Pos} {a' b' : E} (ha : PE X a (tS g cf ef cds E0 a')) (hb : PE X (.BoolOp .And (b :: rest) pos) (tS g cf ef cds E0 b')) : PE X (.BoolOp .And (a :: b :: rest) pos) (tS g cf ef cds E0 (.and a' b')) := by
  refine PE.imp (pe_and ha hb) ?_
  rintro σ H Q ⟨ρ, S, env, s, e, p⟩
  simp only [evE] at p
  refine tS_bind s e p fun v H1 x S1 ρ1 s1 e1 L1 r1 p1 => ?_
  obtain ⟨c, rfl, h⟩ := and_cont s1 e1 r1 p1
  refine ⟨c, rfl, ?_⟩
  cases c with
  | true => exact tS_mono h fun v H ⟨_, _, q⟩ => q
  | false => exact h
theorem s_or {a b : Expr} {rest : List Expr} {pos : Pos} {a' b' : E} (ha : PE X a (tS g cf ef cds E0 a')) (hb : PE X (.BoolOp .Or (b :: rest) pos) (tS g cf ef cds E0 b')) : PE X (.BoolOp .Or (a :: b :: rest) pos) (tS g cf ef cds E0 (.or a' b')) := by
  refine PE.imp (pe_or ha hb) ?_
  rintro σ H Q ⟨ρ, S, env, s, e, p⟩
  simp only [evE] at p
  refine tS_bind s e p fun v H1 x S1 ρ1 s1 e1 L1 r1 p1 => ?_
  obtain ⟨c, rfl, h⟩ := or_cont s1 e1 r1 p1
  refine ⟨c, rfl, ?_⟩
  cases c with
  | false => exact tS_mono h fun v H ⟨_, _, q⟩ => q
  | true => exact h
theorem w_and {a b : Expr} {rest : List Expr} {pos : Pos} {a' b' : E} (ha : PT X a (tT g cf ef cds E0 a')) (hb : PW X (.BoolOp .And (b :: rest) pos) (tT g cf ef cds E0 b')) : PW X (.BoolOp .And (a :: b :: rest) pos) (tT g cf ef cds E0 (.and a' b')) := by
  refine PW.imp (pw_and ha hb) ?_
  rintro σ H Q ⟨ρ, S, env, s, e, p⟩
  simp only [evE] at p
  refine tS_bind s e p fun v H1 x S1 ρ1 s1 e1 L1 r1 p1 => ?_
  obtain ⟨c, rfl, h⟩ := and_cont s1 e1 r1 p1
  refine ⟨c, rfl, ?_⟩
  cases c with
  | true => exact tS_mono h fun v H ⟨_, _, q⟩ => q
  | false =>
    obtain ⟨d, e2, q⟩ := h
    cases e2
    exact q
theorem w_or {a b : Expr} {rest : List Expr} {pos : Pos} {a' b' : E} (ha : PT X a (tT g cf ef cds E0 a')) (hb : PW X (.BoolOp .Or (b :: rest) pos) (tT g cf ef cds E0 b')) : PW X (.BoolOp .Or (a :: b :: rest) pos) (tT g cf ef cds E0 (.or a' b')) := by
  refine PW.imp (pw_or ha hb) ?_
  rintro σ H Q ⟨ρ, S, env, s, e, p⟩
  simp only [evE] at p
  refine tS_bind s e p fun v H1 x S1 ρ1 s1 e1 L1 r1 p1 => ?_
  obtain ⟨c, rfl, h⟩ := or_cont s1 e1 r1 p1
  refine ⟨c, rfl, ?_⟩
  cases c with
  | false => exact tS_mono h fun v H ⟨_, _, q⟩ => q
  | true =>
    obtain ⟨d, e2, q⟩ := h
    cases e2
    exact q
theorem s_ife {c a b : Expr} {c' a' b' : E} (hc : PT X c (tT g cf ef cds E0 c')) (ha : PE X a (tS g cf ef cds E0 a')) (hb : PE X b (tS g cf ef cds E0 b')) (pos : Pos) : PE X (.IfExp c a b pos) (tS g cf ef cds E0 (.ife c' a' b')) := by
  refine PE.imp (pe_ifExp hc ha hb) ?_
  rintro σ H Q ⟨ρ, S, env, s, e, p⟩
  simp only [evE] at p
  refine tS_bind s e p fun v H1 x S1 ρ1 s1 e1 L1 r1 p1 => ?_
  split at p1
  · exact ⟨true, rep_bl r1, ρ1, S1, env, s1, e1, p1⟩
  · exact ⟨false, rep_bl r1, ρ1, S1, env, s1, e1, p1⟩
  · exact p1.elim
/-! ### comparisons -/
theorem cmp_in (C : Ct g T cf np ef cds E0 k sc X) {a' b' : E} {op : COp} {σ : L2.St} {H : Hp} {Q : VK} (h : tS g cf ef cds E0 (.cmp op a' b') σ H Q) : tOp (cmpR X.K X.w op) (tS g cf ef cds E0 a') (tS g cf ef cds E0 b') σ H Q := by
  obtain ⟨ρ, S, env, s, e, p⟩ := h
  simp only [evE] at p
  refine two_of s e p fun ρ S H x y v w s rx ry p => ?_
  obtain ⟨b, hb, q⟩ := post_bo p s
  exact cmp_sound C.K C.cd s rx ry hb q
theorem s_cmp (C : Ct g T cf np ef cds E0 k sc X) {a b : Expr} {a' b' : E} (ha : PE X a (tS g cf ef cds E0 a')) (hb : PE X b (tS g cf ef cds E0 b')) (op : COp) (pos : Pos) (hm : behindInMarks (opC op) b = false) : PE X (.Compare a [opC op] [b] pos) (tS g cf ef cds E0 (.cmp op a' b')) :=
  PE.imp (pe_cmpR (op_cmp C.units op) ha hb hm) fun σ H Q h => cmp_in C h
theorem t_cmp (C : Ct g T cf np ef cds E0 k sc X) {a b : Expr} {a' b' : E} (ha : PE X a (tS g cf ef cds E0 a')) (hb : PE X b (tS g cf ef cds E0 b')) (op : COp) (pos : Pos) (hm : behindInMarks (opC op) b = false) : PT X (.Compare a [opC op] [b] pos) (tT g cf ef cds E0 (.cmp op a' b')) :=
  PT.imp (pt_cmpR (op_cmp C.units op) ha hb hm) fun σ H Q h => cmp_in C h
theorem rep_dn {ρ : List Addr} {H : Hp} {x : D} {v : V} (h : rep g ρ H x v) : decide (v = .non) = (match x with
    | .non => true
    | _ => false) := by
  cases x <;> simp only [rep] at h
  · subst h; rfl
  · subst h; rfl
  · subst h; rfl
  · subst h; rfl
  · obtain ⟨a, vs, rfl, _⟩ := h; rfl
  · obtain ⟨a, vs, rfl, _⟩ := h; rfl
  · obtain ⟨a, _, rfl⟩ := h; rfl
  · obtain ⟨_, rfl⟩ := h; rfl
  · subst h; rfl
theorem isN_in {a' : E} {ng : Bool} {σ : L2.St} {H : Hp} {Q : VK} (h : tS g cf ef cds E0 (.isN ng a') σ H Q) : tS g cf ef cds E0 a' σ H fun x H1 => Q (.bl (if ng then !decide (x = .non) else decide (x = .non))) H1 := by
  obtain ⟨ρ, S, env, s, e, p⟩ := h
  simp only [evE] at p
  refine tS_bind s e p fun v H1 x S1 ρ1 s1 e1 L1 r1 p1 => ?_
  rw [rep_dn r1]
  split at p1
  · have q := post_ok p1 s1 (v := .bl (!ng)) (by simp only [rep])
    cases ng <;> exact q
  · rename_i hx
    have q := post_ok p1 s1 (v := .bl ng) (by simp only [rep])
    cases x with
    | non => exact absurd rfl hx
    | _ => cases ng <;> exact q
theorem s_isN {a : Expr} {a' : E} (ha : PE X a (tS g cf ef cds E0 a')) {j : Nat} (pos pos' : Pos) : PE X (.Compare a [.Is] [.Constant .none j pos'] pos) (tS g cf ef cds E0 (.isN false a')) :=
  PE.imp (pe_cmp (pc_isN ha)) fun σ H Q h => isN_in h
theorem t_isN {a : Expr} {a' : E} (ha : PE X a (tS g cf ef cds E0 a')) {j : Nat} (pos pos' : Pos) : PT X (.Compare a [.Is] [.Constant .none j pos'] pos) (tT g cf ef cds E0 (.isN false a')) :=
  PT.imp (pt_cmp (pc_isN ha)) fun σ H Q h => isN_in h
theorem s_notN {a : Expr} {a' : E} (ha : PE X a (tS g cf ef cds E0 a')) {j : Nat} (pos pos' : Pos) : PE X (.Compare a [.IsNot] [.Constant .none j pos'] pos) (tS g cf ef cds E0 (.isN true a')) :=
  PE.imp (pe_cmp (pc_notN ha)) fun σ H Q h => isN_in h
theorem t_notN {a : Expr} {a' : E} (ha : PE X a (tS g cf ef cds E0 a')) {j : Nat} (pos pos' : Pos) : PT X (.Compare a [.IsNot] [.Constant .none j pos'] pos) (tT g cf ef cds E0 (.isN true a')) :=
  PT.imp (pt_cmp (pc_notN ha)) fun σ H Q h => isN_in h
theorem isB_in {a' : E} {ng kb : Bool} {σ : L2.St} {H : Hp} {Q : VK} (h : tS g cf ef cds E0 (.isB ng kb a') σ H Q) : tOp (if ng then rNotB else rIsB) (tS g cf ef cds E0 a') (tC (.bl kb)) σ H Q := by
  obtain ⟨ρ, S, env, s, e, p⟩ := h
  simp only [evE] at p
  refine tS_bind s e p fun v H1 x S1 ρ1 s1 e1 L1 r1 p1 => ?_
  split at p1
  · rename_i b
    have q := post_ok p1 s1 (v := .bl (if ng then !(b == kb) else b == kb)) (by simp only [rep])
    have e3 : decide (b = kb) = (b == kb) := by cases b <;> cases kb <;> rfl
    cases ng with
    | true => exact ⟨b, kb, rep_bl r1, rfl, by rw [e3]; exact q⟩
    | false => exact ⟨b, kb, rep_bl r1, rfl, by rw [e3]; exact q⟩
  · exact p1.elim
theorem s_isB {a : Expr} {a' : E} (ha : PE X a (tS g cf ef cds E0 a')) (kb : Bool) {j : Nat} (pos pos' : Pos) : PE X (.Compare a [.Is] [.Constant (.bool kb) j pos'] pos) (tS g cf ef cds E0 (.isB false kb a')) :=
  PE.imp (pe_cmpR op_isBl ha pe_bl rfl) fun σ H Q h => isB_in (ng := false) h
theorem t_isB {a : Expr} {a' : E} (ha : PE X a (tS g cf ef cds E0 a')) (kb : Bool) {j : Nat} (pos pos' : Pos) : PT X (.Compare a [.Is] [.Constant (.bool kb) j pos'] pos) (tT g cf ef cds E0 (.isB false kb a')) :=
  PT.imp (pt_cmpR op_isBl ha pe_bl rfl) fun σ H Q h => isB_in (ng := false) h
theorem s_notB {a : Expr} {a' : E} (ha : PE X a (tS g cf ef cds E0 a')) (kb : Bool) {j : Nat} (pos pos' : Pos) : PE X (.Compare a [.IsNot] [.Constant (.bool kb) j pos'] pos) (tS g cf ef cds E0 (.isB true kb a')) :=
  PE.imp (pe_cmpR op_notBl ha pe_bl rfl) fun σ H Q h => isB_in (ng := true) h
theorem t_notB {a : Expr} {a' : E} (ha : PE X a (tS g cf ef cds E0 a')) (kb : Bool) {j : Nat} (pos pos' : Pos) : PT X (.Compare a [.IsNot] [.Constant (.bool kb) j pos'] pos) (tT g cf ef cds E0 (.isB true kb a')) :=
  PT.imp (pt_cmpR op_notBl ha pe_bl rfl) fun σ H Q h => isB_in (ng := true) h
theorem chn_in (C : Ct g T cf np ef cds E0 k sc X) {a' b' c' : E} {o1 o2 : COp} {σ : L2.St} {H : Hp} {Q : VK} (h : tS g cf ef cds E0 (.chn o1 o2 a' b' c') σ H Q) :
    tChain (cmpR X.K X.w o1) (cmpR X.K X.w o2) (tS g cf ef cds E0 a') (tS g cf ef cds E0 b') (tS g cf ef cds E0 c') σ H Q := by
  obtain ⟨ρ, S, env, s, e, p⟩ := h
  simp only [evE] at p
  refine tS_bind s e p fun v H1 x S1 ρ1 s1 e1 L1 r1 p1 => tS_bind s1 e1 p1 fun w H2 y S2 ρ2 s2 e2 L2 r2 p2 => ?_
  split at p2
  · rename_i hc
    refine cmp_sound C.K C.cd s2 (rep_le L2 _ _ r1) r2 hc ⟨true, rfl, ?_⟩
    rw [if_pos rfl]
    refine tS_bind s2 e2 p2 fun z H3 zz S3 ρ3 s3 e3 L3 r3 p3 => ?_
    obtain ⟨b, hb, q⟩ := post_bo p3 s3
    exact cmp_sound C.K C.cd s3 (rep_le L3 _ _ r2) r3 hb q
  · rename_i hc
    refine cmp_sound C.K C.cd s2 (rep_le L2 _ _ r1) r2 hc ⟨false, rfl, ?_⟩
    rw [if_neg (by decide)]
    exact post_ok p2 s2 (by simp only [rep])
  · exact p2.elim
theorem s_chn (C : Ct g T cf np ef cds E0 k sc X) {a b c : Expr} {a' b' c' : E} (ha : PE X a (tS g cf ef cds E0 a')) (hb : PE X b (tS g cf ef cds E0 b')) (hc : PE X c (tS g cf ef cds E0 c')) (o1 o2 : COp) (pos : Pos) (hm : lastMarks [opC o1, opC o2] [b, c] = false) :
    PE X (.Compare a [opC o1, opC o2] [b, c] pos) (tS g cf ef cds E0 (.chn o1 o2 a' b' c')) := PE.imp (pe_chain (op_cmp C.units o1) (op_cmp C.units o2) ha hb hc hm) fun σ H Q h => chn_in C h
theorem t_chn (C : Ct g T cf np ef cds E0 k sc X) {a b c : Expr} {a' b' c' : E} (ha : PE X a (tS g cf ef cds E0 a')) (hb : PE X b (tS g cf ef cds E0 b')) (hc : PE X c (tS g cf ef cds E0 c')) (o1 o2 : COp) (pos : Pos) (hm : lastMarks [opC o1, opC o2] [b, c] = false) :
    PT X (.Compare a [opC o1, opC o2] [b, c] pos) (tT g cf ef cds E0 (.chn o1 o2 a' b' c')) := PT.imp (pt_chain (op_cmp C.units o1) (op_cmp C.units o2) ha hb hc hm) fun σ H Q h => chn_in C h
/-! ### subscripts, slices -/
theorem s_ix (C : Ct g T cf np ef cds E0 k sc X) {a b : Expr} {a' b' : E} (ha : PE X a (tS g cf ef cds E0 a')) (hb : PE X b (tS g cf ef cds E0 b')) (pos : Pos) (hs : PlainIx b) : PE X (.Subscript a b pos) (tS g cf ef cds E0 (.ix a' b')) := by
  refine PE.imp (pe_ix (ix_all (by have := C.units; omega)) ha hb hs) ?_
  rintro σ H Q ⟨ρ, S, env, s, e, p⟩
  simp only [evE] at p
  refine two_of s e p fun ρ S H x y v w s rx ry p => ?_
  obtain ⟨d, hd, q⟩ := post_va p s
  exact ix_sound C.K C.cd s rx ry hd q
/-- an end of a slice -/
def tO (g : Pl) (cf : CF) (ef : List (List Str)) (cds : Cds) (E0 : XK) : Eo → TO
  | .none => tNoPart
  | .some e => tPart (tS g cf ef cds E0 e)
theorem tO_bind {lo : Eo} {env : Env} {ρ : List Addr} {S : Sto} {H : Hp} {σ : L2.St} {f : D → Sto → O D} {Q : VK} {R : Option Int → Hp → Prop} (s : Sim g ρ S H) (e : EnvR g ρ H env σ) (p : post g ef E0 (rep g) ρ H ((evO cds cf lo env S).bind f) Q)
    (h : ∀ d S1, endF lo d = none → ∀ ρ H, ¬ post g ef E0 (rep g) ρ H (f d S1) Q)
    (k : ∀ l H1 d S1 ρ1, Sim g ρ1 S1 H1 → EnvR g ρ1 H1 env σ → Le ρ H ρ1 H1 → endF lo d = some l → post g ef E0 (rep g) ρ1 H1 (f d S1) Q → R l H1) : tO g cf ef cds E0 lo σ H R := by
  cases lo with
  | none =>
    simp only [evO] at p
    exact k none H .non S ρ s e (Ext.le s .refl) rfl (post_ext s .refl p)
  | some a =>
    simp only [evO] at p
    refine tS_bind s e p fun v H1 d S1 ρ1 s1 e1 L1 r1 p1 => ?_
    cases hd : endF (.some a) d with
    | none => exact absurd p1 (h d S1 hd _ _)
    | some l =>
      cases d <;> simp only [endF, reduceCtorEq, Option.some.injEq] at hd
      rename_i i
      subst hd
      exact ⟨i, rep_int r1, k _ H1 _ S1 ρ1 s1 e1 L1 rfl p1⟩
theorem s_sl (C : Ct g T cf np ef cds E0 k sc X) {a : Expr} {lo hi : Option Expr} {a' : E} {lo' hi' : Eo} (ha : PE X a (tS g cf ef cds E0 a')) (hl : PO X lo (tO g cf ef cds E0 lo')) (hh : PO X hi (tO g cf ef cds E0 hi')) (pos pos' : Pos) :
    PE X (.Subscript a (.Slice lo hi none pos') pos) (tS g cf ef cds E0 (.sl a' lo' hi')) := by
  refine PE.imp (pe_slice sl_all ha hl hh) ?_
  rintro σ H Q ⟨ρ, S, env, s, e, p⟩
  simp only [evE] at p
  refine tS_bind s e p fun v H1 x S1 ρ1 s1 e1 L1 r1 p1 => ?_
  refine tO_bind s1 e1 p1 (fun d S1 hd ρ H hp => ?_) fun l H2 d S2 ρ2 s2 e2 L2 hl p2 => ?_
  · simp only [hd] at hp; exact hp
  simp only [hl] at p2
  refine tO_bind s2 e2 p2 (fun d S1 hd ρ H hp => ?_) fun u H3 d' S3 ρ3 s3 e3 L3 hu p3 => ?_
  · simp only [hd] at hp; exact hp
  simp only [hu] at p3
  rw [C.K]
  exact sl_sound rfl s3 (rep_le L3 _ _ (rep_le L2 _ _ r1)) p3
/-! ### calls of defs -/
theorem sim_nil {H : Hp} : Sim g [] [] H := ⟨List.nodup_nil, rfl, fun n o h => by simp at h⟩
theorem pureL_len {xs : List D} : True := trivial
theorem repL_nil_pure {ρ : List Addr} {H : Hp} {xs : List D} {vs : List V} (p : pureL xs = true) (r : repL g ρ H xs vs) : repL g [] H xs vs := repL_pure (ρ' := []) xs vs p r
theorem callF_ok {i : Nat} {ds : List D} {vs : List V} {ρ : List Addr} {S : Sto} {H : Hp} {Q : VK} (ar : ∀ i ds S, (cf i ds S).isSome = true → ds.length = np i ∧ i < T.fns.length) (s : Sim g ρ S H) (r : repL g ρ H ds vs) (p : post g ef E0 (rep g) ρ H (callF cf i ds S) Q) :
    spF g ef cf (np i) i vs H Q E0 ∧ i < T.fns.length := by
  unfold callF at p
  split at p
  · rename_i hp
    cases hc : cf i ds [] with
    | none => rw [hc] at p; exact p.elim
    | some z =>
      have ha := ar i ds [] (by rw [hc]; rfl)
      refine ⟨⟨by rw [repL_length r, ha.1], [], [], ds, sim_nil, repL_nil_pure hp r, ?_⟩, ha.2⟩
      rw [hc] at p ⊢
      cases z with
      | ok d S' =>
        intro ρ' H' v x s' rv
        obtain ⟨sj, xj, sj2, xj2⟩ := s.join x s'
        simp only at p
        split at p
        · rename_i hd
          exact p ρ H' v xj sj (rep_pure (ρ := ρ') d v hd rv)
        · refine p _ H' v xj2 sj2 ?_
          rw [← s.len]
          exact rep_sh ρ d v rv
      | exc c fs S' =>
        intro ρ' H' dx ws x s' hx hf
        obtain ⟨sj, xj, _⟩ := s.join x s'
        simp only at p
        split at p
        · rename_i hd
          refine p ρ H' dx ws xj sj hx fun j n d h1 h2 => ?_
          obtain ⟨v, hv, rv⟩ := hf j n d h1 h2
          exact ⟨v, hv, rep_pure (ρ := ρ') d v (pure_get hd h2) rv⟩
        · exact p.elim
  · cases hc : cf i ds S with
    | none => rw [hc] at p; exact p.elim
    | some z =>
      have ha := ar i ds S (by rw [hc]; rfl)
      exact ⟨⟨by rw [repL_length r, ha.1], ρ, S, ds, s, r, p⟩, ha.2⟩
theorem s_call (C : Ct g T cf np ef cds E0 k sc X) (hcold : T.cold = true) {x : Str} {i : Nat} (hi : ixOf T.fns x = some i) (hg : isGlb sc x = true) (hd : odd x = false) {a : Expr} {es : List Expr} {es' : Es} (ha : PA X (a :: es) (tL g cf ef cds E0 es')) (hs : (a :: es).any isStar = false) (p pos : Pos) :
    PE X (.Call (.Name x p) (a :: es) [] pos) (tS g cf ef cds E0 (.call i es')) := by
  have hx := ixOf_get hi
  have hl : i < T.fns.length := (List.getElem?_eq_some_iff.mp hx).1
  obtain ⟨fd, ps, hk, hb, F⟩ := C.fn i hl
  simp only [List.any_cons, Bool.or_eq_false_iff] at hs
  refine PE.imp (pe_call (ds := []) (dvs := []) F ((C.rm hcold).mono (Nat.le_succ k)) (C.glb _ hg) (C.fns i x hx) hk hb .nil C.pass ha (odd_of hd).1 (star_of hs.1 _ _) (star_back _ _ hs.2)) ?_
  rintro σ H Q ⟨ρ, S, env, s, e, p⟩
  simp only [evE] at p
  refine tL_bind s e p fun vs H1 ds S1 ρ1 s1 e1 L1 r1 p1 => ?_
  rw [List.append_nil]
  exact (callF_ok C.ar s1 r1 p1).1
theorem s_call0 (C : Ct g T cf np ef cds E0 k sc X) (hcold : T.cold = true) {x : Str} {i : Nat} (hi : ixOf T.fns x = some i) (hg : isGlb sc x = true) (hd : odd x = false) (p pos : Pos) : PE X (.Call (.Name x p) [] [] pos) (tS g cf ef cds E0 (.call i .nil)) := by
  have hx := ixOf_get hi
  have hl : i < T.fns.length := (List.getElem?_eq_some_iff.mp hx).1
  obtain ⟨fd, ps, hk, hb, F⟩ := C.fn i hl
  refine PE.imp (pe_call0 (ds := []) (dvs := []) F ((C.rm hcold).mono (Nat.le_succ k)) (C.glb _ hg) (C.fns i x hx) hk hb .nil C.pass (odd_of hd).1) ?_
  rintro σ H Q ⟨ρ, S, env, s, e, p⟩
  simp only [evE, evEs, O.bind, ok] at p
  show spF g ef cf (np i) i ([] ++ []) H Q E0
  exact (callF_ok C.ar s (by simp only [repL]; rfl) p).1
theorem PE.any {e : Expr} {t : TE} (h : ∀ σ H Q, t σ H Q → ∃ t', PE X e t' ∧ t' σ H Q) : PE X e t := ⟨fun pins s σ H Q I hw => by
  obtain ⟨t', p, q⟩ := h σ H Q hw
  exact p.run pins s σ H Q I q⟩
theorem s_cvar (C : Ct g T cf np ef cds E0 k sc X) (hcold : T.cold = true) {x : Str} {i : Nat} (hi : varOf T.N sc x = some i) {a : Expr} {es : List Expr} {es' : Es} (ha : PA X (a :: es) (tL g cf ef cds E0 es')) (hs : (a :: es).any isStar = false) (p pos : Pos) :
    PE X (.Call (.Name x p) (a :: es) [] pos) (tS g cf ef cds E0 (.cvar i es')) := by
  obtain ⟨hx, hv, hd⟩ := varOf_of hi
  simp only [List.any_cons, Bool.or_eq_false_iff] at hs
  refine PE.any ?_
  rintro σ H Q ⟨ρ, S, env, s, e, p⟩
  simp only [evE] at p
  split at p
  · rename_i f hf
    obtain ⟨v, hv2, rv⟩ := e.at_ i _ hf
    simp only [rep] at rv
    obtain ⟨hl, rfl⟩ := rv
    rw [C.nf] at hl
    · obtain ⟨fd, ps, hk, hb, F⟩ := C.fn f hl
      refine ⟨_, pe_callL (ds := []) (dvs := []) F ((C.rm hcold).mono (Nat.le_succ k)) (by rw [C.N]; exact hx) (C.vis _ hv) hk hb .nil C.pass ha (odd_of hd).1 (odd_of hd).2.1 (star_of hs.1 _ _) (star_back _ _ hs.2), hv2, ?_⟩
      refine tL_bind s e p fun vs H1 ds S1 ρ1 s1 e1 L1 r1 p1 => ?_
      rw [List.append_nil]
      exact (callF_ok C.ar s1 r1 p1).1
  · exact p.elim
end
end Ev
end
section
set_option Elab.async false
set_option linter.all false
set_option maxRecDepth 100000
set_option autoImplicit false
/-! sorted over a tuple. -/
namespace EvU
open PySem PySem.W PyProof.Rows
variable {prog : Program} {w : World} {A : Around} {s : Shared} {E : Value → Shared → Prop} {l : Addr} {o : Obj} {n : Nat} {vs : List Value}
/-- a tuple's items on a new list -/
theorem gather {Q : List Value → Shared → Prop} (ho : s.heap.get? l = some o) (hc : o.cls = .type "tuple") (hd : o.data = .seq vs.toArray n) (hsz : vs.length ≤ sizeLine)
    (h : Q vs { s with heap := (s.heap.push (seqObj "list" #[] 0)).update s.heap.objs.size (Obj.mapSeq (· ++ vs.toArray)) }) : wpAny (model prog w) A (collect (.ref l)) Q E s := by
  have old : (s.heap.push (seqObj "list" #[] 0)).get? l = some o := Heap.get?_push_of_some _ ho
  have z : (#[] ++ vs.toArray : Array Value).size ≤ sizeLine + 1 := by
    simp only [Array.size_append, List.size_toArray, List.length_nil]
    omega
  unfold collect
  refine wpAny_bind (wpAny_runValue (codeAny_builtin entry_proto_collect' (show wpAny _ _ (do again (.builtin "list.__iadd__" ⟨[← newList [], .ref l], []⟩)) _ _ s from wpAny_bind (wpAny_newList (wpAny_pure ⟨Code.quiet_builtin _ (by decide +kernel), codeAny_builtin entry_list_iadd' ?_⟩)))))
  show wpAny _ _ (Builtin.List.listExtendWith (.ref s.heap.objs.size) (.ref l) (.ref s.heap.objs.size)) _ _ _
  unfold Builtin.List.listExtendWith
  refine wpAny_bind (wpAny_typeOf (T := "tuple") ⟨o, old, hc⟩ ?_)
  rw [if_pos (show (Builtin.List.listSameRef (.ref s.heap.objs.size) (.ref l) || Value.type "tuple" == Value.type "list" || Value.type "tuple" == Value.type "tuple") = true from Bool.or_true _)]
  refine wpAny_bind (listItems_at old hd (wpAny_bind (listItems_at (xs := #[]) (n := 0) (Heap.get?_push_size _ rfl) rfl ?_)))
  rw [if_neg (by simp)]
  refine wpAny_bind (listUpdate_at (xs := #[]) (n := 0) (Heap.get?_push_size _ rfl) rfl (wpAny_pure ?_) (Nat.zero_le _) z)
  show wpAny (model prog w) A (do
      let o ← load s.heap.objs.size
      match o.data with
      | .seq xs _ => pure xs.toList
      | _ => unsupported "internal:collect") Q E _
  refine wpAny_bind (wpAny_load (get?_update_seq (Heap.get?_push_size _ rfl) _) ?_)
  have back : ((#[] : Array Value) ++ vs.toArray).toList = vs := by simp
  show wpAny _ _ (pure ((#[] : Array Value) ++ vs.toArray).toList) Q E _
  rw [back]
  exact wpAny_pure h
/-- sorted of a tuple, by what its items read as -/
theorem srt_tup {β : Type} {R : Value → β → Prop} {enc : β → PyData} {bs : List β} {Q : Value → Shared → Prop} (ho : s.heap.get? l = some o) (hc : o.cls = .type "tuple") (hd : o.data = .seq vs.toArray n)
    (e : EachIs R vs bs) (er : EachIs (fun v b => ∃ as, Reads s.heap v (enc b) as) vs bs) (hal : AllAlike (bs.map enc)) (hk : Sortable (bs.map enc)) (hL : bs.length ≤ sizeLine) (hu : ∀ b, b ∈ bs → A.units + 2 + (enc b).depth < cLine)
    (h : ∀ out, out.length = bs.length → EachIs R out (bs.mergeSort (dataLe false enc)) → Q (.ref (s.heap.objs.size + 1)) { s with heap := sortedAll s.heap vs (List.toArray out) }) : wpAny (model prog w) A (call (.builtin "sorted") [.ref l]) Q E s := by
  have hv : vs.length ≤ sizeLine := by rw [e.length]; exact hL
  have er' : EachIs (fun v b => ∃ as, Reads (sortingHeap (copyHeap s.heap vs) (s.heap.objs.size + 1) vs) v (enc b) as) vs bs := er.mono fun _ _ ⟨as, r⟩ => ⟨as, PyProof.Rows.Reads.keeps (fun _ _ => sorting_copy_old) r⟩
  have S := SortsAt.data (prog := prog) (w := w) (A := A.in1.in1) (s := { s with heap := sortingHeap (copyHeap s.heap vs) (s.heap.objs.size + 1) vs }) (each_map (R := fun v d => ∃ as, Reads (sortingHeap (copyHeap s.heap vs) (s.heap.objs.size + 1) vs) v d as) enc er') hal hk (bound_map hu)
  have hsz : ((s.heap.push (seqObj "list" #[] 0)).update s.heap.objs.size (Obj.mapSeq (· ++ vs.toArray))).objs.size = s.heap.objs.size + 1 := by
    rw [Heap.size_update, size_push']
  refine call_function_entry_kw kind_sorted plain_sorted entry_sorted (args_sorted1 _) ?_
  unfold Builtin.«sorted»
  refine wpAny_bind (m := checkCount "sorted" 1 1 _) (wpAny_pure (wpAny_bind (gather ho hc hd hv (wpAny_bind (wpAny_newList ?_ hv)))))
  show wpAny _ _ _ _ _ { s with heap := copyHeap s.heap vs }
  rw [hsz]
  refine wpAny_bind (wpAny_holding (wpAny_call_entry_kw slot_list_sort ⟨_, copyHeap_at s.heap vs, rfl⟩ entry_list_sort ?_ (args_list_sort _)))
  exact list_sort_vals (s := { s with heap := copyHeap s.heap vs }) (copyHeap_at s.heap vs) S hv ⟨_, rfl, wpAny_pure ⟨_, rfl, h _ (by rw [sortVals_length false rfl]; exact e.length) (sortVals_data false e er' hal)⟩⟩
end EvU
end
section
set_option Elab.async false
set_option linter.all false
set_option maxRecDepth 100000
set_option autoImplicit false
/-! Built-in functions, isinstance, methods. -/
namespace Ev
open PySem PySem.Spec PyProof.Rows L2

/-! ### numbers as texts -/
theorem mkS_tl (x : Txt) : TL.tl (mkS x) = x := by simp [mkS, TL.tl]
theorem decN_num (n : Nat) : decN n = TL.numL n := rfl
theorem dec_nat (n : Nat) : mkS (decN n) = Str.ofString (toString ((n : Nat) : Int)) := by rw [SX.num_S]; rfl
theorem dec_str (i : Int) : mkS (decI i) = (Str.ofString (toString i)) := by
  unfold decI
  by_cases h : i < 0
  · rw [if_pos h]
    obtain ⟨n, rfl⟩ : ∃ n : Nat, i = Int.negSucc n := by
      cases i with
      | ofNat n => exact absurd h (by simp)
      | negSucc n => exact ⟨n, rfl⟩
    refine TL.ext_tl ?_
    rw [mkS_tl, TL.tl_ofString]
    show 45 :: decN (n + 1) = ((toString (Int.negSucc n)).toList).map Char.toNat
    have e : toString (Int.negSucc n) = "-" ++ toString (((n + 1 : Nat) : Int)) := rfl
    rw [e, String.toList_append, List.map_append]
    have e2 := congrArg TL.tl (dec_nat (n + 1))
    rw [mkS_tl, TL.tl_ofString] at e2
    rw [← e2]
    rfl
  · rw [if_neg h]
    obtain ⟨n, rfl⟩ : ∃ n : Nat, i = (n : Int) := ⟨i.toNat, by omega⟩
    exact dec_nat n
theorem valN_fold (x : Txt) : valN x = NumText.digitsVal x := rfl
theorem decN_digits (n : Nat) : NumText.AllDigits (decN n) := TL.numL_digits n
theorem num_text {x : Txt} {i : Int} (h : numT x = some i) : PySem.intText? (mkS x) = some i ∧ (mkS x).length ≤ 640 := by
  unfold numT at h
  split at h
  · rename_i r
    split at h
    · rename_i c
      cases h
      obtain ⟨c1, c2, c3⟩ := c
      have c1 : decN (valN r) = r := by injection c1
      have hd : NumText.AllDigits r := by rw [← c1]; exact decN_digits _
      have hn : r ≠ [] := by rw [← c1]; exact TL.numL_ne _
      refine ⟨intText_neg (x := mkS (45 :: r)) (cs := r) (mkS_tl _) hd hn (by rw [mkS_len, List.length_cons]; omega), by rw [mkS_len, List.length_cons]; omega⟩
    · cases h
  · split at h
    · rename_i r _ c
      cases h
      obtain ⟨c1, c2⟩ := c
      have hd : NumText.AllDigits x := by rw [← c1]; exact decN_digits _
      have hn : x ≠ [] := by rw [← c1]; exact TL.numL_ne _
      have e := intText_digits (x := mkS x) (show NumText.AllDigits (TL.tl (mkS x)) from by rw [mkS_tl]; exact hd) (show TL.tl (mkS x) ≠ [] from by rw [mkS_tl]; exact hn) (by rw [mkS_len]; omega)
      have el : (mkS x).cps.toList = x := mkS_tl x
      rw [el] at e
      exact ⟨e, by rw [mkS_len]; omega⟩
    · cases h

section
variable {g : Pl} {T : TC} {cf : CF} {np : Nat → Nat} {ef : List (List Str)} {cds : Cds} {E0 : XK} {k : Nat} {sc : Scope} {X : Cx}
/-! ### built-in functions -/
def rLen (K : PySem.W.Frag) : List V → Hp → VK → Prop := fun xs H Q => (∃ p ys, xs = [.ref p] ∧ (SqL K H p ys ∨ SqT K H p ys) ∧ Q (.int ys.length) H) ∨ (∃ z, xs = [.str z] ∧ z.length ≤ sizeLine ∧ Q (.int z.length) H) ∨
  (∃ a kvs, xs = [V.ref a] ∧ H a = some (.dK kvs) ∧ Q (.int kvs.length) H) ∨ rLenT xs H Q
theorem cr_len : CallR X (.builtin "len") (rLen X.K) := call_len_seq.or (call_len_str.or (call_lenD.or call_len_dT))
def rInt : List V → Hp → VK → Prop := fun xs H Q => ((∃ i, xs = [.int i] ∧ Q (.int i) H) ∨ ∃ k, xs = [.bl k] ∧ Q (.int (if k then 1 else 0)) H) ∨ ∃ a n, xs = [.str a] ∧ PySem.intText? a = some n ∧ a.length ≤ 640 ∧ Q (.int n) H
theorem cr_int : CallR X (.type "int") rInt := call_int1.or call_int_str
def rSeqTo (K : PySem.W.Frag) : List V → Hp → VK → Prop := fun xs H Q => ∃ p ys, xs = [.ref p] ∧ (SqL K H p ys ∨ SqT K H p ys) ∧ ∀ l, H l = none → Q (.ref l) (upd H l (.lst ys))
/-! ### sorted -/
theorem isort_ms {α : Type} {le : α → α → Bool} (tr : ∀ a b c, le a b = true → le b c = true → le a c = true) (to : ∀ a b, (le a b || le b a) = true) : ∀ l : List α, isort le l = l.mergeSort le
  | [] => by simp [isort]
  | a :: l => by
    obtain ⟨l1, l2, h1, h2, h3⟩ := List.mergeSort_cons tr to a l
    have hp := List.pairwise_mergeSort tr to (a :: l)
    rw [h1] at hp ⊢
    show insD le a (isort le l) = _
    rw [isort_ms tr to l, h2]
    clear h1 h2
    have h4 : ∀ c r, l2 = c :: r → le a c = true := fun c r e => by
      rw [e, List.pairwise_append] at hp
      exact (List.pairwise_cons.mp hp.2.1).1 c (List.mem_cons_self ..)
    clear hp
    induction l1 with
    | nil =>
      cases l2 with
      | nil => rfl
      | cons c r =>
        show (if le a c then a :: c :: r else c :: insD le a r) = a :: c :: r
        rw [if_pos (h4 c r rfl)]
    | cons b r ih =>
      have hb : le a b = false := by simpa using h3 b (List.mem_cons_self ..)
      show (if le a b then a :: b :: (r ++ l2) else b :: insD le a (r ++ l2)) = b :: (r ++ a :: l2)
      rw [hb, if_neg Bool.false_ne_true, ih fun c hc => h3 c (List.mem_cons_of_mem _ hc)]
theorem ins_map {α β : Type} (f : α → β) (le : α → α → Bool) (le' : β → β → Bool) (h : ∀ a b, le a b = le' (f a) (f b)) (x : α) : ∀ l : List α, (insD le x l).map f = insD le' (f x) (l.map f)
  | [] => rfl
  | y :: r => by
    show ((if le x y then x :: y :: r else y :: insD le x r)).map f = (if le' (f x) (f y) then f x :: f y :: r.map f else f y :: insD le' (f x) (r.map f))
    rw [← h]
    split
    · rfl
    · rw [List.map_cons, ins_map f le le' h x r]
theorem isort_map {α β : Type} (f : α → β) (le : α → α → Bool) (le' : β → β → Bool) (h : ∀ a b, le a b = le' (f a) (f b)) : ∀ l : List α, (isort le l).map f = isort le' (l.map f)
  | [] => rfl
  | x :: r => by
    show (insD le x (isort le r)).map f = insD le' (f x) (isort le' (r.map f))
    rw [ins_map f le le' h, isort_map f le le' h r]
theorem mem_ins {α : Type} {le : α → α → Bool} {x y : α} : ∀ {l : List α}, y ∈ insD le x l → y = x ∨ y ∈ l
  | [], h => .inl (by simpa [insD] using h)
  | z :: r, h => by
    have h : y ∈ (if le x z then x :: z :: r else z :: insD le x r) := h
    split at h
    · rcases List.mem_cons.mp h with h | h
      · exact .inl h
      · exact .inr h
    · rcases List.mem_cons.mp h with h | h
      · exact .inr (by rw [h]; exact List.mem_cons_self ..)
      · rcases mem_ins h with h | h
        · exact .inl h
        · exact .inr (List.mem_cons_of_mem _ h)
theorem mem_isort {α : Type} {le : α → α → Bool} {y : α} : ∀ {l : List α}, y ∈ isort le l → y ∈ l
  | [], h => by cases h
  | x :: r, h => by
    rcases mem_ins (show y ∈ insD le x (isort le r) from h) with h | h
    · rw [h]; exact List.mem_cons_self ..
    · exact List.mem_cons_of_mem _ (mem_isort h)
/-- the items with their values, sorted by what they read as -/
def rSortD (K : PySem.W.Frag) : List V → Hp → VK → Prop := fun vs H Q => ∃ (a : Addr) (bs : List (D × V)), vs = [.ref a] ∧ (SqL K H a (bs.map (·.2)) ∨ SqT K H a (bs.map (·.2))) ∧ sortOk (bs.map (·.1)) = true ∧ (∀ b ∈ bs, Dp K H b.2 (encD b.1)) ∧
  ∀ p, H p = none → Q (.ref p) (upd H p (.lst ((isort (fun x y : D × V => dle x.1 y.1) bs).map (·.2))))
theorem dle_total {α : Type} (k : α → PyData) : (∀ a b c : α, PySem.W.dataLe false k a b = true → PySem.W.dataLe false k b c = true → PySem.W.dataLe false k a c = true) ∧ ∀ a b : α, (PySem.W.dataLe false k a b || PySem.W.dataLe false k b a) = true := by
  have t : PySem.W.TotalLe (PySem.W.dataLe false k) := PySem.W.sortLe_total _ false _
  refine ⟨fun a b c => t.trans a b c, fun a b => ?_⟩
  rcases t.total a b with h | h
  · rw [h]; rfl
  · rw [h, Bool.or_true]
theorem sort_facts {α : Type} {f : α → D} {bs : List α} (h : sortOk (bs.map f) = true) : (∀ b ∈ bs, (encD (f b)).depth ≤ 64) ∧ PySem.W.AllAlike (bs.map fun b => encD (f b)) ∧ PySem.W.Sortable (bs.map fun b => encD (f b)) ∧ bs.length ≤ 1000000 := by
  unfold sortOk at h
  simp only [Bool.and_eq_true, List.all_eq_true, List.mem_map, forall_exists_index, and_imp, forall_apply_eq_imp_iff₂, decide_eq_true_eq, Bool.or_eq_true, List.length_map] at h
  obtain ⟨⟨⟨h1, h2⟩, h3⟩, h4⟩ := h
  refine ⟨fun b hb => (h1 b hb).2, fun d hd d' hd' => ?_, ?_, small_le h4⟩
  · obtain ⟨b, hb, rfl⟩ := List.mem_map.mp hd
    obtain ⟨c, hc, rfl⟩ := List.mem_map.mp hd'
    exact h2 b hb c hc
  · rcases h3 with h3 | h3
    · refine .inl fun d hd => ?_
      obtain ⟨b, hb, rfl⟩ := List.mem_map.mp hd
      have := h3 b hb
      unfold tupB at this
      split at this
      · rename_i x r e; exact ⟨x, r, e⟩
      · cases this
    · refine .inr fun d hd => ?_
      obtain ⟨b, hb, rfl⟩ := List.mem_map.mp hd
      have := h3 b hb
      unfold flatB at this
      split at this
      · cases this
      · cases this
      · rename_i n1 n2; exact ⟨n1, fun xs => n2 xs⟩
theorem each_of {α : Type} {R : Value → α → Prop} : ∀ {us : List Value} {bs : List α} {f : α → V}, Vals (bs.map f) us → (∀ u b, b ∈ bs → L2.RelV (f b) u → R u b) → PySem.W.EachIs R us bs
  | us, [], f, r, h => by
    cases r
    exact .nil
  | us, b :: bs, f, r, h => by
    cases r with
    | cons r1 r2 => exact .cons (h _ b (List.mem_cons_self ..) r1) (each_of r2 fun u c hc => h u c (List.mem_cons_of_mem _ hc))
theorem vals_each {α : Type} {f : α → V} : ∀ {us : List Value} {bs : List α}, PySem.W.EachIs (fun u b => L2.RelV (f b) u) us bs → Vals (bs.map f) us
  | _, _, .nil => .nil
  | _, _, .cons h t => .cons h (vals_each t)
theorem cr_sortD {X : Cx} (hu : X.A.units + 70 < cLine) : CallR X (.builtin "sorted") (rSortD X.K) := by
  intro pins s σ H vs us Q I r h
  obtain ⟨a, bs, rfl, hs, ok, dp, q⟩ := h
  obtain ⟨u, rfl, ru⟩ := L2.vals1 r
  obtain rfl : u = Value.ref a := ru
  obtain ⟨f1, f2, f3, f4⟩ := sort_facts ok
  have hL : bs.length ≤ sizeLine := Nat.le_trans f4 (by decide)
  have t := dle_total fun b : D × V => encD b.1
  have fin : ∀ (its out : List Value), out.length = bs.length → PySem.W.EachIs (fun u (b : D × V) => L2.RelV b.2 u) out (bs.mergeSort (PySem.W.dataLe false fun b : D × V => encD b.1)) → EP X pins σ Q (.ref (s.heap.objs.size + 1)) { s with heap := PyProof.Rows.sortedAll s.heap its (List.toArray out) } := fun its out ho eo => by
    rw [← isort_ms t.1 t.2] at eo
    obtain ⟨ep, he'⟩ := PyProof.Rows.sortedAll_at s.heap its out.toArray
    have rv' := vals_each (f := fun b : D × V => b.2) eo
    have hlen : (List.map (fun b : D × V => b.2) (isort (PySem.W.dataLe false fun b : D × V => encD b.1) bs)).length ≤ sizeLine := by
      rw [rv'.length, ho]
      exact hL
    exact ⟨.ref _, upd H (s.heap.objs.size + 1) (.lst ((isort (fun x y : D × V => dle x.1 y.1) bs).map (·.2))), I.laid (t' := s.toks) (fun _ _ => PyProof.Rows.sortedAll_old) (Nat.le_succ _) ⟨hlen, out, ep, rv', he'⟩, rfl, q _ (I.hok.fresh (Nat.le_succ _))⟩
  rcases hs with hs | hs
  · obtain ⟨its, rv, hl, hz⟩ := I.list hs
    have e : PySem.W.EachIs (fun u (b : D × V) => L2.RelV b.2 u) its bs := each_of rv fun u b _ h => h
    have er : PySem.W.EachIs (fun u (b : D × V) => ∃ as, Reads s.heap u (encD b.1) as) its bs := each_of rv fun u b hb h => Dp.reads I _ _ u (dp b hb) h
    exact PySem.W.sorted_data hl.isList e er f2 f3 hL (fun b hb => by have := f1 b hb; omega) fun out ho eo => fin its out ho eo
  · obtain ⟨its, rv, ⟨ob, e2, hc, n2, hd⟩, _⟩ := I.tuple hs
    have e : PySem.W.EachIs (fun u (b : D × V) => L2.RelV b.2 u) its bs := each_of rv fun u b _ h => h
    have er : PySem.W.EachIs (fun u (b : D × V) => ∃ as, Reads s.heap u (encD b.1) as) its bs := each_of rv fun u b hb h => Dp.reads I _ _ u (dp b hb) h
    exact EvU.srt_tup e2 hc hd e er f2 f3 hL (fun b hb => by have := f1 b hb; omega) fun out ho eo => fin its out ho eo
theorem zip_rep {g : Pl} {ρ : List Addr} {H : Hp} : ∀ {xs : List D} {ws : List V}, repL g ρ H xs ws → ∀ p ∈ xs.zip ws, rep g ρ H p.1 p.2
  | [], ws, h, p, hp => by simp at hp
  | x :: xs, ws, h, p, hp => by
    simp only [repL] at h
    obtain ⟨w, t, rfl, h1, h2⟩ := h
    rcases List.mem_cons.mp hp with e | hp
    · subst e; exact h1
    · exact zip_rep h2 p hp
theorem repL_pairs {g : Pl} {ρ : List Addr} {H : Hp} : ∀ {zs : List (D × V)}, (∀ p ∈ zs, rep g ρ H p.1 p.2) → repL g ρ H (zs.map (·.1)) (zs.map (·.2))
  | [], _ => by simp only [List.map_nil, repL]
  | z :: zs, h => by
    simp only [List.map_cons, repL]
    exact ⟨_, _, rfl, h z (List.mem_cons_self ..), repL_pairs fun p hp => h p (List.mem_cons_of_mem _ hp)⟩
theorem enc_dp {g : Pl} {ρ : List Addr} {H : Hp} {d : D} {v : V} (h : (d.toP fun _ => none).isSome = true) (r : rep g ρ H d v) : Dp g.K H v (encD d) := by
  obtain ⟨p, hp⟩ := Option.isSome_iff_exists.mp h
  have e : encD d = p := by unfold encD; rw [hp]; rfl
  rw [e]
  exact toP_dp (rf := fun _ => none) (fun n d v h => by cases h) d p v hp r
def biR (K : PySem.W.Frag) : Bi → List V → Hp → VK → Prop
  | .len => rLen K
  | .int => rInt
  | .str => fun xs H Q => ∃ i : Int, xs = [.int i] ∧ i.natAbs.log2 < 1920 ∧ Q (.str (toString i)) H
  | .abs => fun xs H Q => ∃ i, xs = [.int i] ∧ Q (.int (if i < 0 then -i else i)) H
  | .tuple => fun xs H Q => ∃ p ys, xs = [.ref p] ∧ ((SqL K H p ys ∧ ∀ l, H l = none → Q (.ref l) (upd H l (.tup ys))) ∨ (SqT K H p ys ∧ Q (.ref p) H))
  | .list => rSeqTo K
  | .sorted => rSortD K
  | .gcd => rGcd
theorem vals1 {ρ : List Addr} {H : Hp} {d : D} {vs : List V} (r : repL g ρ H [d] vs) : ∃ v, vs = [v] ∧ rep g ρ H d v := by
  simp only [repL] at r
  obtain ⟨v, t, rfl, h, rfl⟩ := r
  exact ⟨v, rfl, h⟩
theorem vals2 {ρ : List Addr} {H : Hp} {d e : D} {vs : List V} (r : repL g ρ H [d, e] vs) : ∃ v w, vs = [v, w] ∧ rep g ρ H d v ∧ rep g ρ H e w := by
  simp only [repL] at r
  obtain ⟨v, t, rfl, h, w, t, rfl, h2, rfl⟩ := r
  exact ⟨v, w, rfl, h, h2⟩
theorem srt_case {ρ : List Addr} {S : Sto} {H : Hp} {Q : VK} {xs : List D} {ws : List V} {a : Addr} (s : Sim g ρ S H) (ra : repL g ρ H xs ws) (p : post g ef E0 (rep g) ρ H (pr ((sortF xs).map fun ys => new (.lst ys) S)) Q)
    (hs : ∀ zs : List (D × V), zs.map (·.2) = ws → SqL g.K H a (zs.map (·.2)) ∨ SqT g.K H a (zs.map (·.2))) : rSortD g.K [.ref a] H Q := by
  unfold sortF at p
  split at p
  · rename_i hok
    have hl := repL_length ra
    have e1 : (xs.zip ws).map (·.1) = xs := List.map_fst_zip (by rw [hl]; exact Nat.le_refl _)
    have e2 : (xs.zip ws).map (·.2) = ws := List.map_snd_zip (by rw [hl]; exact Nat.le_refl _)
    refine ⟨a, xs.zip ws, rfl, hs _ e2, by rw [e1]; exact hok, fun b hb => ?_, ?_⟩
    · have hk := hok
      unfold sortOk at hk
      simp only [Bool.and_eq_true, List.all_eq_true] at hk
      exact enc_dp (hk.1.1.1 b.1 (List.of_mem_zip hb).1).1 (zip_rep ra b hb)
    · refine new_lst s ?_ p
      have e3 := isort_map (fun b : D × V => b.1) (fun x y : D × V => dle x.1 y.1) dle (fun _ _ => rfl) (xs.zip ws)
      rw [e1] at e3
      rw [← e3]
      exact repL_pairs fun q hq => zip_rep ra q (mem_isort hq)
  · exact p.elim
theorem bi_sound {ρ : List Addr} {S : Sto} {H : Hp} {Q : VK} {b : Bi} {ds : List D} {vs : List V} (s : Sim g ρ S H) (r : repL g ρ H ds vs) (p : post g ef E0 (rep g) ρ H (pr (biF b ds S)) Q) : biR g.K b vs H Q := by
  unfold biF at p
  split at p
  · rename_i x
    obtain ⟨v, rfl, rv⟩ := vals1 r
    split at p
    · rename_i hs
      obtain rfl := rep_str rv
      exact .inr (.inl ⟨_, rfl, by rw [mkS_len]; exact small_sz hs, by rw [mkS_len]; exact post_ok p s (by simp only [rep])⟩)
    · exact p.elim
  · obtain ⟨v, rfl, rv⟩ := vals1 r
    obtain ⟨a, ws, rfl, ha, ra⟩ := rep_tup rv
    exact .inl ⟨a, ws, rfl, .inr (sqT ha), by rw [repL_length ra]; exact post_ok p s (by simp only [rep])⟩
  · rename_i t xs
    obtain ⟨v, rfl, rv⟩ := vals1 r
    obtain ⟨a, ws, rfl, ha, ra⟩ := rep_frz rv
    have q := post_ok p s (v := .int xs.length) (by simp only [rep])
    rw [← repL_length ra] at q
    cases t with
    | true => exact .inl ⟨a, ws, rfl, .inr ha, q⟩
    | false => exact .inl ⟨a, ws, rfl, .inl ha, q⟩
  · obtain ⟨v, rfl, rv⟩ := vals1 r
    split at p
    · rename_i xs hs
      obtain ⟨a, ws, _, rfl, ha, ra⟩ := rep_lst s hs rv
      exact .inl ⟨a, ws, rfl, .inl (sqL ha), by rw [repL_length ra]; exact post_ok p s (by simp only [rep])⟩
    · rename_i kvs hs
      obtain ⟨a, u, _, rfl, ha, ws, rfl, ra⟩ := rep_obj s hs rv
      exact .inr (.inr (.inl ⟨a, ws, rfl, ha, by rw [repK_len ra]; exact post_ok p s (by simp only [rep])⟩))
    · rename_i kvs hs
      obtain ⟨a, u, _, rfl, ha, ws, rfl, ra⟩ := rep_obj s hs rv
      exact .inr (.inr (.inr ⟨a, ws, rfl, ha, by rw [repK_len ra]; exact post_ok p s (by simp only [rep])⟩))
    · exact p.elim
  · obtain ⟨v, rfl, rv⟩ := vals1 r
    obtain rfl := rep_int rv
    exact .inl (.inl ⟨_, rfl, post_ok p s rv⟩)
  · obtain ⟨v, rfl, rv⟩ := vals1 r
    obtain rfl := rep_bl rv
    exact .inl (.inr ⟨_, rfl, post_ok p s (by simp only [rep])⟩)
  · rename_i x
    obtain ⟨v, rfl, rv⟩ := vals1 r
    obtain rfl := rep_str rv
    cases hx : numT x with
    | none => rw [hx] at p; exact p.elim
    | some i =>
      rw [hx] at p
      obtain ⟨h1, h2⟩ := num_text hx
      exact .inr ⟨_, i, rfl, h1, h2, post_ok p s (by simp only [rep])⟩
  · rename_i i
    obtain ⟨v, rfl, rv⟩ := vals1 r
    obtain rfl := rep_int rv
    split at p
    · rename_i h
      exact ⟨i, rfl, h, post_ok p s (by simp only [rep]; rw [dec_str])⟩
    · exact p.elim
  · obtain ⟨v, rfl, rv⟩ := vals1 r
    obtain rfl := rep_int rv
    exact ⟨_, rfl, post_ok p s (by simp only [rep])⟩
  · obtain ⟨v, rfl, rv⟩ := vals1 r
    obtain ⟨a, ws, rfl, ha, ra⟩ := rep_tup rv
    exact ⟨a, ws, rfl, .inr ⟨sqT ha, post_ok p s rv⟩⟩
  · obtain ⟨v, rfl, rv⟩ := vals1 r
    split at p
    · rename_i xs hs
      obtain ⟨a, ws, _, rfl, ha, ra⟩ := rep_lst s hs rv
      exact ⟨a, ws, rfl, .inl ⟨sqL ha, new_tup s ra p⟩⟩
    · exact p.elim
  · obtain ⟨v, rfl, rv⟩ := vals1 r
    obtain ⟨a, ws, rfl, ha, ra⟩ := rep_tup rv
    exact ⟨a, ws, rfl, .inr (sqT ha), new_lst s ra p⟩
  · rename_i t xs
    obtain ⟨v, rfl, rv⟩ := vals1 r
    obtain ⟨a, ws, rfl, ha, ra⟩ := rep_frz rv
    cases t with
    | true => exact ⟨a, ws, rfl, .inr ha, new_lst s ra p⟩
    | false => exact ⟨a, ws, rfl, .inl ha, new_lst s ra p⟩
  · obtain ⟨v, rfl, rv⟩ := vals1 r
    split at p
    · rename_i xs hs
      obtain ⟨a, ws, _, rfl, ha, ra⟩ := rep_lst s hs rv
      exact ⟨a, ws, rfl, .inl (sqL ha), new_lst s ra p⟩
    · exact p.elim
  · obtain ⟨v, rfl, rv⟩ := vals1 r
    split at p
    · rename_i xs hs
      obtain ⟨a, ws, _, rfl, ha, ra⟩ := rep_lst s hs rv
      exact srt_case s ra p (fun zs hz => by rw [hz]; exact .inl (sqL ha))
    · exact p.elim
  · rename_i xs
    obtain ⟨v, rfl, rv⟩ := vals1 r
    obtain ⟨a, ws, rfl, ha, ra⟩ := rep_tup rv
    exact srt_case s ra p (fun zs hz => by rw [hz]; exact .inr (sqT ha))
  · obtain ⟨v, w, rfl, rv, rw'⟩ := vals2 r
    obtain rfl := rep_int rv
    obtain rfl := rep_int rw'
    exact ⟨_, _, rfl, post_ok p s (by simp only [rep])⟩
  · exact p.elim
/-- the words of built-in functions -/
theorem s_bi (C : Ct g T cf np ef cds E0 k sc X) {x : Str} {b : Bi} (hb : trBi x = some b) (hg : isGlb sc x = true) {a : Expr} {es : List Expr} {es' : Es} (ha : PA X (a :: es) (tL g cf ef cds E0 es')) (hs : (a :: es).any isStar = false) (p pos : Pos) :
    PE X (.Call (.Name x p) (a :: es) [] pos) (tS g cf ef cds E0 (.bi b es')) := by
  have glb := C.glb _ hg
  have bl : ∀ y ∈ bltFree, X.mg y = none := C.blt
  simp only [List.any_cons, Bool.or_eq_false_iff] at hs
  have h1 := star_of hs.1 es X.env
  have h2 := star_back pos X.env hs.2
  have main : PE X (.Call (.Name x p) (a :: es) [] pos) (tCB (biR X.K b) (tL g cf ef cds E0 es')) := by
    unfold trBi at hb
    split at hb
    · rename_i e; subst e; cases hb
      exact pe_callB cr_len glb (bl _ (by decide)) boot_len ha (by decide) (by decide) h1 h2
    split at hb
    · rename_i e; subst e; cases hb
      exact pe_callTy cr_int glb (bl _ (by decide)) (by decide +kernel) ha (by decide) (by decide) h1 h2
    split at hb
    · rename_i e; subst e; cases hb
      exact pe_callTy call_str_int glb (bl _ (by decide)) (by decide +kernel) ha (by decide) (by decide) h1 h2
    split at hb
    · rename_i e; subst e; cases hb
      exact pe_callB call_abs glb (bl _ (by decide)) (by decide +kernel) ha (by decide) (by decide) h1 h2
    split at hb
    · rename_i e; subst e; cases hb
      exact pe_callTy call_tuple_of glb (bl _ (by decide)) (by decide +kernel) ha (by decide) (by decide) h1 h2
    split at hb
    · rename_i e; subst e; cases hb
      exact pe_callTy call_list_of glb (bl _ (by decide)) (by decide +kernel) ha (by decide) (by decide) h1 h2
    split at hb
    · rename_i e; subst e; cases hb
      exact pe_callB (cr_sortD (by have := C.room.un; omega)) glb (bl _ (by decide)) (by decide +kernel) ha (by decide) (by decide) h1 h2
    split at hb
    · rename_i e; subst e; cases hb
      exact pe_callBfun cr_gcd glb C.gcd ha (by decide) h1 h2
    · cases hb
  refine PE.imp main ?_
  rintro σ H Q ⟨ρ, S, env, s, e, p⟩
  simp only [evE] at p
  refine tL_bind s e p fun vs H1 ds S1 ρ1 s1 e1 L1 r1 p1 => ?_
  rw [C.K]
  exact bi_sound s1 r1 p1
/-! ### isinstance -/
def tyN : Ty → String
  | .str => "str" | .int => "int" | .bool => "bool" | .tuple => "tuple" | .list => "list"
theorem isTy_sound {ρ : List Addr} {S : Sto} {H : Hp} {ty : Ty} {x : D} {v : V} {b : Bool} (s : Sim g ρ S H) (r : rep g ρ H x v) (e : isTy ty x S = some b) : ∃ t, TyX g.K H v t ∧ PySem.W.kitOne g.K t (.type (tyN ty)) = some b := by
  cases x with
  | non =>
    obtain rfl := rep_Non r
    refine ⟨_, .base .non, ?_⟩
    cases ty <;> simp only [isTy, Option.some.injEq] at e <;> subst e <;> rfl
  | bl c =>
    obtain rfl := rep_bl r
    refine ⟨_, .base (.bl c), ?_⟩
    cases ty <;> simp only [isTy, Option.some.injEq] at e <;> subst e <;> rfl
  | int c =>
    obtain rfl := rep_int r
    refine ⟨_, .base (.int c), ?_⟩
    cases ty <;> simp only [isTy, Option.some.injEq] at e <;> subst e <;> rfl
  | str c =>
    obtain rfl := rep_str r
    refine ⟨_, .base (.str _), ?_⟩
    cases ty <;> simp only [isTy, Option.some.injEq] at e <;> subst e <;> rfl
  | tup c =>
    obtain ⟨a, ws, rfl, ha, ra⟩ := rep_tup r
    refine ⟨_, .base (.tup ha), ?_⟩
    cases ty <;> simp only [isTy, Option.some.injEq] at e <;> subst e <;> rfl
  | frz t c =>
    simp only [rep] at r
    obtain ⟨a, ws, rfl, ha, ra⟩ := r
    cases t with
    | true =>
      obtain ⟨o, its, n, h1, h2, h3, _⟩ := (show FzT g.K a ws from ha)
      refine ⟨_, .kTuple h1 h2, ?_⟩
      cases ty <;> simp only [isTy, Option.some.injEq] at e <;> subst e <;> rfl
    | false =>
      rcases (show FzL g.K H a ws from ha) with ⟨o, h⟩ | ⟨o, its, n, h1, h2, h3, _⟩
      · refine ⟨_, .base (.frz h), ?_⟩
        cases ty <;> simp only [isTy, Option.some.injEq] at e <;> subst e <;> rfl
      · refine ⟨_, .kList h1 h2, ?_⟩
        cases ty <;> simp only [isTy, Option.some.injEq] at e <;> subst e <;> rfl
  | ref n =>
    cases hs : S[n]? with
    | none => cases ty <;> simp only [isTy, hs, reduceCtorEq] at e
    | some o =>
      cases o with
      | lst xs =>
        obtain ⟨a, ws, _, rfl, ha, ra⟩ := rep_lst s hs r
        refine ⟨_, .base (.lst ha), ?_⟩
        cases ty <;> simp only [isTy, hs, Option.some.injEq] at e <;> subst e <;> rfl
      | dK _ => cases ty <;> simp only [isTy, hs, reduceCtorEq] at e
      | dT _ => cases ty <;> simp only [isTy, hs, reduceCtorEq] at e
      | lk _ => cases ty <;> simp only [isTy, hs, reduceCtorEq] at e
  | fn i => cases ty <;> simp only [isTy, reduceCtorEq] at e
  | cd i => cases ty <;> simp only [isTy, reduceCtorEq] at e
theorem trTy_of {y : Str} {ty : Ty} (h : trTy y = some ty) : y = Str.ofString (tyN ty) ∧ y ∈ bltFree ∧ bootBuiltins y = some (.type (tyN ty)) ∧ y ≠ "__name__" ∧ (y == ("__debug__" : Str)) = false := by
  unfold trTy at h
  split at h
  · rename_i e; subst e; cases h
    exact ⟨rfl, by decide, by decide +kernel, by decide, by decide⟩
  split at h
  · rename_i e; subst e; cases h
    exact ⟨rfl, by decide, by decide +kernel, by decide, by decide⟩
  split at h
  · rename_i e; subst e; cases h
    exact ⟨rfl, by decide, by decide +kernel, by decide, by decide⟩
  split at h
  · rename_i e; subst e; cases h
    exact ⟨rfl, by decide, by decide +kernel, by decide, by decide⟩
  split at h
  · rename_i e; subst e; cases h
    exact ⟨rfl, by decide, by decide +kernel, by decide, by decide⟩
  · cases h
theorem s_inst (C : Ct g T cf np ef cds E0 k sc X) {y : Str} {ty : Ty} (hy : trTy y = some ty) (hg : isGlb sc "isinstance" = true) (hgy : isGlb sc y = true) {a : Expr} {a' : E} (ha : PE X a (tS g cf ef cds E0 a')) (hs : isStar a = false) (p p2 pos : Pos) :
    PE X (.Call (.Name "isinstance" p) [a, .Name y p2] [] pos) (tS g cf ef cds E0 (.inst ty a')) := by
  obtain ⟨_, h1, h2, h3, h4⟩ := trTy_of hy
  have hT : PE X (.Name y p2) (tC (.ty (tyN ty))) := pe_bltn (C.glb _ hgy) (C.blt _ h1) h2 rfl h3 h4
  refine PE.imp (pe_callB call_isi (C.glb _ hg) (C.blt _ (by decide)) PyProof.Rows.boot_isinstance (pa_cons ha (pa_cons hT pa_nil rfl) (star_of hs _ _)) (by decide) (by decide) (star_of hs _ _) rfl) ?_
  rintro σ H Q ⟨ρ, S, env, s, e, p⟩
  simp only [evE] at p
  refine tS_bind s e p fun v H1 x S1 ρ1 s1 e1 L1 r1 p1 => ?_
  obtain ⟨b, hb, q⟩ := post_bo p1 s1
  obtain ⟨t, ht, hk⟩ := isTy_sound s1 r1 hb
  rw [C.K]
  exact ⟨v, .ty (tyN ty), t, .type (tyN ty), b, rfl, .ty _, ht, hk, q⟩
end
end Ev
end
section
set_option Elab.async false
set_option linter.all false
set_option maxRecDepth 100000
set_option autoImplicit false
/-! Methods. -/
namespace Ev
open PySem PySem.Spec PyProof.Rows L2

section
variable {g : Pl} {T : TC} {cf : CF} {np : Nat → Nat} {ef : List (List Str)} {cds : Cds} {E0 : XK} {k : Nat} {sc : Scope} {X : Cx}
theorem items_V {ρ : List Addr} {S : Sto} {H : Hp} {d : D} {v : V} {xs : List D} (s : Sim g ρ S H) (r : rep g ρ H d v) (e : itemsOf d S = some xs) : ∃ a ws, v = .ref a ∧ (SqL g.K H a ws ∨ SqT g.K H a ws) ∧ repL g ρ H xs ws := by
  unfold itemsOf at e
  split at e
  · cases e
    obtain ⟨a, ws, rfl, ha, ra⟩ := rep_tup r
    exact ⟨a, ws, rfl, .inr (sqT ha), ra⟩
  · rename_i t xs'
    cases e
    obtain ⟨a, ws, rfl, ha, ra⟩ := rep_frz r
    refine ⟨a, ws, rfl, ?_, ra⟩
    cases t with
    | true => exact .inr ha
    | false => exact .inl ha
  · split at e
    · rename_i hs
      cases e
      obtain ⟨a, ws, _, rfl, ha, ra⟩ := rep_lst s hs r
      exact ⟨a, ws, rfl, .inl (sqL ha), ra⟩
    · cases e
  · cases e
theorem strs_V {ρ : List Addr} {H : Hp} : ∀ {xs : List D} {ts : List Txt} {vs : List V}, strsOf xs = some ts → repL g ρ H xs vs → vs = (ts.map mkS).map V.str
  | [], ts, vs, e, r => by
    simp only [strsOf, Option.some.injEq] at e
    simp only [repL] at r
    subst e; subst r
    rfl
  | x :: xs, ts, vs, e, r => by
    simp only [repL] at r
    obtain ⟨v, t, rfl, h1, h2⟩ := r
    cases x <;> simp only [strsOf, reduceCtorEq] at e
    obtain ⟨us, hu, rfl⟩ := Option.map_eq_some_iff.mp e
    rw [strs_V hu h2, rep_str h1]
    rfl
theorem V_strs {ρ : List Addr} {H : Hp} : ∀ (ts : List Txt), repL g ρ H (ts.map .str) ((ts.map mkS).map V.str)
  | [] => by simp only [List.map_nil, repL]
  | t :: ts => by
    simp only [List.map_cons, repL]
    exact ⟨_, _, rfl, by simp only [rep], V_strs ts⟩
theorem join_L (y : Txt) : ∀ ts : List Txt, joinT y ts = TL.joinL y ts
  | [] => rfl
  | [_] => rfl
  | p :: q :: r => by
    show p ++ (y ++ joinT y (q :: r)) = p ++ (y ++ TL.joinL y (q :: r))
    rw [join_L y (q :: r)]
theorem tls (ts : List Txt) : (ts.map mkS).map TL.tl = ts := by
  rw [List.map_map]
  have : (TL.tl ∘ mkS) = id := funext fun x => mkS_tl x
  rw [this, List.map_id]
theorem join_V (y : Txt) (ts : List Txt) : Txt.join (mkS y) (ts.map mkS) = mkS (joinT y ts) := by
  refine TL.ext_tl ?_
  rw [TL.join_eq, TL.tl_join, mkS_tl, mkS_tl, tls, join_L]
theorem len_V : ∀ ts : List Txt, ((ts.map mkS).map (·.length)).sum = lenL ts
  | [] => rfl
  | t :: ts => by
    rw [List.map_cons, List.map_cons, List.sum_cons, len_V ts, mkS_len]
    rfl
theorem pre_one (c d : Nat) (r : Txt) : TL.pre [c] (d :: r) = decide (d = c) := by
  show ([d] == [c]) = decide (d = c)
  rw [Bool.eq_iff_iff]
  simp
theorem splitT_cons (c d : Nat) (acc r : Txt) : splitT c acc (d :: r) = if d = c then acc :: splitT c [] r else splitT c (acc ++ [d]) r := rfl
theorem partT_cons (c d : Nat) (acc r : Txt) : partT c acc (d :: r) = if d = c then (acc, [c], r) else partT c (acc ++ [d]) r := rfl
theorem split_spl (c : Nat) : ∀ (x acc : Txt), TL.spl [c] 0 acc x = splitT c acc x
  | [], acc => rfl
  | d :: r, acc => by
    by_cases e : d = c
    · rw [TL.spl_hit (by rw [pre_one]; simpa using e)]
      show acc :: TL.spl [c] 0 [] r = _
      rw [split_spl c r [], splitT_cons, if_pos e]
    · rw [TL.spl_miss (by rw [pre_one]; simpa using e), split_spl c r, splitT_cons, if_neg e]
theorem one_ok {c : Nat} (h : Nat.blt c 256 = true) : (mkS [c]).cps.all (· < 256) = true := by
  have h := Nat.le_of_ble_eq_true h
  show (#[c] : Array Nat).all (· < 256) = true
  simp
  omega
theorem map_tl {ys : List Str} {ts : List Txt} (h : ys.map TL.tl = ts) : ys = ts.map mkS := TL.map_tl_inj (by rw [h, tls])
theorem split_V (x : Txt) {c : Nat} (h : Nat.blt c 256 = true) : Txt.split (mkS x) (mkS [c]) = (splitT c [] x).map mkS := by
  refine map_tl ?_
  rw [TL.split_spl _ _ (by rw [mkS_tl]; simp) (TL.kind_ok (one_ok h)), mkS_tl, mkS_tl, split_spl]
theorem part_par (c : Nat) : ∀ (x acc : Txt), (match TL.par [c] acc x with
    | some (a, b) => (a, [c], b)
    | none => (acc ++ x, [], [])) = partT c acc x
  | [], acc => by
    show (acc ++ [], [], []) = (acc, [], [])
    rw [List.append_nil]
  | d :: r, acc => by
    by_cases e : d = c
    · rw [TL.par_hit (by rw [pre_one]; simpa using e)]
      rw [partT_cons, if_pos e]
      rfl
    · rw [TL.par_miss (by rw [pre_one]; simpa using e)]
      rw [partT_cons, if_neg e, ← part_par c r]
      simp [List.append_assoc]
theorem part_V (x : Txt) (c : Nat) : Txt.partition (mkS x) (mkS [c]) = (mkS (partT c [] x).1, mkS (partT c [] x).2.1, mkS (partT c [] x).2.2) := by
  rw [TL.partition_par _ _ (by rw [mkS_tl]; simp), mkS_tl, mkS_tl, ← part_par c x []]
  cases TL.par [c] [] x with
  | none => rfl
  | some p => rfl
theorem find_V (x : Txt) : ∀ (ts : List Txt) (k n : Nat), findT x ts k = some n → k ≤ n ∧ (ts.map mkS)[n - k]? = some (mkS x) ∧ ∀ m, m < n - k → (ts.map mkS)[m]? ≠ some (mkS x)
  | [], k, n, h => by cases h
  | y :: r, k, n, h => by
    unfold findT at h
    split at h
    · rename_i e
      cases h
      subst e
      rw [Nat.sub_self]
      exact ⟨Nat.le_refl _, rfl, fun m hm => absurd hm (Nat.not_lt_zero m)⟩
    · rename_i e
      obtain ⟨h1, h2, h3⟩ := find_V x r (k + 1) n h
      have e2 : n - k = (n - (k + 1)) + 1 := by omega
      rw [e2]
      refine ⟨by omega, by simpa using h2, fun m hm => ?_⟩
      cases m with
      | zero =>
        intro h
        simp only [List.map_cons, List.getElem?_cons_zero, Option.some.injEq] at h
        exact e (mkS_inj h)
      | succ m =>
        intro h
        exact h3 m (by omega) (by simpa using h)
/-! ### methods -/
def rExtT (K : PySem.W.Frag) : V → List V → Hp → VK → Prop := fun x vs H Q => ∃ l b xs zs, x = .ref l ∧ vs = [.ref b] ∧ H l = some (.lst xs) ∧ SqT K H b zs ∧ xs.length + zs.length ≤ sizeLine ∧ Q .non (upd H l (.lst (xs ++ zs)))
theorem ext_tup (l : Addr) (items : Array Value) (n : Nat) (b : Addr) (ob : Obj) (items2 : Array Value) (n2 : Nat) (hc : ob.cls = .type "tuple") (hd : ob.data = .seq items2 n2) (hs0 : ¬(!items.isEmpty && Builtin.List.listTooLong (items.size + items2.size)) = true) (hs1 : items.size ≤ sizeLine) (hs2 : items.size + items2.size ≤ sizeLine + 1) :
    Meets (Builtin.«list.extend» ⟨[.ref l, .ref b], []⟩) (fun _ R s => s.heap.get? l = some { cls := .type "list", dict := none, data := .seq items n, slots := #[] } ∧ s.heap.get? b = some ob ∧ R (.ok (.ret Value.none)) { s with heap := s.heap.update l (Obj.mapSeq fun x => x ++ items2), toks := s.toks }) :=
  .of_wp fun prog w A R s h => by
    obtain ⟨oc, od, dt, sl⟩ := ob
    simp only at hc hd
    subst hc; subst hd
    obtain ⟨hp, g, d, tk, os⟩ := s; obtain ⟨hl, hb, h⟩ := h; have f1 := AutoSeq1.idx_int; have f2 := AutoSeq1.sub_tuple_tuple; have f3 := AutoSeq1.sub_list_list; have f4 := AutoSeq1.sub_tuple_list; have f5 := AutoSeq1.sub_list_tuple;
    have hz' : (items ++ items2).size ≤ sizeLine + 1 := by rw [Array.size_append]; exact hs2
    wp_walk using (wpAny_updateSeq hl rfl (hz := hs1) (_hz' := hz')), wpAny_loadPart' hl, wpAny_loadPart' hb; exact ⟨_, rfl, h⟩
theorem mt_extT : MtM X "list.extend" (rExtT X.K) := by
  intro pins s σ H x vs v us Q I rx rv h
  obtain ⟨l, b, xs, zs, rfl, rfl, hH, hB, hz, q⟩ := h
  cases rx
  obtain ⟨u, rfl, ru⟩ := rv.one
  cases ru
  obtain ⟨z, its, n, r, hl, e⟩ := I.lstM hH
  obtain ⟨its2, r2, ⟨ob, e2, hc, n2, hd⟩, _⟩ := I.tuple hB
  have hl2 := r2.length
  have hsz : its.toArray.size + its2.toArray.size ≤ sizeLine := by rw [List.size_toArray, List.size_toArray]; omega
  have hlong : ¬ (!its.toArray.isEmpty && Builtin.List.listTooLong (its.toArray.size + its2.toArray.size)) = true := by
    rw [notLongL hsz, Bool.and_false]
    exact Bool.false_ne_true
  refine call_meets PySem.F.slot_list_extend ⟨_, e, rfl⟩ PySem.F.entry_list_extend (PySem.F.args_list_extend_2 _ _)
    (ext_tup l its.toArray n b ob its2.toArray n2 hc hd hlong (by rw [List.size_toArray]; omega) (by omega)) ⟨e, e2, ?_⟩
  refine ⟨.non, _, I.lset (its' := its ++ its2) hH e (by simp) (r.append r2) ?_, rfl, q⟩
  rw [List.length_append]
  omega
def metR (K : PySem.W.Frag) : Mt → V → List V → Hp → VK → Prop
  | .append => rAppend
  | .extend => fun x xs H Q => rExtend x xs H Q ∨ rExtT K x xs H Q
  | .join => fun x xs H Q => ∃ a p, ∃ ys : List Str, x = .str a ∧ xs = [.ref p] ∧ (SqL K H p (ys.map V.str) ∨ SqT K H p (ys.map V.str)) ∧ (ys.map (·.length)).sum + ys.length * a.length ≤ 16777216 ∧ Q (.str (Txt.join a ys)) H
  | .split => fun x xs H Q => ∃ a b, x = .str a ∧ xs = [.str b] ∧ (b.length == 0) = false ∧ a.length + 2 ≤ sizeLine ∧ rNewStrs (Txt.split a b) H Q
  | .partition => fun x xs H Q => ∃ a b, x = .str a ∧ xs = [.str b] ∧ (b.length == 0) = false ∧ a.length ≤ sizeLine ∧ ∀ p, H p = none → Q (.ref p) (upd H p (.tup [.str (Txt.partition a b).1, .str (Txt.partition a b).2.1, .str (Txt.partition a b).2.2]))
  | .index => fun x xs H Q => ∃ p, ∃ ys : List Str, ∃ z j, x = .ref p ∧ xs = [.str z] ∧ SqT K H p (ys.map V.str) ∧ ys[j]? = some z ∧ (∀ m, m < j → ys[m]? ≠ some z) ∧ Q (.int (j : Nat)) H
def mtT : Mt → String
  | .append => "list" | .extend => "list" | .join => "str" | .split => "str" | .partition => "str" | .index => "tuple"
theorem recv_V {ρ : List Addr} {S : Sto} {H : Hp} {m : Mt} {x : D} {v : V} (s : Sim g ρ S H) (r : rep g ρ H x v) (e : recv m x S = true) : tyV g.K (mtT m) v H := by
  unfold recv at e
  split at e
  · split at e
    · rename_i hs
      obtain ⟨a, ws, _, rfl, ha, ra⟩ := rep_lst s hs r
      exact .inl ⟨rfl, ws, sqL ha⟩
    · cases e
  · split at e
    · rename_i hs
      obtain ⟨a, ws, _, rfl, ha, ra⟩ := rep_lst s hs r
      exact .inl ⟨rfl, ws, sqL ha⟩
    · cases e
  · obtain rfl := rep_str r; rfl
  · obtain rfl := rep_str r; rfl
  · obtain rfl := rep_str r; rfl
  · simp only [rep] at r
    obtain ⟨a, ws, rfl, hf, _⟩ := r
    obtain ⟨o, its, n, h1, h2, h3, _⟩ := (show FzT g.K a ws from hf)
    exact .inr (.inl ⟨rfl, o, h1, h2, h3⟩)
  · cases e
theorem met_sound {ρ : List Addr} {S : Sto} {H : Hp} {Q : VK} {m : Mt} {x : D} {v : V} {ds : List D} {vs : List V} (s : Sim g ρ S H) (rx : rep g ρ H x v) (r : repL g ρ H ds vs) (p : post g ef E0 (rep g) ρ H (pr (metF m x ds S)) Q) : metR g.K m v vs H Q := by
  unfold metF at p
  split at p
  · obtain ⟨w, rfl, rw'⟩ := vals1 r
    split at p
    · rename_i xs hs
      split at p
      · rename_i hz
        obtain ⟨a, ws, ea, rfl, ha, ra⟩ := rep_lst s hs rx
        refine ⟨a, ws, w, rfl, rfl, ha, by rw [repL_length ra]; exact small_lt hz, ?_⟩
        exact put_ob s ea (o := .lst _) (u := .lst (ws ++ [w])) ⟨_, rfl, repL_append ra (by simp only [repL]; exact ⟨w, [], rfl, rw', rfl⟩)⟩ (nf_lst ha) p fun H' L => by simp only [rep]
      · exact p.elim
    · exact p.elim
  · obtain ⟨w, rfl, rw'⟩ := vals1 r
    split at p
    · rename_i xs ys h1 h2
      split at p
      · rename_i hz
        obtain ⟨a, ws, ea, rfl, ha, ra⟩ := rep_lst s h1 rx
        obtain ⟨b, us, eb, rfl, hb, rb⟩ := rep_lst s h2 rw'
        refine .inl ⟨a, b, ws, us, rfl, rfl, ha, hb, by rw [repL_length ra, repL_length rb]; exact small_sz hz, ?_⟩
        exact put_ob s ea (o := .lst _) (u := .lst (ws ++ us)) ⟨_, rfl, repL_append ra rb⟩ (nf_lst ha) p fun H' L => by simp only [rep]
      · exact p.elim
    · exact p.elim
  · obtain ⟨w, rfl, rw'⟩ := vals1 r
    split at p
    · rename_i xs h1
      split at p
      · rename_i hz
        obtain ⟨a, ws, ea, rfl, ha, ra⟩ := rep_lst s h1 rx
        obtain ⟨b, us, rfl, hb, rb⟩ := rep_tup rw'
        refine .inr ⟨a, b, ws, us, rfl, rfl, ha, sqT hb, by rw [repL_length ra, repL_length rb]; exact small_sz hz, ?_⟩
        exact put_ob s ea (o := .lst _) (u := .lst (ws ++ us)) ⟨_, rfl, repL_append ra rb⟩ (nf_lst ha) p fun H' L => by simp only [rep]
      · exact p.elim
    · exact p.elim
  · rename_i y d
    obtain ⟨w, rfl, rw'⟩ := vals1 r
    split at p
    · rename_i xs hi
      split at p
      · rename_i ts ht
        split at p
        · rename_i hz
          obtain ⟨a, ws, rfl, ha, ra⟩ := items_V s rw' hi
          obtain rfl := strs_V ht ra
          obtain rfl := rep_str rx
          refine ⟨_, a, ts.map mkS, rfl, rfl, ha, ?_, ?_⟩
          · rw [len_V, mkS_len, List.length_map]
            have h1 := small_le hz
            have h2 : ts.length * y.length ≤ (y.length + 1) * (ts.length + 1) := by
              rw [Nat.mul_comm]
              exact Nat.mul_le_mul (Nat.le_succ _) (Nat.le_succ _)
            omega
          · rw [join_V]
            exact post_ok p s (by simp only [rep])
        · exact p.elim
      · exact p.elim
    · exact p.elim
  · rename_i x c
    obtain ⟨w, rfl, rw'⟩ := vals1 r
    obtain rfl := rep_str rx
    obtain rfl := rep_str rw'
    split at p
    · rename_i hz
      simp only [Bool.and_eq_true] at hz
      refine ⟨_, _, rfl, rfl, rfl, ?_, ?_⟩
      · rw [mkS_len]
        exact Nat.le_trans (Nat.add_le_add_right (small_le hz.1) 2) (by decide)
      · rw [split_V x hz.2]
        exact new_lst s (V_strs _) p
    · exact p.elim
  · rename_i x c
    obtain ⟨w, rfl, rw'⟩ := vals1 r
    obtain rfl := rep_str rx
    obtain rfl := rep_str rw'
    split at p
    · rename_i hz
      simp only [Bool.and_eq_true] at hz
      refine ⟨_, _, rfl, rfl, rfl, by rw [mkS_len]; exact small_sz hz.1, ?_⟩
      rw [part_V]
      exact new_tup s (by
        simp only [repL]
        exact ⟨_, _, rfl, by simp only [rep], _, _, rfl, by simp only [rep], _, _, rfl, by simp only [rep], rfl⟩) p
    · exact p.elim
  · rename_i xs x
    obtain ⟨w, rfl, rw'⟩ := vals1 r
    obtain rfl := rep_str rw'
    split at p
    · rename_i ts ht
      obtain ⟨a, ws, rfl, ha, ra⟩ := rep_frz rx
      obtain rfl := strs_V ht ra
      cases hf : findT x ts 0 with
      | none => rw [hf] at p; exact p.elim
      | some n =>
        rw [hf] at p
        obtain ⟨_, h2, h3⟩ := find_V x ts 0 n hf
        exact ⟨a, ts.map mkS, mkS x, n, rfl, rfl, ha, h2, h3, post_ok p s (by simp only [rep])⟩
    · exact p.elim
  · exact p.elim
theorem base_of {o : Expr} (h : isCallE o = false) (m : Str) (env : PySem.Env) : attributeBase o m env (eval o env) = eval o env := by
  cases o <;> first | rfl | cases h
theorem few_of {a : Expr} (h : isStar a = false) (pos : Pos) (env : PySem.Env) : ((backTo pos (starEach [a] env)).all (fun x => !x.1) && (backToKw pos (keywordEach [] env)).all (fun x => x.1.isSome)
      && decide ([a].length + ([] : List Keyword).length + (if ([] : List Keyword).isEmpty then 0 else 1) < 30)) = true := by
  rw [star_of h]
  rfl
theorem s_met (C : Ct g T cf np ef cds E0 k sc X) {x : Str} {m : Mt} (hm : trMt x = some m) {o a : Expr} {o' a' : E} (ho : PE X o (tS g cf ef cds E0 o')) (ha : PE X a (tS g cf ef cds E0 a')) (hs : isStar a = false) (hc : isCallE o = false) (apos pos : Pos) (hl : (apos.endLine == pos.line) = true) :
    PE X (.Call (.Attribute o x apos) [a] [] pos) (tS g cf ef cds E0 (.met m o' (.cons a' .nil))) := by
  have hA : PA X [a] (tL g cf ef cds E0 (.cons a' .nil)) := PA.imp (pa_cons ha pa_nil (star_of hs _ _)) (by
    rintro σ H Q ⟨ρ, S, env, s, e, p⟩
    simp only [evEs] at p
    refine ⟨ρ, S, env, s, e, post_mono (post_bind (Ra := rep g) s p) ?_⟩
    rintro v H1 ⟨d, S1, ρ1, x, s1, r, p1⟩
    exact post_ok p1 s1 (by simp only [repL]; exact ⟨v, [], rfl, r, rfl⟩))
  have main : PE X (.Call (.Attribute o x apos) [a] [] pos) (tBM X.K (mtT m) (metR X.K m) (tS g cf ef cds E0 o') (tL g cf ef cds E0 (.cons a' .nil))) := by
    unfold trMt at hm
    split at hm
    · rename_i e; subst e; cases hm
      exact pe_bm PySem.F.plainAttrs_list PySem.F.slot_list_append PySem.F.type_list_append mt_append ho hA (base_of hc _ _) (few_of hs _ _) hl (star_of hs _ _) rfl
    split at hm
    · rename_i e; subst e; cases hm
      exact pe_bm PySem.F.plainAttrs_list PySem.F.slot_list_extend PySem.F.type_list_extend (MtR.or mt_extend mt_extT) ho hA (base_of hc _ _) (few_of hs _ _) hl (star_of hs _ _) rfl
    split at hm
    · rename_i e; subst e; cases hm
      exact pe_bm PySem.F.plainAttrs_str PySem.F.slot_str_join PySem.F.type_str_join mt_join ho hA (base_of hc _ _) (few_of hs _ _) hl (star_of hs _ _) rfl
    split at hm
    · rename_i e; subst e; cases hm
      exact pe_bm PySem.F.plainAttrs_str PySem.F.slot_str_split PySem.F.type_str_split mt_split ho hA (base_of hc _ _) (few_of hs _ _) hl (star_of hs _ _) rfl
    split at hm
    · rename_i e; subst e; cases hm
      exact pe_bm PySem.F.plainAttrs_str PySem.F.slot_str_partition PySem.F.type_str_partition mt_partition ho hA (base_of hc _ _) (few_of hs _ _) hl (star_of hs _ _) rfl
    split at hm
    · rename_i e; subst e; cases hm
      exact pe_bm PySem.F.plainAttrs_tuple PySem.F.slot_tuple_index PySem.F.type_tuple_index mt_tup_index ho hA (base_of hc _ _) (few_of hs _ _) hl (star_of hs _ _) rfl
    · cases hm
  refine PE.imp main ?_
  rintro σ H Q ⟨ρ, S, env, s, e, p⟩
  simp only [evE] at p
  refine tS_bind s e p fun v H1 x S1 ρ1 s1 e1 L1 r1 p1 => ?_
  split at p1
  · rename_i hr
    rw [C.K]
    refine ⟨recv_V s1 r1 hr, tL_bind s1 e1 p1 fun vs H2 ds S2 ρ2 s2 e2 L2 r2 p2 => ?_⟩
    exact met_sound s2 (rep_le L2 _ _ r1) r2 p2
  · exact p1.elim
end
end Ev
end
section
set_option Elab.async false
set_option linter.all false
set_option maxRecDepth 100000
set_option autoImplicit false
/-! What is walked. -/
namespace Ev
open PySem PySem.Spec PyProof.Rows L2

inductive ItR (g : Pl) (ρ : List Addr) (H : Hp) : L2.It → Nat → Src → Prop
  | tup {a : Addr} {vs : List V} {xs : List D} (i : Nat) : H a = some (.tup vs) → repL g ρ H xs vs → ItR g ρ H (Itt g.K a) i (.items (xs.drop i))
  | fzT {a : Addr} {vs : List V} {xs : List D} (i : Nat) : FzT g.K a vs → repL g ρ H xs vs → ItR g ρ H (Itt g.K a) i (.items (xs.drop i))
  | fzL {a : Addr} {vs : List V} {xs : List D} (i : Nat) : FzL g.K H a vs → repL g ρ H xs vs → ItR g ρ H (Itl g.K a) i (.items (xs.drop i))
  | str (x : Txt) (i : Nat) : ItR g ρ H (Its (mkS x)) i (.items ((x.map fun c => D.str [c]).drop i))
  | lst {n : Nat} {a : Addr} (i : Nat) : ρ[n]? = some a → ItR g ρ H (Itl g.K a) i (.lst n i)
  | rng (lo : Int) {n i k : Nat} : i + k = n → ItR g ρ H (Itr lo n) i (.rng (lo + i) k)
  | kK {d : Addr} {o : Obj} {kvs : List (K1 × D)} {ws : List (L2.Key × V)} (i : Nat) : H d = some (.frz o (.dK ws)) → repK g ρ H kk kvs ws → ItR g ρ H (Itk d o ws) i (.items ((kvs.map fun p => p.1.d).drop i))
  | kT {d : Addr} {o : Obj} {kvs : List (List K1 × D)} {ws : List (List L2.Key × V)} (i : Nat) : H d = some (.frz o (.dT ws)) → repK g ρ H (List.map kk) kvs ws → ItR g ρ H (Itkt d o ws) i (.items ((kvs.map fun p => D.tup (p.1.map K1.d)).drop i))
section
variable {g : Pl} {ρ ρ' : List Addr} {H H' : Hp} {S S' : Sto} {J : L2.It} {i : Nat} {w : Src}
theorem ItR.le (L : Le ρ H ρ' H') (fz : ∀ a o u, H a = some (.frz o u) → H' a = some (.frz o u)) (r : ItR g ρ H J i w) : ItR g ρ' H' J i w := by
  cases r with
  | tup i h r => exact .tup i (L.tp _ _ h) (repL_le L _ _ r)
  | fzT i h r => exact .fzT i h (repL_le L _ _ r)
  | fzL i h r => exact .fzL i (Fz.le (t := false) (g := g) L h) (repL_le L _ _ r)
  | str y i => exact .str y i
  | lst i e =>
    obtain ⟨m, em⟩ := L.pre
    exact .lst i (by rw [em, List.getElem?_append_left (List.getElem?_eq_some_iff.mp e).1]; exact e)
  | rng lo e => exact .rng lo e
  | kK i h r => exact .kK i (fz _ _ _ h) (repK_le L _ _ r)
  | kT i h r => exact .kT i (fz _ _ _ h) (repK_le L _ _ r)
theorem ItR.ext (s : Sim g ρ S H) (x : Ext ρ H ρ' H') (r : ItR g ρ H J i w) : ItR g ρ' H' J i w := r.le (x.le s) x.fz
/-- what a turn is -/
def Stp (g : Pl) (ρ : List Addr) (H : Hp) (J : L2.It) (i : Nat) : Option (Option (D × Src)) → Prop
  | none => True
  | some none => J.stop i H
  | some (some (x, w')) => J.go i H ∧ ∀ v H', J.yld i H v H' → H' = H ∧ rep g ρ H x v ∧ ItR g ρ H J (i + 1) w'
theorem drop_cases {α : Type} (xs : List α) (i : Nat) : (xs.drop i = [] ∧ xs.length ≤ i) ∨ ∃ x, xs.drop i = x :: xs.drop (i + 1) ∧ xs[i]? = some x := by
  by_cases h : i < xs.length
  · exact .inr ⟨xs[i], List.drop_eq_getElem_cons h, List.getElem?_eq_getElem h⟩
  · exact .inl ⟨List.drop_eq_nil_of_le (by omega), by omega⟩
theorem keyd_get {κ κ' : Type} {f : κ → κ'} : ∀ {kvs : List (κ × D)} {ws : List (κ' × V)} {i : Nat} {k' : κ'} {v : V}, repK g ρ H f kvs ws → ws[i]? = some (k', v) → ∃ p, kvs[i]? = some p ∧ k' = f p.1
  | [], ws, i, k', v, h, e => by
    simp only [repK] at h
    subst h
    simp at e
  | p :: r, ws, 0, k', v, h, e => by
    simp only [repK] at h
    obtain ⟨w, t, rfl, h1, h2⟩ := h
    simp at e
    exact ⟨p, rfl, e.1.symm⟩
  | p :: r, ws, i + 1, k', v, h, e => by
    simp only [repK] at h
    obtain ⟨w, t, rfl, h1, h2⟩ := h
    obtain ⟨q, h3, h4⟩ := keyd_get (i := i) h2 (by simpa using e)
    exact ⟨q, by simpa using h3, h4⟩
theorem rep_key (k : K1) : rep g ρ H k.d (kV (kk k)) := by
  cases k <;> simp only [K1.d, rep] <;> rfl
theorem rep_keys : ∀ ks : List K1, repL g ρ H (ks.map K1.d) ((ks.map kk).map kV)
  | [] => by simp only [List.map_nil, repL]
  | k :: ks => by
    simp only [List.map_cons, repL]
    exact ⟨_, _, rfl, rep_key k, rep_keys ks⟩
theorem sqT_one {a : Addr} {vs us : List V} (h : H a = some (.tup vs)) (k : SqT g.K H a us) (hk : g.K.lookup a = none) : us = vs := by
  rcases k with (h2 | ⟨o, h2⟩) | ⟨o, its, n, h2, _⟩
  · rw [h] at h2; cases h2; rfl
  · rw [h] at h2; cases h2
  · rw [hk] at h2; cases h2
theorem nxt_lst (a i : Nat) (S : Sto) : nxt (.lst a i) S = match S[a]? with
    | some (.lst xs) => match xs[i]? with
      | some x => some (some (x, .lst a (i + 1)))
      | none => some none
    | _ => none := rfl
theorem ItR.step (s : Sim g ρ S H) (r : ItR g ρ H J i w) : Stp g ρ H J i (nxt w S) := by
  cases r with
  | @tup a vs xs _ h r =>
    rcases drop_cases xs i with ⟨e, hl⟩ | ⟨x, e, hx⟩
    · rw [e]
      exact ⟨vs, sqT h, by rw [repL_length r]; exact hl⟩
    · rw [e]
      obtain ⟨v, hv, rv⟩ := repL_get r hx
      refine ⟨⟨vs, v, sqT h, hv⟩, fun u H' hy => ?_⟩
      obtain ⟨rfl, hy⟩ := hy
      have := hy vs (sqT h)
      rw [hv] at this
      cases this
      exact ⟨rfl, rv, .tup (i + 1) h r⟩
  | @fzT a vs xs _ h r =>
    rcases drop_cases xs i with ⟨e, hl⟩ | ⟨x, e, hx⟩
    · rw [e]
      exact ⟨vs, FzT.sq h, by rw [repL_length r]; exact hl⟩
    · rw [e]
      obtain ⟨v, hv, rv⟩ := repL_get r hx
      refine ⟨⟨vs, v, FzT.sq h, hv⟩, fun u H' hy => ?_⟩
      obtain ⟨rfl, hy⟩ := hy
      have := hy vs (FzT.sq h)
      rw [hv] at this
      cases this
      exact ⟨rfl, rv, .fzT (i + 1) h r⟩
  | @fzL a vs xs _ h r =>
    rcases drop_cases xs i with ⟨e, hl⟩ | ⟨x, e, hx⟩
    · rw [e]
      exact ⟨vs, FzL.sq h, by rw [repL_length r]; exact hl⟩
    · rw [e]
      obtain ⟨v, hv, rv⟩ := repL_get r hx
      refine ⟨⟨vs, v, FzL.sq h, hv⟩, fun u H' hy => ?_⟩
      obtain ⟨rfl, hy⟩ := hy
      have := hy vs (FzL.sq h)
      rw [hv] at this
      cases this
      exact ⟨rfl, rv, .fzL (i + 1) h r⟩
  | str x =>
    have hsz : (mkS x).cps.size = x.length := by simp [mkS]
    rcases drop_cases (x.map fun c => D.str [c]) i with ⟨e, hl⟩ | ⟨d, e, hx⟩
    · rw [e]
      show (mkS x).cps.size ≤ i
      rw [hsz]
      simpa using hl
    · rw [e]
      rw [List.getElem?_map] at hx
      obtain ⟨c, hc, rfl⟩ := Option.map_eq_some_iff.mp hx
      have hlt := (List.getElem?_eq_some_iff.mp hc).1
      refine ⟨by show i < (mkS x).cps.size; rw [hsz]; exact hlt, fun u H' hy => ?_⟩
      obtain ⟨rfl, c', hc', rfl⟩ := hy
      have : (mkS x).cps[i]? = x[i]? := by simp [mkS]
      rw [this, hc] at hc'
      cases hc'
      exact ⟨rfl, by simp only [rep]; rfl, .str x (i + 1)⟩
  | @lst n a _ e =>
    show Stp g ρ H (Itl g.K a) i (nxt (.lst n i) S)
    rw [nxt_lst]
    cases hs : S[n]? with
    | none => trivial
    | some o =>
      cases o with
      | lst xs =>
        obtain ⟨u, hu, vs, rfl, r⟩ := s.at hs e
        cases hx : xs[i]? with
        | none =>
          simp only [hx]
          exact ⟨vs, sqL hu, by rw [repL_length r]; exact List.getElem?_eq_none_iff.mp hx⟩
        | some x =>
          simp only [hx]
          obtain ⟨v, hv, rv⟩ := repL_get r hx
          refine ⟨⟨vs, v, sqL hu, hv⟩, fun u H' hy => ?_⟩
          obtain ⟨rfl, hy⟩ := hy
          have := hy vs (sqL hu)
          rw [hv] at this
          cases this
          exact ⟨rfl, rv, .lst (i + 1) e⟩
      | dK _ => trivial
      | dT _ => trivial
      | lk _ => trivial
  | @rng lo n _ k e =>
    cases k with
    | zero =>
      show n ≤ i
      omega
    | succ k =>
      refine ⟨by show i < n; omega, fun u H' hy => ?_⟩
      obtain ⟨rfl, rfl⟩ := hy
      refine ⟨rfl, by simp only [rep], ?_⟩
      have := ItR.rng (g := g) (ρ := ρ) (H := H') lo (n := n) (i := i + 1) (k := k) (by omega)
      have e2 : lo + ((i + 1 : Nat) : Int) = lo + i + 1 := by omega
      rw [e2] at this
      exact this
  | @kK d o kvs ws _ h r =>
    have hl2 := repK_len r
    rcases drop_cases (kvs.map fun p => p.1.d) i with ⟨e, hl⟩ | ⟨x, e, hx⟩
    · rw [e]
      exact ⟨h, by rw [hl2]; simpa using hl⟩
    · rw [e]
      rw [List.getElem?_map] at hx
      obtain ⟨p, hp, rfl⟩ := Option.map_eq_some_iff.mp hx
      have hlt := (List.getElem?_eq_some_iff.mp hp).1
      refine ⟨⟨h, by rw [hl2]; exact hlt⟩, fun u H' hy => ?_⟩
      obtain ⟨rfl, k', v, hk, rfl⟩ := hy
      obtain ⟨q, hq, rfl⟩ := keyd_get r hk
      rw [hp] at hq
      cases hq
      exact ⟨rfl, rep_key _, .kK (i + 1) h r⟩
  | @kT d o kvs ws _ h r =>
    have hl2 := repK_len r
    rcases drop_cases (kvs.map fun p => D.tup (p.1.map K1.d)) i with ⟨e, hl⟩ | ⟨x, e, hx⟩
    · rw [e]
      exact ⟨h, by rw [hl2]; simpa using hl⟩
    · rw [e]
      rw [List.getElem?_map] at hx
      obtain ⟨p, hp, rfl⟩ := Option.map_eq_some_iff.mp hx
      have hlt := (List.getElem?_eq_some_iff.mp hp).1
      refine ⟨⟨h, by rw [hl2]; exact hlt⟩, fun u H' hy => ?_⟩
      obtain ⟨rfl, k', v, q, hk, rfl, hq⟩ := hy
      obtain ⟨q', hq', rfl⟩ := keyd_get r hk
      rw [hp] at hq'
      cases hq'
      exact ⟨rfl, by
        simp only [rep]
        exact ⟨q, _, rfl, hq, rep_keys _⟩, .kT (i + 1) h r⟩
end
/-! ### what a loop's head gives -/
section
variable {g : Pl} {T : TC} {cf : CF} {np : Nat → Nat} {ef : List (List Str)} {cds : Cds} {E0 : XK} {k : Nat} {sc : Scope} {X : Cx}
def RelI (g : Pl) (ρ : List Addr) (H : Hp) (w : Src) (J : L2.It) : Prop := ItR g ρ H J 0 w
def tI (g : Pl) (cf : CF) (ef : List (List Str)) (cds : Cds) (E0 : XK) (it : Ev.It) : TI := fun σ H R => ∃ ρ S env, Sim g ρ S H ∧ EnvR g ρ H env σ ∧ post g ef E0 (RelI g) ρ H (evI cds cf it env S) R
theorem PI.any {tg e : Expr} {t : TI} (h : ∀ σ H R, t σ H R → ∃ t', PI X tg e t' ∧ t' σ H R) : PI X tg e t := ⟨fun pins s σ H R I hw => by
  obtain ⟨t', p, q⟩ := h σ H R hw
  exact p.run pins s σ H R I q⟩
theorem s_seq (C : Ct g T cf np ef cds E0 k sc X) {tg e : Expr} {e' : E} (he : PE X e (tS g cf ef cds E0 e')) : PI X tg e (tI g cf ef cds E0 (.seq e')) := by
  refine PI.any ?_
  rintro σ H R ⟨ρ, S, env, s, en, p⟩
  simp only [evI] at p
  cases hv : evE cds cf e' env S with
  | none => rw [hv] at p; exact p.elim
  | some r =>
    cases r with
    | exc c fs S1 =>
      rw [hv] at p
      exact ⟨_, pi_list he, ρ, S, env, s, en, by rw [hv]; exact p⟩
    | ok d S1 =>
      rw [hv] at p
      simp only [O.bind] at p
      cases hd : srcOf d S1 with
      | none => rw [hd] at p; exact p.elim
      | some w =>
        rw [hd] at p
        have fin : ∀ {ρ' H'} {J : L2.It}, Ext ρ H ρ' H' → Sim g ρ' S1 H' → ItR g ρ' H' J 0 w → R J H' := fun x s' r => p _ _ _ x s' r
        unfold srcOf at hd
        split at hd
        · rename_i xs
          cases hd
          refine ⟨_, pi_tup he, ρ, S, env, s, en, ?_⟩
          rw [hv]
          intro ρ' H' v x s' r
          obtain ⟨a, vs, rfl, ha, ra⟩ := rep_tup r
          rw [C.K]
          exact ⟨a, rfl, ⟨vs, sqT ha⟩, fin x s' (by simpa using ItR.tup 0 ha ra)⟩
        · rename_i t xs
          cases hd
          cases t with
          | true =>
            refine ⟨_, pi_tup he, ρ, S, env, s, en, ?_⟩
            rw [hv]
            intro ρ' H' v x s' r
            simp only [rep] at r
            obtain ⟨a, vs, rfl, ha, ra⟩ := r
            rw [C.K]
            exact ⟨a, rfl, ⟨vs, FzT.sq ha⟩, fin x s' (by simpa using ItR.fzT (xs := xs) 0 ha ra)⟩
          | false =>
            refine ⟨_, pi_list he, ρ, S, env, s, en, ?_⟩
            rw [hv]
            intro ρ' H' v x s' r
            simp only [rep] at r
            obtain ⟨a, vs, rfl, ha, ra⟩ := r
            rw [C.K]
            exact ⟨a, rfl, ⟨vs, FzL.sq ha⟩, fin x s' (by simpa using ItR.fzL (xs := xs) 0 ha ra)⟩
        · rename_i y
          cases hd
          refine ⟨_, pi_str he, ρ, S, env, s, en, ?_⟩
          rw [hv]
          intro ρ' H' v x s' r
          obtain rfl := rep_str r
          exact ⟨mkS y, rfl, fin x s' (by simpa using ItR.str (g := g) (ρ := ρ') (H := H') y 0)⟩
        · split at hd
          · rename_i n hs
            cases hd
            refine ⟨_, pi_list he, ρ, S, env, s, en, ?_⟩
            rw [hv]
            intro ρ' H' v x s' r
            obtain ⟨a, vs, ea, rfl, ha, ra⟩ := rep_lst s' hs r
            rw [C.K]
            exact ⟨a, rfl, ⟨vs, sqL ha⟩, fin x s' (.lst 0 ea)⟩
          · cases hd
        · cases hd
theorem s_rng1 (C : Ct g T cf np ef cds E0 k sc X) (hg : isGlb sc "range" = true) {tg a : Expr} {a' : E} (ha : PE X a (tS g cf ef cds E0 a')) (hs : isStar a = false) (p pos : Pos) : PI X tg (.Call (.Name "range" p) [a] [] pos) (tI g cf ef cds E0 (.rng (.cons a' .nil))) := by
  refine PI.any ?_
  rintro σ H R ⟨ρ, S, env, s, en, p⟩
  simp only [evI, evEs] at p
  refine ⟨_, pi_range1 (C.glb _ hg) (C.blt _ (by decide)) (pa_cons ha pa_nil (star_of hs _ _)) (star_of hs _ _), ρ, S, env, s, en, ?_⟩
  cases hv : evE cds cf a' env S with
  | none => rw [hv] at p; exact p.elim
  | some r =>
    cases r with
    | exc c fs S1 => rw [hv] at p; exact p
    | ok d S1 =>
      rw [hv] at p
      intro ρ' H' v x s' r
      simp only [O.bind, ok] at p
      unfold rngOf at p
      split at p
      · rename_i w hw
        split at hw
        · rename_i n e
          cases e
          split at hw
          · rename_i hn
            cases hw
            obtain rfl := rep_int r
            refine ⟨n, rfl, by omega, by omega, p ρ' H' _ x s' ?_⟩
            have := ItR.rng (g := g) (ρ := ρ') (H := H') 0 (n := n.toNat) (i := 0) (k := n.toNat) (by omega)
            exact this
          · cases hw
        · rename_i e
          cases e
        · cases hw
      · exact p.elim
theorem s_rng2 (C : Ct g T cf np ef cds E0 k sc X) (hg : isGlb sc "range" = true) {tg a b : Expr} {a' b' : E} (ha : PE X a (tS g cf ef cds E0 a')) (hb : PE X b (tS g cf ef cds E0 b')) (hs : isStar a = false) (hs2 : isStar b = false) (p pos : Pos) :
    PI X tg (.Call (.Name "range" p) [a, b] [] pos) (tI g cf ef cds E0 (.rng (.cons a' (.cons b' .nil)))) := by
  refine PI.any ?_
  rintro σ H R ⟨ρ, S, env, s, en, p⟩
  simp only [evI, evEs] at p
  have hA := pa_cons ha (pa_cons hb pa_nil (star_of hs2 _ _)) (star_of hs _ _)
  refine ⟨_, pi_range2 (C.glb _ hg) (C.blt _ (by decide)) hA (by rw [star_of hs, star_of hs2]; rfl) (star_of hs2 _ _), ?_⟩
  have key : ∀ {ρ' : List Addr} {H' : Hp} {S' : Sto} {x y : D} {v w : V}, Ext ρ H ρ' H' → Sim g ρ' S' H' → rep g ρ' H' x v → rep g ρ' H' y w → post g ef E0 (RelI g) ρ' H' (match rngOf [x, y] with
      | some x => ok x S'
      | none => none) R → ∃ i j : Int, [v, w] = [.int i, .int j] ∧ (-(2 ^ 62) ≤ i ∧ i < 2 ^ 62 ∧ -(2 ^ 62) ≤ j ∧ j < 2 ^ 62) ∧ R (Itr i (j - i).toNat) H' := fun {ρ' H' S' x y v w} xx s' r1 r2 p => by
    unfold rngOf at p
    split at p
    · rename_i w' hw
      split at hw
      · rename_i e
        cases e
      · rename_i i j e
        cases e
        split at hw
        · rename_i hn
          cases hw
          obtain rfl := rep_int r1
          obtain rfl := rep_int r2
          refine ⟨i, j, rfl, ⟨by omega, by omega, by omega, by omega⟩, post_ok p s' ?_⟩
          have := ItR.rng (g := g) (ρ := ρ') (H := H') i (n := (j - i).toNat) (i := 0) (k := (j - i).toNat) (by omega)
          have e0 : i + ((0 : Nat) : Int) = i := by omega
          rw [e0] at this
          exact this
        · cases hw
      · cases hw
    · exact p.elim
  refine ⟨ρ, S, env, s, en, ?_⟩
  have p2 : post g ef E0 (RelI g) ρ H ((evE cds cf a' env S).bind fun x S1 => (evE cds cf b' env S1).bind fun y S2 => match rngOf [x, y] with
      | some x => ok x S2
      | none => none) R := by
    cases h1 : evE cds cf a' env S with
    | none => rw [h1] at p; exact p
    | some r =>
      cases r with
      | exc c fs S1 => rw [h1] at p; exact p
      | ok x S1 =>
        rw [h1] at p
        simp only [O.bind, ok] at p ⊢
        cases h2 : evE cds cf b' env S1 with
        | none => rw [h2] at p; exact p
        | some r =>
          cases r with
          | exc c fs S1 => rw [h2] at p; exact p
          | ok y S2 => rw [h2] at p; exact p
  refine post_mono (post_bind (Ra := rep g) s p2) ?_
  rintro v H1 ⟨x, S1, ρ1, x1, s1, r1, p3⟩
  refine ⟨ρ1, S1, env, s1, en.le (x1.le s), post_mono (post_bind (Ra := rep g) s1 p3) ?_⟩
  rintro w H2 ⟨y, S2, ρ2, x2, s2, r2, p4⟩
  exact key (x1.trans s x2) s2 (rep_le (x2.le s1) _ _ r1) r2 p4
end
end Ev
end
section
set_option Elab.async false
set_option linter.all false
set_option maxRecDepth 100000
set_option autoImplicit false
/-! Targets, comprehensions. -/
namespace Ev
open PySem PySem.Spec PyProof.Rows L2

/-! ### forgotten names -/
theorem wipe_get (vs : List Nat) (σ : L2.St) (j : Nat) : (wipe σ vs)[j]? = if j ∈ vs then (if j < σ.length then some none else none) else σ[j]? := by
  induction vs with
  | nil => simp [wipe]
  | cons v vs ih =>
    have hl := wipe_length σ vs
    show ((wipe σ vs).set v none)[j]? = _
    by_cases e : v = j
    · subst e
      by_cases hv : v < σ.length
      · rw [List.getElem?_set_self (by rw [hl]; exact hv)]
        simp [hv]
      · rw [List.getElem?_eq_none (by rw [List.length_set, hl]; omega)]
        simp [hv]
    · rw [List.getElem?_set_ne e, ih]
      have : j ∈ v :: vs ↔ j ∈ vs := by
        simp only [List.mem_cons]
        exact ⟨fun h => h.resolve_left (fun q => e q.symm), .inr⟩
      simp only [this]
theorem wipe_set {vs : List Nat} {σ : L2.St} {i : Nat} {v : Option V} (h : i ∈ vs) : wipe (σ.set i v) vs = wipe σ vs := by
  refine List.ext_getElem? fun j => ?_
  rw [wipe_get, wipe_get, List.length_set]
  by_cases hj : j ∈ vs
  · rw [if_pos hj, if_pos hj]
  · rw [if_neg hj, if_neg hj, List.getElem?_set_ne (fun e => hj (by rw [← e]; exact h))]
theorem wipe_twice (vs : List Nat) (σ : L2.St) : wipe (wipe σ vs) vs = wipe σ vs := by
  refine List.ext_getElem? fun j => ?_
  rw [wipe_get, wipe_length, wipe_get]
  by_cases hj : j ∈ vs
  · rw [if_pos hj, if_pos hj]
  · rw [if_neg hj, if_neg hj]
/-! ### targets -/
def setV : L2.St → List Nat → List V → L2.St
  | σ, i :: is, v :: vs => setV (σ.set i (some v)) is vs
  | σ, _, _ => σ
theorem wipe_setV {ws : List Nat} : ∀ (is : List Nat) (vs : List V) (σ : L2.St), (∀ i ∈ is, i ∈ ws) → wipe (setV σ is vs) ws = wipe σ ws
  | [], vs, σ, _ => rfl
  | i :: is, [], σ, _ => rfl
  | i :: is, v :: vs, σ, h => by
    show wipe (setV (σ.set i (some v)) is vs) ws = _
    rw [wipe_setV is vs _ fun j hj => h j (List.mem_cons_of_mem _ hj), wipe_set (h i (List.mem_cons_self ..))]
section
variable {g : Pl} {T : TC} {cf : CF} {np : Nat → Nat} {ef : List (List Str)} {cds : Cds} {E0 : XK} {k : Nat} {sc : Scope} {X : Cx}
theorem env_setV {ρ : List Addr} {H : Hp} : ∀ (is : List Nat) (ds : List D) (vs : List V) (env : Env) (σ : L2.St), EnvR g ρ H env σ → repL g ρ H ds vs → EnvR g ρ H (setAll env is ds) (setV σ is vs)
  | [], ds, vs, env, σ, e, _ => by cases ds <;> exact e
  | i :: is, [], vs, env, σ, e, r => by
    simp only [repL] at r
    subst r
    exact e
  | i :: is, d :: ds, vs, env, σ, e, r => by
    simp only [repL] at r
    obtain ⟨v, t, rfl, h1, h2⟩ := r
    exact env_setV is ds t _ _ (e.set i h1) h2
/-- a value put where t says -/
def gT (g : Pl) (t : Tg) : TG := fun v σ H K => ∃ ρ d env env', rep g ρ H d v ∧ EnvR g ρ H env σ ∧ t.set d env = some env' ∧ ∀ σ2, EnvR g ρ H env' σ2 → (∀ vs, (∀ i ∈ t.ixs, i ∈ vs) → wipe σ2 vs = wipe σ vs) → K σ2 H
def gNs (is : List Nat) : TGs := fun vs σ H K => vs.length = is.length ∧ K (setV σ is vs) H
theorem PG.imp {X : Cx} {e : Expr} {t t' : TG} (h : PG X e t) (i : ∀ v σ H Q, t' v σ H Q → t v σ H Q) : PG X e t' := ⟨fun pins s σ H v u Q I r hw => h.run pins s σ H v u Q I r (i _ _ _ _ hw)⟩
theorem PGs.imp {X : Cx} {e : List Expr} {t t' : TGs} (h : PGs X e t) (i : ∀ v σ H Q, t' v σ H Q → t v σ H Q) : PGs X e t' := ⟨fun pins s σ H v u Q I r hw => h.run pins s σ H v u Q I r (i _ _ _ _ hw)⟩
theorem s_nm (C : Ct g T cf np ef cds E0 k sc X) {x : Str} {i : Nat} (hi : stoOf T.N sc x = some i) (pos : Pos) : PG X (.Name x pos) (gName i) := by
  obtain ⟨h1, h2, _⟩ := stoOf_of hi
  exact pg_name (by rw [C.N]; exact C.nd) (by rw [C.N]; exact h1) (C.sto _ h2) (C.stf _ h2)
theorem s_names (C : Ct g T cf np ef cds E0 k sc X) : ∀ (es : List Expr) (is : List Nat), tgIs T.N sc es = some is → PGs X es (gNs is) ∧ (assignEach es X.env).length = is.length ∧ (assignEach es X.env).findIdx? (·.1) = none
  | [], is, h => by
    simp only [tgIs, Option.some.injEq] at h
    subst h
    refine ⟨PGs.imp pgs_nil ?_, rfl, rfl⟩
    rintro vs σ H Q ⟨hl, q⟩
    exact ⟨List.length_eq_zero_iff.mp hl, by cases vs with | nil => exact q | cons _ _ => simp at hl⟩
  | e :: es, is, h => by
    simp only [tgIs] at h
    split at h
    · rename_i x pos
      split at h
      · rename_i i is' h1 h2
        cases h
        obtain ⟨a1, a2, a3⟩ := s_names C es is' h2
        refine ⟨PGs.imp (pgs_cons (s_nm C h1 pos) a1) ?_, ?_, ?_⟩
        · rintro vs σ H Q ⟨hl, q⟩
          cases vs with
          | nil => simp at hl
          | cons v vs => exact ⟨v, vs, rfl, by simpa using hl, q⟩
        · show (assignEach es X.env).length + 1 = _
          rw [a2]
          rfl
        · show ((false, assign (.Name x pos) X.env) :: assignEach es X.env).findIdx? (·.1) = none
          rw [List.findIdx?_cons]
          simp only [Bool.false_eq_true, if_false, a3, Option.map_none]
      · cases h
    · cases h
theorem s_tg (C : Ct g T cf np ef cds E0 k sc X) (hcold : T.cold = true) {tg : Expr} {t : Tg} (h : trTg T.N sc tg = some t) : PG X tg (gT g t) := by
  unfold trTg at h
  split at h
  · rename_i x pos
    obtain ⟨i, hi, rfl⟩ := Option.map_eq_some_iff.mp h
    refine PG.imp (s_nm C hi pos) ?_
    rintro v σ H Q ⟨ρ, d, env, env', r, e, hs, q⟩
    simp only [Tg.set, Option.some.injEq] at hs
    subst hs
    exact q _ (e.set i r) fun vs hv => wipe_set (hv i (List.mem_singleton.mpr rfl))
  · rename_i es kk pos
    obtain ⟨is, hi, rfl⟩ := Option.map_eq_some_iff.mp h
    obtain ⟨a1, a2, a3⟩ := s_names C es is hi
    refine PG.imp (pg_tup (C.calm hcold) a1 a2 a3) ?_
    rintro v σ H Q ⟨ρ, d, env, env', r, e, hs, q⟩
    have fin : ∀ (xs : List D) (ws : List V), repL g ρ H xs ws → (if is.length = xs.length then some (setAll env is xs) else none) = some env' → ws.length = is.length ∧ gNs is ws σ H Q := fun xs ws ra hs => by
      split at hs
      · rename_i hl
        cases hs
        have hl2 : ws.length = is.length := by rw [repL_length ra, hl]
        exact ⟨hl2, hl2, q _ (env_setV is xs ws env σ e ra) fun vs hv => wipe_setV is ws σ hv⟩
      · cases hs
    cases d with
    | tup xs =>
      obtain ⟨a, ws, rfl, ha, ra⟩ := rep_tup r
      obtain ⟨f1, f2⟩ := fin xs ws ra hs
      rw [C.K]
      exact ⟨a, ws, rfl, sqT ha, f1, f2⟩
    | frz t xs =>
      cases t with
      | true =>
        simp only [rep] at r
        obtain ⟨a, ws, rfl, ha, ra⟩ := r
        obtain ⟨f1, f2⟩ := fin xs ws ra hs
        rw [C.K]
        exact ⟨a, ws, rfl, FzT.sq ha, f1, f2⟩
      | false => cases hs
    | non => cases hs
    | bl _ => cases hs
    | int _ => cases hs
    | str _ => cases hs
    | ref _ => cases hs
    | fn _ => cases hs
    | cd _ => cases hs
  · cases h
/-! ### comprehensions -/
/-- an item's element -/
def cG (cds : Cds) (cf : CF) (elt : E) (tg : Tg) (cond : Eo) (env : Env) (x : D) (s : Sto) : O (Option D) := match tg.set x env with
  | some env' => match cond, evO cds cf cond env' s with
    | .none, _ => (evE cds cf elt env' s).bind fun y s => ok (some y) s
    | .some _, some (.ok (.bl true) s) => (evE cds cf elt env' s).bind fun y s => ok (some y) s
    | .some _, some (.ok (.bl false) s) => ok none s
    | _, _ => none
  | none => none
/-- a test's reading -/
def tCond (g : Pl) (cf : CF) (ef : List (List Str)) (cds : Cds) : Eo → TT
  | .none => tYes
  | .some c => tT g cf ef cds (fun _ _ _ => False) c
def LW (g : Pl) (gg : D → Sto → O (Option D)) (ρ1 : List Addr) (H1 : Hp) (Dd : Addr) (J : L2.It) (ys : List D) (S2 : Sto) (i m : Nat) (H : Hp) : Prop :=
  ∃ ρ S acc vs w, Ext ρ1 H1 ρ H ∧ Sim g ρ S H ∧ H Dd = some (.lst vs) ∧ Dd ∉ ρ ∧ repL g ρ H acc vs ∧ ItR g ρ H J i w ∧ cGo gg m w acc S = some (.ok ys S2)
theorem lc_loop {elt : E} {tg : Tg} {cond : Eo} {own : List Nat} {env : Env} {σ : L2.St} {ρ1 : List Addr} {S1 S2 : Sto} {H1 : Hp} {J : L2.It} {w : Src} {m : Nat} {ys : List D} {Dd : Addr} {Fin : Hp → Prop}
    (hx : ∀ i ∈ tg.ixs, i ∈ own) (s1 : Sim g ρ1 S1 H1) (e1 : EnvR g ρ1 H1 env σ) (r : ItR g ρ1 H1 J 0 w) (hD : H1 Dd = none) (hr : cGo (cG cds cf elt tg cond (wipeE env own)) m w [] S1 = some (.ok ys S2)) 
    (fin : ∀ ρ H vs, Ext ρ1 H1 ρ H → Sim g ρ S2 H → H Dd = some (.lst vs) → Dd ∉ ρ → repL g ρ H ys vs → Fin H) :
    ∃ W : Nat → Nat → Hp → Prop, (∃ m, W 0 m (upd H1 Dd (.lst []))) ∧ ∀ i m H, W i m H →
  (J.stop i H ∧ Fin H) ∨ (J.go i H ∧ ∃ Nx : Hp → Prop, (∀ H', Nx H' → ∃ m', m' < m ∧ W (i + 1) m' H') ∧ ∀ x H', J.yld i H x H' → gT g tg x (wipe σ own) H' fun σ2 H2 => wipe σ2 own = wipe σ own ∧ tCond g cf ef cds cond σ2 H2 fun b H3 =>
    if b = true then tS g cf ef cds (fun _ _ _ => False) elt σ2 H3 fun y H4 => ∃ acc, H4 Dd = some (.lst acc) ∧ acc.length < sizeLine ∧ Nx (upd H4 Dd (.lst (acc ++ [y]))) else Nx H3) := by
  have hDρ : Dd ∉ ρ1 := s1.none hD
  refine ⟨LW g (cG cds cf elt tg cond (wipeE env own)) ρ1 H1 Dd J ys S2, ⟨m, ?_⟩, ?_⟩
  · obtain ⟨s2, x2⟩ := s1.side (u := .lst []) hD
    exact ⟨ρ1, S1, [], [], w, x2, s2, upd_same, hDρ, by simp only [repL], r.ext s1 x2, hr⟩
  · rintro i m H ⟨ρ, S, acc, vs, w, x, s, hl, hm, ra, it, hr⟩
    have st := it.step s
    have no : ∀ {ρ' : List Addr} {H' : Hp}, Ext ρ H ρ' H' → Dd ∉ ρ' := fun x' hh => by
      have := x'.fresh Dd hh hm
      rw [hl] at this
      cases this
    unfold cGo at hr
    cases hn1 : nxt w S with
    | none => rw [hn1] at hr; cases hr
    | some q =>
      cases q with
      | none =>
        rw [hn1] at hr st
        simp only [ok, Option.some.injEq, R.ok.injEq] at hr
        obtain ⟨rfl, rfl⟩ := hr
        exact .inl ⟨st, fin ρ H vs x s hl hm ra⟩
      | some q =>
        obtain ⟨d, w'⟩ := q
        rw [hn1] at hr st
        obtain ⟨go, yl⟩ := st
        cases m with
        | zero => cases hr
        | succ m =>
          refine .inr ⟨go, _, fun H' h => ⟨m, Nat.lt_succ_self m, h⟩, fun v H' hy => ?_⟩
          obtain ⟨rfl, rd, it'⟩ := yl v H' hy
          simp only at hr
          cases hts : tg.set d (wipeE env own) with
          | none =>
            simp only [cG, hts] at hr
            cases hr
          | some env' =>
            have eW : EnvR g ρ H' (wipeE env own) (wipe σ own) := EnvR.wipe (e1.le (x.le s1)) own
            refine ⟨ρ, d, wipeE env own, env', rd, eW, hts, fun σ2 e2 hw => ⟨by rw [hw own hx, wipe_twice], ?_⟩⟩
            -- behind the test, the element
            have elem : ∀ {ρ3 : List Addr} {S3 : Sto} {H3 : Hp}, Ext ρ H' ρ3 H3 → Sim g ρ3 S3 H3 → EnvR g ρ3 H3 env' σ2 → (match (evE cds cf elt env' S3).bind fun y s => ok (some y) s with
                | some (.ok (some y) s') => if small acc.length then cGo (cG cds cf elt tg cond (wipeE env own)) m w' (acc ++ [y]) s' else none
                | some (.ok none s') => cGo (cG cds cf elt tg cond (wipeE env own)) m w' acc s'
                | _ => none) = some (.ok ys S2) →
                tS g cf ef cds (fun _ _ _ => False) elt σ2 H3 fun y H4 => ∃ acc, H4 Dd = some (.lst acc) ∧ acc.length < sizeLine ∧ LW g (cG cds cf elt tg cond (wipeE env own)) ρ1 H1 Dd J ys S2 (i + 1) m (upd H4 Dd (.lst (acc ++ [y]))) := fun {ρ3 S3 H3} x3 s3 e3 hr => by
              cases he : evE cds cf elt env' S3 with
              | none => rw [he] at hr; cases hr
              | some z =>
                cases z with
                | exc c fs S4 => rw [he] at hr; cases hr
                | ok y S4 =>
                  rw [he] at hr
                  simp only [O.bind, ok] at hr
                  split at hr
                  · rename_i hz
                    refine ⟨ρ3, S3, env', s3, e3, ?_⟩
                    rw [he]
                    intro ρ4 H4 v4 x4 s4 rv
                    have x34 := x3.trans s x4
                    have hl4 : H4 Dd = some (.lst vs) := x34.fr Dd _ hm hl
                    have hm4 := no x34
                    obtain ⟨s5, L5⟩ := s4.poke (u := .lst (vs ++ [v4])) hl4 hm4 rfl (fun _ _ h => by cases h)
                    refine ⟨vs, hl4, by rw [repL_length ra]; exact small_lt hz, ρ4, S4, acc ++ [y], vs ++ [v4], w', (x.trans s1 x34).poke hD, s5, upd_same, hm4, repL_append (repL_le L5 _ _ (repL_le (x34.le s) _ _ ra)) ?_, (it'.ext s x34).le L5 ?_, hr⟩
                    · simp only [repL]
                      exact ⟨v4, [], rfl, rep_le L5 _ _ rv, rfl⟩
                    · intro a o u h
                      have hne : a ≠ Dd := fun e => by
                        rw [e, hl4] at h
                        cases h
                      rw [upd_ne hne]
                      exact h
                  · cases hr
            cases cond with
            | none =>
              simp only [tCond, tYes, if_true]
              simp only [cG, hts] at hr
              exact elem Ext.refl s e2 hr
            | some c =>
              simp only [cG, hts, evO] at hr
              cases hv : evE cds cf c env' S with
              | none => rw [hv] at hr; cases hr
              | some z =>
                cases z with
                | exc cc fs S4 => rw [hv] at hr; cases hr
                | ok y S3 =>
                  rw [hv] at hr
                  refine ⟨ρ, S, env', s, e2, ?_⟩
                  rw [hv]
                  intro ρ3 H3 v3 x3 s3 rv
                  cases y with
                  | bl b =>
                    refine ⟨b, rep_bl rv, ?_⟩
                    cases b with
                    | true =>
                      rw [if_pos rfl]
                      exact elem x3 s3 (e2.le (x3.le s)) hr
                    | false =>
                      rw [if_neg (by decide)]
                      exact ⟨ρ3, S3, acc, vs, w', x.trans s1 x3, s3, x3.fr Dd _ hm hl, no x3, repL_le (x3.le s) _ _ ra, it'.ext s x3, hr⟩
                  | non => cases hr
                  | int _ => cases hr
                  | str _ => cases hr
                  | tup _ => cases hr
                  | frz _ _ => cases hr
                  | ref _ => cases hr
                  | fn _ => cases hr
                  | cd _ => cases hr
theorem cGo_ok {gg : D → Sto → O (Option D)} : ∀ (m : Nat) (w : Src) (acc : List D) (S : Sto) (r : R (List D)), cGo gg m w acc S = some r → ∃ ys S', r = .ok ys S'
  | m, w, acc, S, r, h => by
    unfold cGo at h
    split at h
    · cases h
    · cases h
      exact ⟨_, _, rfl⟩
    · cases m with
      | zero => cases h
      | succ m =>
        simp only at h
        split at h
        · split at h
          · exact cGo_ok m _ _ _ r h
          · cases h
        · exact cGo_ok m _ _ _ r h
        · cases h
theorem evE_comp (elt : E) (t : Tg) (it : Ev.It) (cond : Eo) (own : List Nat) (env : Env) (S : Sto) : evE cds cf (.comp elt t it cond own) env S = match dictOf it env S with
      | some (a, o, ks) => match cGo (cG cds cf elt t cond (wipeE env own)) ks.length (.items ks) [] (S.set a (.lk o)) with
        | some (.ok ys s') => match s'[a]? with
          | some (.lk o') => pr (some (new (.lst ys) (s'.set a o')))
          | _ => none
        | _ => none
      | none => (evI cds cf it env S).bind fun src s => (cGo (cG cds cf elt t cond (wipeE env own)) (src.fuel s) src [] s).bind fun ys s => pr (some (new (.lst ys) s)) := by
  simp only [evE]
  rfl
theorem dictOf_of {it : Ev.It} {env : Env} {S : Sto} {a : Nat} {o : Ob} {ks : List D} (h : dictOf it env S = some (a, o, ks)) : ∃ i, it = .seq (.var i) ∧ env[i]? = some (some (.ref a)) ∧ S[a]? = some o ∧ keysOf o = some ks := by
  unfold dictOf at h
  split at h
  · split at h
    · split at h
      · rename_i hv _ _ hs
        obtain ⟨ks', hk, e⟩ := Option.map_eq_some_iff.mp h
        cases e
        exact ⟨_, rfl, hv, hs, hk⟩
      · cases h
    · cases h
  · cases h
theorem comp_in {elt : E} {t : Tg} {it : Ev.It} {cond : Eo} {own : List Nat} (hx : ∀ i ∈ t.ixs, i ∈ own) {σ : L2.St} {H : Hp} {Q : VK} (h : tS g cf ef cds E0 (.comp elt t it cond own) σ H Q) :
    tLc (tI g cf ef cds E0 it) (gT g t) (tCond g cf ef cds cond) (tS g cf ef cds (fun _ _ _ => False) elt) own σ H Q ∨
    ∃ i, it = .seq (.var i) ∧ tLockE (tLc (iKeys (tS g cf ef cds E0 (.var i))) (gT g t) (tCond g cf ef cds cond) (tS g cf ef cds (fun _ _ _ => False) elt) own) σ H Q := by
  obtain ⟨ρ, S, env, s, e, p⟩ := h
  rw [evE_comp] at p
  cases hd : dictOf it env S with
  | none =>
    rw [hd] at p
    refine .inl ⟨ρ, S, env, s, e, post_mono (post_bind (Ra := RelI g) s p) ?_⟩
    rintro J H1 ⟨w, S1, ρ1, x1, s1, r1, p1⟩ Dd hD
    cases hr : cGo (cG cds cf elt t cond (wipeE env own)) (w.fuel S1) w [] S1 with
    | none => rw [hr] at p1; exact p1.elim
    | some z =>
      obtain ⟨ys, S2, rfl⟩ := cGo_ok _ _ _ _ _ hr
      rw [hr] at p1
      refine lc_loop hx s1 (e.le (x1.le s)) r1 hD hr fun ρ2 H2 vs x2 s2 hl hm ra => ?_
      refine p1 (ρ2 ++ [Dd]) H2 (.ref Dd) (x2.adopt hD) (s2.adopt (o := .lst ys) hl hm ⟨vs, rfl, ra⟩) ?_
      simp only [rep]
      exact ⟨Dd, by rw [← s2.len]; simp, rfl⟩
  | some z =>
    obtain ⟨a, o, ks⟩ := z
    rw [hd] at p
    obtain ⟨i, rfl, hv, hs, hk⟩ := dictOf_of hd
    simp only at p
    refine .inr ⟨i, rfl, ?_⟩
    obtain ⟨d, ed, hd⟩ : ∃ d, ρ[a]? = some d ∧ True := by
      obtain ⟨d, u, h1, _⟩ := s.ob a o hs
      exact ⟨d, h1, trivial⟩
    obtain ⟨u, hu, ru⟩ := s.at hs ed
    have mu : Mut (some u) ∧ ∀ od, ∃ J : L2.It, obR g ρ H (.lk o) (.frz od u) ∧ ((∃ ws, u = .dK ws ∧ J = Itk d od ws) ∨ ∃ ws, u = .dT ws ∧ J = Itkt d od ws) ∧ ∀ ρ' H', Le ρ H ρ' H' → H' d = some (.frz od u) → ItR g ρ' H' J 0 (.items ks) := by
      cases o with
      | lst _ => cases hk
      | lk _ => cases hk
      | dK kvs =>
        cases hk
        obtain ⟨ws, rfl, r⟩ := ru
        exact ⟨trivial, fun od => ⟨Itk d od ws, ⟨od, _, rfl, ws, rfl, r⟩, .inl ⟨ws, rfl, rfl⟩, fun ρ' H' L h => ItR.kK (g := g) 0 h (repK_le L _ _ r)⟩⟩
      | dT kvs =>
        cases hk
        obtain ⟨ws, rfl, r⟩ := ru
        exact ⟨trivial, fun od => ⟨Itkt d od ws, ⟨od, _, rfl, ws, rfl, r⟩, .inr ⟨ws, rfl, rfl⟩, fun ρ' H' L h => ItR.kT (g := g) 0 h (repK_le L _ _ r)⟩⟩
    have nf : ∀ o' u', H d ≠ some (.frz o' u') := fun o' u' h => by
      rw [hu] at h
      cases h
      exact mu.1
    refine ⟨d, u, hu, mu.1, fun od => ?_⟩
    obtain ⟨J, rlk, hJ, hI⟩ := mu.2 od
    obtain ⟨sL, xL⟩ := s.write (o := .lk o) (u := .frz od u) ed rlk nf
    have eL : EnvR g ρ (upd H d (.frz od u)) env σ := e.le (xL.le s)
    -- the name gives the dict
    refine ⟨ρ, S.set a (.lk o), env, sL, eL, ?_⟩
    have ev : evE cds cf (.var i) env (S.set a (.lk o)) = ok (.ref a) (S.set a (.lk o)) := by
      simp only [evE, hv]
    rw [ev]
    intro ρ1 H1 v x1 s1 rv
    simp only [rep] at rv
    obtain ⟨d', ed', rfl⟩ := rv
    have hd1 : ρ1[a]? = some d := by
      obtain ⟨m, em⟩ := x1.pre
      rw [em, List.getElem?_append_left (List.getElem?_eq_some_iff.mp ed).1]
      exact ed
    rw [hd1] at ed'
    cases ed'
    have hf1 : H1 d = some (.frz od u) := x1.fz _ _ _ upd_same
    cases hr : cGo (cG cds cf elt t cond (wipeE env own)) ks.length (.items ks) [] (S.set a (.lk o)) with
    | none => rw [hr] at p; exact p.elim
    | some z =>
      obtain ⟨ys, S2, rfl⟩ := cGo_ok _ _ _ _ _ hr
      rw [hr] at p
      simp only at p
      have L1 : Le ρ H ρ1 H1 := (xL.trans s x1).le s
      have K := fun (Dd : Addr) (hD : H1 Dd = none) (F : ∀ ρ2 H2 vs, Ext ρ1 H1 ρ2 H2 → Sim g ρ2 S2 H2 → H2 Dd = some (.lst vs) → Dd ∉ ρ2 → repL g ρ2 H2 ys vs → (H2 d = some (.frz od u) ∧ Q (.ref Dd) (upd H2 d u))) =>
        lc_loop (Fin := fun H' => H' d = some (.frz od u) ∧ Q (.ref Dd) (upd H' d u)) (ef := ef) hx s1 (eL.le (x1.le sL)) (hI ρ1 H1 L1 hf1) hD hr F
      have F : ∀ Dd, H1 Dd = none → ∀ ρ2 H2 vs, Ext ρ1 H1 ρ2 H2 → Sim g ρ2 S2 H2 → H2 Dd = some (.lst vs) → Dd ∉ ρ2 → repL g ρ2 H2 ys vs → (H2 d = some (.frz od u) ∧ Q (.ref Dd) (upd H2 d u)) := ?_
      · refine ⟨d, od, rfl, ?_⟩
        rcases hJ with ⟨ws, e1, rfl⟩ | ⟨ws, e1, rfl⟩
        · exact .inl ⟨ws, by rw [← e1]; exact hf1, fun Dd hD => K Dd hD (F Dd hD)⟩
        · exact .inr ⟨ws, by rw [← e1]; exact hf1, fun Dd hD => K Dd hD (F Dd hD)⟩
      intro Dd hD ρ2 H2 vs x2 s2 hl hm ra
      have hf2 : H2 d = some (.frz od u) := x2.fz _ _ _ hf1
      refine ⟨hf2, ?_⟩
      split at p
      · rename_i o' hs2
        have xx : Ext ρ H ρ2 H2 := xL.trans s (x1.trans sL x2)
        have ed2 : ρ2[a]? = some d := by
          obtain ⟨m, em⟩ := xx.pre
          rw [em, List.getElem?_append_left (List.getElem?_eq_some_iff.mp ed).1]
          exact ed
        obtain ⟨u2, hu2, ob2, u2', e2, r2⟩ := s2.at hs2 ed2
        rw [hf2] at hu2
        cases hu2
        cases e2
        have r2' : obR g ρ2 H2 o' u := by
          cases o' with
          | lst _ => exact r2.elim
          | lk _ => exact r2.elim
          | dK _ => exact r2
          | dT _ => exact r2
        have L2' : Le ρ2 H2 ρ2 (upd H2 d u) := ⟨⟨[], by simp⟩, fun b ws h => by
          have hne : b ≠ d := fun e => by rw [e, hf2] at h; cases h
          rw [upd_ne hne]; exact h, fun b ob ws h => by
          have hne : b ≠ d := fun e => by
            rw [e, hf2] at h
            cases h
            cases o' with
            | lst _ => exact r2.elim
            | lk _ => exact r2.elim
            | dK _ => obtain ⟨_, h, _⟩ := r2'; cases h
            | dT _ => obtain ⟨_, h, _⟩ := r2'; cases h
          rw [upd_ne hne]; exact h⟩
        have s3 : Sim g ρ2 (S2.set a o') (upd H2 d u) := s2.over ed2 r2' L2'
        have hDd : Dd ≠ d := fun e => by rw [e] at hD; rw [hf1] at hD; cases hD
        have x3 : Ext ρ H ρ2 (upd H2 d u) := by
          refine ⟨xx.pre, fun b ob n h => ?_, fun b h => ?_, xx.fresh, fun b ob w h => ?_⟩
          · have hne : b ≠ d := fun e => n (by rw [e]; exact List.mem_of_getElem? ed)
            rw [upd_ne hne]; exact xx.fr b ob n h
          · by_cases e : b = d
            · rw [e, upd_same]; simp
            · rw [upd_ne e]; exact xx.kp b h
          · have hne : b ≠ d := fun e => by rw [e] at h; exact nf _ _ h
            rw [upd_ne hne]; exact xx.fz b ob w h
        have hD0 : H Dd = none := by
          cases q : H Dd with
          | none => rfl
          | some w =>
            have := L1
            have h1 : (upd H d (.frz od u)) Dd ≠ none := by rw [upd_ne hDd, q]; simp
            exact absurd hD (x1.kp _ h1)
        refine p (ρ2 ++ [Dd]) (upd H2 d u) (.ref Dd) (x3.adopt hD0) (s3.adopt (o := .lst ys) (u := .lst vs) (by rw [upd_ne hDd]; exact hl) hm ⟨vs, rfl, repL_le L2' _ _ ra⟩) ?_
        simp only [rep]
        exact ⟨Dd, by rw [List.length_set, ← s2.len]; simp, rfl⟩
      · exact p.elim
/-- the parts of a comprehension in their blocks -/
structure CompOk (g : Pl) (T : TC) (cf : CF) (ef : List (List Str)) (cds : Cds) (E0 : XK) (X : Cx) (sc : Scope) (elt tg iter : Expr) (ifs : List Expr) (scope : Scope) (elt' : E) (t : Tg) (it : Ev.It) (cond : Eo) : Prop where
  ht : trTg T.N scope tg = some t
  hb : blkC T.N sc scope (ownOf T.N scope) = true
  hx : ∀ i ∈ t.ixs, i ∈ (ownOf T.N scope).map (·.2)
  hi : PI X tg iter (tI g cf ef cds E0 it)
  hv : ∀ i, it = .seq (.var i) → PE X iter (tS g cf ef cds E0 (.var i))
  he : ∀ (s : Shared) (H : Hp) (C : Addr) (cl : List (Str × Addr)) (fp : List Addr), PE (X.blk s H scope (compEnvC scope cl C X.env) fp) elt (tS g cf ef cds (fun _ _ _ => False) elt')
  hc : ∀ (s : Shared) (H : Hp) (C : Addr) (cl : List (Str × Addr)) (fp : List Addr), PTs (X.blk s H scope (compEnvC scope cl C X.env) fp) ifs (tCond g cf ef cds cond)
  hs : ∀ x, foldedSetIterable iter X.env x = pure x
theorem s_comp (C : Ct g T cf np ef cds E0 k sc X) (hcold : T.cold = true) {elt tg iter : Expr} {ifs : List Expr} {scope : Scope} {elt' : E} {t : Tg} {it : Ev.It} {cond : Eo} (O : CompOk g T cf ef cds E0 X sc elt tg iter ifs scope elt' t it cond) (pos : Pos) :
    PE X (.ListComp elt [⟨tg, iter, ifs, 0⟩] scope pos) (tS g cf ef cds E0 (.comp elt' t it cond ((ownOf T.N scope).map (·.2)))) := by
  have hN : X.N.Nodup := by rw [C.N]; exact C.nd
  have ok : BlkOk X.N X.env.scope scope (ownOf T.N scope) := by rw [C.N]; exact C.blk _ _ O.hb
  refine PE.any fun σ H Q h => ?_
  rcases comp_in O.hx h with h | ⟨i, hi, h⟩
  · exact ⟨_, pe_lc (C.calm hcold) hN O.hi ok (fun s H c cl fp => s_tg (C.comp scope s H c cl fp) hcold O.ht) O.hc O.he O.hs, h⟩
  · exact ⟨_, pe_lock (pe_lc (C.calm hcold) hN (pi_keys (O.hv i hi)) ok (fun s H c cl fp => s_tg (C.comp scope s H c cl fp) hcold O.ht) O.hc O.he O.hs), h⟩
end
end Ev
end
section
set_option Elab.async false
set_option linter.all false
set_option maxRecDepth 100000
set_option autoImplicit false
/-! sorted(xs, key=f) where f's calls keep a property of the state (KE.SortKeyHeap asks that nothing but the heap changes). -/
namespace EvQ
open PySem PySem.W PySem.Calls PyProof.Rows
/-- all that is not one's own is kept -/
def Kpo (own : Addr → Prop) (h h' : Heap) : Prop := ∀ b o, ¬ own b → h.get? b = some o → h'.get? b = some o
section
variable {prog : Program} {w : World} {A : Around} {E : Value → Shared → Prop} {s : Shared} {a kS : Addr} {b : Bool} {vs : List Value} {e1 : Nat} {P : PySem.Fin → Shared → Prop} {kz : List PyData} {G : List (Value × PyData) → Shared → Prop} {own : Addr → Prop}
theorem keyG_rest {f : Value} (dG : ∀ l (s : Shared) h t, G l s → Kpo own s.heap h → G l { s with heap := h, toks := t }) (rd : ∀ l (s : Shared), G l s → ∀ p ∈ l, ∃ as, Reads s.heap p.1 p.2 as) (oa : own a) (oS : own kS) (ow : ∀ c, own c → c = a ∨ c = kS)
    (g0 : G [] s) (nk : s.heap.get? kS = some (seqObj "list" #[] 0)) (na : s.heap.get? a = some (seqObj "list" #[] e1)) (hka : kS ≠ a)
    (hlen : kz.length = vs.length) (hZ : vs.length ≤ sizeLine) (hal : AllAlike kz) (hsk : Sortable kz) (hu : ∀ d, d ∈ kz → A.units + d.depth < cLine)
    (turn : ∀ (i : Nat) (v : Value) (k : PyData), vs[i]? = some v → kz[i]? = some k → ∀ (l : List (Value × PyData)) (s' : Shared), G l s' → (∀ c, own c → ∃ o, s'.heap.get? c = some o) → wpAny (model prog w) A (call f [v]) (fun u s'' => G (l ++ [(u, k)]) s'' ∧ ∀ c o, own c → s'.heap.get? c = some o → s''.heap.get? c = some o) (fun _ _ => False) s')
    (h : ∀ (s' : Shared) out c, G [] s' → s'.heap.get? a = some (seqObj "list" (List.toArray out) c) → KeyedOut b kz vs out → P (.done (.ret .none)) s') (gw : ∀ l s, G l s → G [] s) :
    wpAny (model prog w) A (ksk_rest a f b vs.toArray e1 (.ref kS)) P E s := by
  unfold ksk_rest
  refine wpAny_bind (wpAny_rule ?_)
  first
    | rw [List.forIn_toArray]
    | (rw [← Array.forIn_toList]; simp only [List.toList_toArray])
    | rw [← Array.forIn_toList]
  refine wpAny_bind (ksk_fold (fun i s' => ∃ (kA : Array Value) (e : Nat), G (kA.toList.zip (kz.take i)) s' ∧ kA.size = (kz.take i).length ∧ s'.heap.get? kS = some (seqObj "list" kA e) ∧ s'.heap.get? a = some (seqObj "list" #[] e1)) vs 0 s
    ⟨#[], 0, g0, rfl, nk, na⟩ ?step ?done)
  case step =>
    rintro j x s' hx ⟨kA, e, g', hs, nk', na'⟩
    simp only [Nat.zero_add] at g' hs ⊢
    have hj : j < vs.length := (List.getElem?_eq_some_iff.mp hx).1
    obtain ⟨k, hkj⟩ : ∃ k, kz[j]? = some k := ⟨_, List.getElem?_eq_getElem (by omega)⟩
    have hz : kA.size ≤ vs.length := by
      rw [hs, List.length_take]
      omega
    refine wpAny_bind (wpAny_attempt (wpAny_mono (turn j x k hx hkj _ s' g' fun c hc => by rcases ow c hc with e | e <;> rw [e] <;> first | exact ⟨_, na'⟩ | exact ⟨_, nk'⟩) (fun v s'' he => ?_) fun _ _ hF => hF.elim))
    obtain ⟨g2, hg⟩ := he
    obtain ⟨g, gs, dr, tk2, os⟩ := s''
    try dsimp only at hg ⊢
    have nk2 : g.get? kS = some (seqObj "list" kA e) := hg _ _ oS nk'
    have na2 : g.get? a = some (seqObj "list" #[] e1) := hg _ _ oa na'
    have s1 := Heap.SameBut.update g kS (Obj.mapSeq (·.push v))
    obtain ⟨c2, hc2⟩ : ∃ c2, (g.update kS (Obj.mapSeq (·.push v))).get? kS = some (seqObj "list" (kA.push v) c2) := ⟨_, get?_update_seq nk2 (·.push v)⟩
    have ek : kz.take (j + 1) = kz.take j ++ [k] := by rw [List.take_add_one, hkj]; simp
    have ea : (kA.push v).toList = kA.toList ++ [v] := by simp
    refine wpAny_bind (listUpdate_at nk2 rfl ?_ (Nat.le_trans hz hZ) (Nat.le_trans (Nat.le_of_eq (Array.size_push ..)) (Nat.succ_le_succ (Nat.le_trans hz hZ))))
    refine wpAny_pure ⟨rfl, kA.push v, c2, ?_, ?_, hc2, (s1.2 a hka.symm).trans na2⟩
    · rw [ea, ek, List.zip_append (by rw [Array.length_toList]; exact hs)]
      exact dG _ _ _ _ g2 fun b o hb e => (s1.2 b fun z => hb (by rw [z]; exact oS)).trans e
    · rw [ek, Array.size_push, hs, List.length_append]
      rfl
  case done =>
    rintro s' ⟨kA, e, g', hs, nk', na'⟩
    have e3 : kz.take (0 + vs.length) = kz := List.take_of_length_le (by omega)
    rw [e3] at g' hs
    have hk' : EachIs (fun v k => ∃ as, Reads s'.heap v k as) kA.toList kz := EachIs.of_zip (by rw [Array.length_toList]; exact hs) fun p hp => rd _ _ g' p hp
    obtain ⟨h₁, k1, k2⟩ := L2.restrict s'.heap fun b => decide (b ≠ kS)
    have kp : KeepsBut a h₁ s'.heap := fun b o hb q => by
      by_cases e : b = kS
      · rw [k2 b (by simp [e])] at q; cases q
      · rw [← k1 b (by simp [e])]; exact q
    try dsimp only
    refine wpAny_bind (listItems_at nk' rfl ?_)
    exact keyH_end (κ := dataKind s'.heap kz) (h₁ := h₁) kp (k2 kS (by simp)) nk' na' hka (SortsAt.data (s := s') hk' hal hsk hu) (by rw [hs, hlen]) hZ fun h3 tk3 c kp3 n3 =>
      h _ _ c (dG _ _ _ _ (gw _ _ g') fun b o hb q => kp3 b o (fun z => hb (by rw [z]; exact oa)) ((k1 b (by simp; exact fun z => hb (by rw [z]; exact oS))).trans q)) n3 ⟨s'.heap, kA.toList, hal, rfl, hk'⟩
theorem keyG_tree {f : Value} {n : Nat} (dG : ∀ l (s : Shared) h t, G l s → Kpo own s.heap h → G l { s with heap := h, toks := t }) (rd : ∀ l (s : Shared), G l s → ∀ p ∈ l, ∃ as, Reads s.heap p.1 p.2 as) (gw : ∀ l s, G l s → G [] s)
    (oa : own a) (oS : own (s.heap.objs.size + 1)) (ow : ∀ c, own c → c = a ∨ c = s.heap.objs.size + 1) (g0 : G [] s) (ho : s.heap.get? a = some (seqObj "list" vs.toArray n)) (hlen : kz.length = vs.length) (hZ : vs.length ≤ sizeLine) (hal : AllAlike kz) (hsk : Sortable kz) (hu : ∀ d, d ∈ kz → A.units + d.depth < cLine)
    (turn : ∀ (i : Nat) (v : Value) (k : PyData), vs[i]? = some v → kz[i]? = some k → ∀ (l : List (Value × PyData)) (s' : Shared), G l s' → (∀ c, own c → ∃ o, s'.heap.get? c = some o) → wpAny (model prog w) A (call f [v]) (fun u s'' => G (l ++ [(u, k)]) s'' ∧ ∀ c o, own c → s'.heap.get? c = some o → s''.heap.get? c = some o) (fun _ _ => False) s')
    (h : ∀ (s' : Shared) out c, G [] s' → s'.heap.get? a = some (seqObj "list" (List.toArray out) c) → KeyedOut b kz vs out → P (.done (.ret .none)) s') :
    wpAny (model prog w) A (ksk_tree a f b) P E s := by
  have ha : a < s.heap.objs.size := Heap.lt_size ho
  have sb := Heap.SameBut.update s.heap a (Obj.mapSeq fun _ => (#[] : Array Value))
  obtain ⟨e1, ho1⟩ : ∃ e1, (s.heap.update a (Obj.mapSeq fun _ => (#[] : Array Value))).get? a = some (seqObj "list" #[] e1) := ⟨_, get?_update_seq ho fun _ => #[]⟩
  have hkS : ((s.heap.update a (Obj.mapSeq fun _ => (#[] : Array Value))).push (seqObj "tuple" vs.toArray 0)).objs.size = s.heap.objs.size + 1 := by rw [size_push', Heap.size_update]
  unfold ksk_tree
  refine wpAny_bind (listItems_at ho rfl ?_)
  refine wpAny_bind (listUpdate_at ho rfl ?_ (by rw [List.size_toArray]; exact hZ) (Nat.zero_le _))
  refine wpAny_bind (seqEpoch_at ho1 rfl ?_)
  refine wpAny_bind (wpAny_newTuple ?_ (by show vs.length ≤ _; exact hZ))
  refine wpAny_bind (wpAny_newList ?_ (Nat.zero_le _))
  refine wpAny_holding ?_
  refine keyG_rest (kz := kz) (s := { s with heap := ((s.heap.update a (Obj.mapSeq fun _ => (#[] : Array Value))).push (seqObj "tuple" vs.toArray 0)).push (seqObj "list" #[] 0) }) (kS := ((s.heap.update a (Obj.mapSeq fun _ => (#[] : Array Value))).push (seqObj "tuple" vs.toArray 0)).objs.size) dG rd oa (by rw [hkS]; exact oS) (by rw [hkS]; exact ow)
    (dG _ s _ _ g0 fun b o hb q => Heap.get?_push_of_some _ (Heap.get?_push_of_some _ ((sb.2 b fun z => hb (by rw [z]; exact oa)).trans q))) (Heap.get?_push_size _ rfl) (Heap.get?_push_of_some _ (Heap.get?_push_of_some _ ho1)) (by rw [hkS]; exact Nat.ne_of_gt (Nat.lt_succ_of_lt ha)) hlen hZ hal hsk hu turn h gw
end
section
variable {prog : Program} {w : World} {A : Around} {E : Value → Shared → Prop} {s : Shared} {β : Type} {vs : List Value} {bs : List β} {R : Value → β → Prop} {G : List (Value × PyData) → Shared → Prop} {own : Addr → Prop}
theorem sorted_keyG {l : Addr} {f : Value} {kw : List (Str × Value)} {b : Bool} {Q : Value → Shared → Prop} (dG : ∀ l (s : Shared) h t, G l s → Kpo own s.heap h → G l { s with heap := h, toks := t }) (rd : ∀ l (s : Shared), G l s → ∀ p ∈ l, ∃ as, Reads s.heap p.1 p.2 as) (gw : ∀ l s, G l s → G [] s)
    (oo : ∀ c, own c ↔ c = s.heap.objs.size + 1 ∨ c = s.heap.objs.size + 3) (g0 : G [] s) (k : β → PyData) (hl : s.heap.IsList l vs.toArray) (e : EachIs R vs bs) (hal : AllAlike (bs.map k)) (hk : Sortable (bs.map k)) (hL : bs.length ≤ sizeLine)
    (hu : ∀ x, x ∈ bs → A.units + 2 + (k x).depth < cLine) (ha1 : argsOk "sorted" ⟨[.ref l], kw⟩) (ha2 : ∀ x, argsOk "list.sort" ⟨[.ref x], kw⟩) (ht : ∀ x, Builtin.«list.sort» ⟨[.ref x], kw⟩ = ksk_tree x f b)
    (turn : ∀ (v : Value) (x : β), R v x → x ∈ bs → ∀ (l : List (Value × PyData)) (s' : Shared), G l s' → (∀ c, own c → ∃ o, s'.heap.get? c = some o) → wpAny (model prog w) A.in1.in1 (call f [v]) (fun u s'' => G (l ++ [(u, k x)]) s'' ∧ ∀ c o, own c → s'.heap.get? c = some o → s''.heap.get? c = some o) (fun _ _ => False) s')
    (h : ∀ (s' : Shared) out c, G [] s' → s'.heap.get? (s.heap.objs.size + 1) = some (seqObj "list" (List.toArray out) c) → out.length = bs.length → EachIs R out (bs.mergeSort (dataLe b k)) → Q (.ref (s.heap.objs.size + 1)) s') :
    wpAny (model prog w) A (call (.builtin "sorted") [.ref l] kw) Q E s := by
  refine sorted_of_sort hl (by rw [e.length]; exact hL) ha1 ha2 fun E' => ?_
  rw [ht]
  have hsz : (copyHeap s.heap vs).objs.size = s.heap.objs.size + 2 := by
    unfold copyHeap
    rw [size_push', Heap.size_update, size_push']
  refine keyG_tree (kz := bs.map k) (s := { s with heap := copyHeap s.heap vs }) dG rd gw ((oo _).mpr (.inl rfl)) ((oo _).mpr (.inr (by show (copyHeap s.heap vs).objs.size + 1 = _; omega))) (fun c hc => by
      show c = _ ∨ c = (copyHeap s.heap vs).objs.size + 1
      rw [hsz]
      exact (oo c).mp hc) (dG _ s _ _ g0 fun b o hb q => copyHeap_old q) (copyHeap_at s.heap vs) (by rw [List.length_map]; exact e.length.symm) (by rw [e.length]; exact hL) hal hk (bound_map (A := A.in1.in1) hu)
    (fun i v d hv hd l s' g' ex => ?_) fun s' out c g' hD ko => ⟨rfl, ?_⟩
  · rw [List.getElem?_map] at hd
    obtain ⟨x, q, rfl⟩ := Option.map_eq_some_iff.mp hd
    have hz : (v, x) ∈ vs.zip bs := List.mem_of_getElem? (i := i) (by rw [List.getElem?_zip_eq_some]; exact ⟨hv, q⟩)
    exact turn v x (e.zip _ hz) (List.mem_of_getElem? q) l s' g' ex
  · exact h s' out c g' hD ((ko.length (by rw [List.length_map]; exact e.length.symm)).trans e.length) (keyedOut_each k ko e)
end
end EvQ
end
section
set_option Elab.async false
set_option linter.all false
set_option maxRecDepth 100000
set_option autoImplicit false
/-! sorted(xs, key=f), f a def. -/
namespace Ev
open PySem PySem.Spec PyProof.Rows L2

section
variable {g : Pl} {T : TC} {cf : CF} {np : Nat → Nat} {ef : List (List Str)} {cds : Cds} {E0 : XK} {k : Nat} {sc : Scope} {X : Cx}
/-- an item: its key, itself, its value -/
abbrev Kt := D × D × V
def rSrt (g : Pl) (K : PySem.W.Frag) (cf : CF) (i : Nat) : List V → List V → Hp → VK → Prop := fun vs zs H Q => ∃ (a : Addr) (bs : List Kt), vs = [.ref a] ∧ zs = [.ref (g.fnA i)] ∧ SqL K H a (bs.map (·.2.2)) ∧ sortOk (bs.map (·.1)) = true ∧
  (∀ b ∈ bs, pureL [b.2.1] = true ∧ (∃ S', cf i [b.2.1] [] = some (.ok b.1 S')) ∧ b.1.pure = true ∧ rep g [] H b.2.1 b.2.2) ∧
  ∀ p H', (∀ a o, H a = some o → H' a = some o) → H' p = none → Q (.ref p) (upd H' p (.lst ((isort (fun x y : Kt => dle x.1 y.1) bs).map (·.2.2))))
/-- the state between the calls -/
def GS (g : Pl) (X : Cx) (pins : List (Addr × Obj)) (σ : L2.St) (H : Hp) (own : Addr → Prop) (l : List (Value × PyData)) (s : Shared) : Prop := ∃ H', Inv X pins σ H' s ∧ (∀ a o, H a = some o → H' a = some o) ∧ (∀ c, own c → FpOk X pins H' c) ∧
  ∀ p ∈ l, ∃ d v, L2.RelV v p.1 ∧ rep g [] H' d v ∧ (d.toP fun _ => none).isSome = true ∧ p.2 = encD d
theorem sort_some {xs : List D} (h : sortOk xs = true) : ∀ d ∈ xs, (d.toP fun _ => none).isSome = true := by
  unfold sortOk at h
  simp only [Bool.and_eq_true, List.all_eq_true] at h
  exact fun d hd => (h.1.1.1 d hd).1
theorem le_sub {H H' : Hp} (h : ∀ a o, H a = some o → H' a = some o) : Le [] H [] H' := ⟨⟨[], rfl⟩, fun a vs e => h a _ e, fun a o vs e => h a _ e⟩
theorem room2 {k : Nat} {A : Around} (r : Room (k + 1) A) : Room k A.in1.in1 :=
  ⟨r.hd, by have := r.dp; show A.depth + 3 * k + 5 < _; omega, by have := r.un; show A.units + 1 + 1 + 16 * k + 200 < _; omega⟩
theorem cr_srt (C : Ct g T cf np ef cds E0 k sc X) (hcold : T.cold = true) {i : Nat} (hi : i < T.fns.length) : CallRK X (.builtin "sorted") [Str.ofString "key"] (rSrt g X.K cf i) := by
  intro pins s σ H vs zs us ws Q I r rz h
  obtain ⟨a, bs, rfl, rfl, hs, ok, hk, q⟩ := h
  obtain rfl := Vals.ref1 r
  obtain rfl := Vals.ref1 rz
  obtain ⟨its, rv, hl, hz⟩ := I.list hs
  obtain ⟨f1, f2, f3, f4⟩ := sort_facts ok
  obtain ⟨fd, ps, hkp, hb, F⟩ := C.fn i hi
  have e : PySem.W.EachIs (fun u (b : Kt) => L2.RelV b.2.2 u) its bs := each_of rv fun u b _ h => h
  have hu := C.room.un
  have fresh : ∀ c, s.heap.objs.size ≤ c → FpOk X pins H c := fun c hc => I.fpOk hc (I.hok.fresh hc)
  refine EvQ.sorted_keyG (own := fun c => c = s.heap.objs.size + 1 ∨ c = s.heap.objs.size + 3) (G := GS g X pins σ H fun c => c = s.heap.objs.size + 1 ∨ c = s.heap.objs.size + 3)
    (fun l s' h t hg kp => ?_) (fun l s' hg p hp => ?_) (fun l s' hg => ?_) (fun c => Iff.rfl)
    ⟨H, I, fun _ _ h => h, fun c hc => fresh c (by rcases hc with z | z <;> rw [z] <;> exact Nat.le_add_right _ _), fun p hp => absurd hp (by simp)⟩ (fun b : Kt => encD b.1) hl.isList e f2 f3 (Nat.le_trans f4 (by decide)) (fun b hb => by have := f1 b hb; omega)
    (ksk_s1 _ _) (fun x => ksk_l1 _ _) (fun x => ksk_t1 _ _) (fun v x rx hx l s' hg ex => ?_) (fun s' out c hg ho hlen eo => ?_)
  · obtain ⟨H', I', sub, fp, hl'⟩ := hg
    refine ⟨H', I'.turnedL (ch := [s.heap.objs.size + 1, s.heap.objs.size + 3]) (fun b o hb e => kp b o (fun z => hb (by rcases z with z | z <;> simp [z])) e) (fun b hb => fp b (by simpa using hb)), sub, fp, hl'⟩
  · obtain ⟨H', I', sub, fp, hl'⟩ := hg
    obtain ⟨d, v, h1, h2, h3, h4⟩ := hl' p hp
    have := enc_dp h3 h2
    rw [← C.K] at this
    rw [h4]
    exact Dp.reads I' _ _ _ this h1
  · obtain ⟨H', I', sub, fp, hl'⟩ := hg
    exact ⟨H', I', sub, fp, fun p hp => absurd hp (by simp)⟩
  · obtain ⟨H', I', sub, fp, hl'⟩ := hg
    obtain ⟨b1, ⟨S', b2⟩, b3, b4⟩ := hk x hx
    have hnp : np i = 1 := ((C.ar i [x.2.1] [] (by rw [b2]; rfl)).1).symm
    have hsp : spF g ef cf (np i) i [x.2.2] H' (fun v H2 => Ext [] H' [] H2 ∧ rep g [] H2 x.1 v) (fun _ _ _ => False) := by
      refine ⟨by rw [hnp]; rfl, [], [], [x.2.1], sim_nil, ?_, ?_⟩
      · simp only [repL]
        exact ⟨_, _, rfl, rep_le (le_sub sub) _ _ b4, rfl⟩
      · rw [b2]
        intro ρ' H2 v x2 s2 r2
        exact ⟨⟨⟨[], rfl⟩, x2.fr, x2.kp, fun a ha => absurd ha (by simp), x2.fz⟩, rep_pure (ρ := ρ') _ _ b3 r2⟩
    have hln : ([v] ++ [] : List Value).length = ps.length := (F.len _ _ _ _ hsp).symm ▸ rfl
    refine wpAny_call (codeAny_mono (F.run X.A.in1.in1 X.stack s' H' ⟨[v], []⟩ [v] [x.2.2] _ _ (room2 (C.rm hcold)) I'.env0.in1.in1 (hb s' [v] I'.kIn hln) (.cons rx .nil) hsp) fun r s'' hq => ?_)
    cases r with
    | error e =>
      obtain ⟨_, _, _, _, _, _, _, _, _, _, _, _, z⟩ := hq
      exact z.elim
    | ok f =>
      cases f with
      | ret u =>
        obtain ⟨v0, H2, os, bare, un, hok, rv2, x2, r2⟩ := hq
        obtain ⟨hh, gg, dd, tt, os'⟩ := s''
        obtain rfl : os' = s'.os := os
        have I2 : Inv X pins σ H2 ⟨hh, gg, dd, tt, s'.os⟩ := I'.call (h' := hh) (g' := gg) (d' := dd) (t' := tt) (ch := []) un hok bare (fun b z => absurd z (by simp))
        have nst : ∀ c, (c = s.heap.objs.size + 1 ∨ c = s.heap.objs.size + 3) → c ∉ frs X.stack := fun c hc hm => by
          rcases List.mem_cons.mp (I'.stkSub c hm) with z | z
          · exact (fp c hc).2.1 z
          · exact (fp c hc).2.2.1 z
        refine ⟨⟨H2, I2, fun a o h => x2.fr a o (by simp) (sub a o h), fun c hc => ?_, fun p hp => ?_⟩, fun c o hc ho => un.keep c o ho (fp c hc).1 (nst c hc) (by simp)⟩
        · obtain ⟨o, ho⟩ := ex c hc
          exact ⟨un.free c o ho (fp c hc).1 (by simp), (fp c hc).2⟩
        · rcases List.mem_append.mp hp with hp | hp
          · obtain ⟨d, v, h1, h2, h3, h4⟩ := hl' p hp
            exact ⟨d, v, h1, rep_le (le_sub fun a o h => x2.fr a o (by simp) h) _ _ h2, h3, h4⟩
          · have hp : p = (u, encD x.1) := by simpa using hp
            subst hp
            exact ⟨x.1, v0, rv2, r2, sort_some ok _ (List.mem_map_of_mem hx), rfl⟩
      | _ => exact False.elim hq
  · obtain ⟨H', I', sub, fp, hl'⟩ := hg
    have t := dle_total fun b : Kt => encD b.1
    rw [← isort_ms t.1 t.2] at eo
    have rv' := vals_each (f := fun b : Kt => b.2.2) eo
    have hlen' : (List.map (fun b : Kt => b.2.2) (isort (PySem.W.dataLe false fun b : Kt => encD b.1) bs)).length ≤ sizeLine := by
      rw [rv'.length, hlen]
      exact Nat.le_trans f4 (by decide)
    exact ⟨.ref _, upd H' (s.heap.objs.size + 1) (.lst ((isort (fun x y : Kt => dle x.1 y.1) bs).map (·.2.2))), I'.take (h' := s'.heap) (t' := s'.toks) (fun _ _ _ h => h) (fp _ (.inl rfl)) ⟨hlen', out, c, rv', ho⟩, rfl, q _ H' sub (fp _ (.inl rfl)).1⟩
theorem keysF_len : ∀ {xs ks : List D} {i : Nat}, keysF cf i xs = some ks → ks.length = xs.length ∧ ∀ p ∈ ks.zip xs, pureL [p.2] = true ∧ (∃ S', cf i [p.2] [] = some (.ok p.1 S')) ∧ p.1.pure = true
  | [], ks, i, h => by
    simp only [keysF, Option.some.injEq] at h
    subst h
    exact ⟨rfl, fun p hp => by simp at hp⟩
  | x :: xs, ks, i, h => by
    simp only [keysF] at h
    split at h
    · rename_i d S' ks' h1 h2 h3
      split at h
      · rename_i hd
        cases h
        obtain ⟨l1, l2⟩ := keysF_len h3
        refine ⟨by simp [l1], fun p hp => ?_⟩
        rw [List.zip_cons_cons] at hp
        rcases List.mem_cons.mp hp with e | hp
        · subst e
          exact ⟨h1, ⟨S', h2⟩, hd⟩
        · exact l2 p hp
      · cases h
    · cases h
theorem s_srt (C : Ct g T cf np ef cds E0 k sc X) (hcold : T.cold = true) {gn : Str} {i : Nat} (hi : ixOf T.fns gn = some i) (hg : isGlb sc "sorted" = true) (hgn : isGlb sc gn = true) (hod : odd gn = false) {a : Expr} {a' : E} (ha : PE X a (tS g cf ef cds E0 a')) (hs : isStar a = false) (p p2 p3 pos : Pos) :
    PE X (.Call (.Name "sorted" p) [a] [⟨some "key", .Name gn p2, p3⟩] pos) (tS g cf ef cds E0 (.srt i a')) := by
  have hx := ixOf_get hi
  have hl : i < T.fns.length := (List.getElem?_eq_some_iff.mp hx).1
  have he := star_of hs [] X.env
  refine PE.imp (pe_callBK (cr_srt C hcold hl) (C.glb _ hg) (C.blt _ (by decide)) (by decide +kernel) (pa_cons ha pa_nil he) (pk_cons (pe_glob (v := .ref (g.fnA i)) (C.glb _ hgn) (C.fns i gn hx) rfl (odd_of hod).1) pk_nil) (by decide) (by decide) (by rw [he]; rfl) (by rw [he]; rfl)) ?_
  rintro σ H Q ⟨ρ, S, env, s, e, p⟩
  simp only [evE] at p
  refine tS_bind s e p fun v H1 d S1 ρ1 s1 e1 L1 r1 p1 => ?_
  split at p1
  · rename_i ys hxs
    split at p1
    · rename_i ks hks
      split at p1
      · rename_i hok
        obtain ⟨ll, hz⟩ := keysF_len hks
        unfold lstOf at hxs
        split at hxs
        · rename_i n
          split at hxs
          · rename_i ys' hn
            cases hxs
            obtain ⟨a1, ws, _, rfl, ha1, ra⟩ := rep_lst s1 hn r1
            have lw := repL_length ra
            have lz : (ys.zip ws).length = ks.length := by rw [List.length_zip, lw, ll]; omega
            let bs : List Kt := ks.zip (ys.zip ws)
            have b1 : bs.map (·.1) = ks := List.map_fst_zip (by omega)
            have b2 : bs.map (·.2) = ys.zip ws := List.map_snd_zip (by omega)
            have b3 : bs.map (fun b => b.2.2) = ws := by
              have : bs.map (fun b => b.2.2) = (bs.map (·.2)).map (·.2) := by rw [List.map_map]; rfl
              rw [this, b2]
              exact List.map_snd_zip (by omega)
            have b4 : bs.map (fun b => b.2.1) = ys := by
              have : bs.map (fun b => b.2.1) = (bs.map (·.2)).map (·.1) := by rw [List.map_map]; rfl
              rw [this, b2]
              exact List.map_fst_zip (by omega)
            have b5 : bs.map (fun b => (b.1, b.2.1)) = ks.zip ys := by
              conv => rhs; rw [← b1, ← b4]
              rw [List.zip_map']
            refine ⟨a1, bs, rfl, rfl, by rw [b3, C.K]; exact sqL ha1, by rw [b1]; exact hok, fun b hb => ?_, fun p H' sub hp => ?_⟩
            · obtain ⟨z1, z2, z3⟩ := hz (b.1, b.2.1) (by rw [← b5]; exact List.mem_map_of_mem (f := fun b : Kt => (b.1, b.2.1)) hb)
              refine ⟨z1, z2, z3, ?_⟩
              have hm : b.2 ∈ ys.zip ws := (List.of_mem_zip hb).2
              have z1' : b.2.1.pure = true := by simpa only [pureL, Bool.and_true] using z1
              exact rep_pure (ρ := ρ1) _ _ z1' (zip_rep ra b.2 hm)
            · have L2 : Le ρ1 H1 ρ1 H' := ⟨⟨[], by simp⟩, fun a vs e => sub a _ e, fun a o vs e => sub a _ e⟩
              have s2 : Sim g ρ1 S1 H' := s1.up L2 fun a u _ e => sub a u e
              have kp1 : ∀ a, H1 a ≠ none → H' a ≠ none := by
                intro a h n
                obtain ⟨u, q⟩ := Option.ne_none_iff_exists'.mp h
                rw [sub a u q] at n
                cases n
              have x1 : Ext ρ1 H1 ρ1 H' := ⟨⟨[], by simp⟩, fun a o _ h => sub a o h, kp1, fun _ h n => absurd h n, fun a o u h => sub a _ h⟩
              have em := isort_map (fun b : Kt => (b.1, b.2.1)) (fun x y : Kt => dle x.1 y.1) (fun x y : D × D => dle x.1 y.1) (fun _ _ => rfl) bs
              rw [b5] at em
              have r2 : repL g ρ1 H' ((isort (fun p q : D × D => dle p.1 q.1) (ks.zip ys)).map (·.2)) ((isort (fun x y : Kt => dle x.1 y.1) bs).map (·.2.2)) := by
                rw [← em, List.map_map]
                have := repL_pairs (g := g) (ρ := ρ1) (H := H') (zs := (isort (fun x y : Kt => dle x.1 y.1) bs).map (·.2)) fun q hq => by
                  obtain ⟨b, hb, rfl⟩ := List.mem_map.mp hq
                  exact rep_le L2 _ _ (zip_rep ra b.2 (List.of_mem_zip (mem_isort hb)).2)
                rw [List.map_map, List.map_map] at this
                exact this
              obtain ⟨s3, x3⟩ := s2.new (o := .lst ((isort (fun p q : D × D => dle p.1 q.1) (ks.zip ys)).map (·.2))) hp ⟨_, rfl, r2⟩
              refine p1 (ρ1 ++ [p]) _ (.ref p) (x1.trans s1 x3) s3 ?_
              simp only [rep]
              exact ⟨p, by rw [← s1.len]; simp, rfl⟩
          · cases hxs
        · cases hxs
      · exact p1.elim
    · exact p1.elim
  · exact p1.elim
end
end Ev
end
section
set_option Elab.async false
set_option linter.all false
set_option maxRecDepth 100000
set_option autoImplicit false
/-! Every expression. -/
namespace Ev
open PySem PySem.Spec PyProof.Rows L2

section
variable {g : Pl} {T : TC} {cf : CF} {np : Nat → Nat} {ef : List (List Str)} {cds : Cds} {E0 : XK} {k : Nat} {sc : Scope} {X : Cx}
theorem tT_bad (σ : L2.St) (H : Hp) (Q : Bool → Hp → Prop) : ¬ tT g cf ef cds E0 .bad σ H Q := tS_bad _ _ _
theorem pe_bad {e : Expr} : PE X e (tS g cf ef cds E0 .bad) := PE.no tS_bad
theorem pt_bad {e : Expr} : PT X e (tT g cf ef cds E0 .bad) := PT.no tT_bad
theorem po_bad {e : Option Expr} : PO X e (tO g cf ef cds E0 (.some .bad)) := ⟨fun _ _ _ _ _ _ h => absurd h (tS_bad _ _ _)⟩
theorem pi_bad {tg e : Expr} : PI X tg e (tI g cf ef cds E0 (.seq .bad)) := ⟨fun pins s σ H R I h => by
  obtain ⟨ρ, S, env, s, en, p⟩ := h
  simp only [evI, evE, O.bind, post] at p⟩
/-- what holds of an expression -/
def Good (g : Pl) (cf : CF) (ef : List (List Str)) (cds : Cds) (E0 : XK) (X : Cx) (e : Expr) (e' : E) : Prop := PE X e (tS g cf ef cds E0 e') ∧ PT X e (tT g cf ef cds E0 e')
theorem good_bad {e : Expr} : Good g cf ef cds E0 X e .bad := ⟨pe_bad, pt_bad⟩
theorem good_bool (C : Ct g T cf np ef cds E0 k sc X) {f : Expr → E} (ih : ∀ e, Good g cf ef cds E0 X e (f e)) (op : BoolOp) (pos : Pos) : ∀ es : List Expr, PE X (.BoolOp op es pos) (tS g cf ef cds E0 (trB f op es)) ∧ PW X (.BoolOp op es pos) (tT g cf ef cds E0 (trB f op es))
  | [] => ⟨pe_bad, ⟨fun _ _ _ _ _ _ _ h => absurd h (tT_bad _ _ _)⟩⟩
  | [e] => ⟨pe_one (ih e).1, by
    cases op with
    | And => exact pw_and1 (ih e).2
    | Or => exact pw_or1 (ih e).2⟩
  | e :: e2 :: es => by
    obtain ⟨h1, h2⟩ := good_bool C ih op pos (e2 :: es)
    cases op with
    | And => exact ⟨s_and (ih e).1 h1, w_and (ih e).2 h2⟩
    | Or => exact ⟨s_or (ih e).1 h1, w_or (ih e).2 h2⟩
theorem good_cmp (C : Ct g T cf np ef cds E0 k sc X) {a b : Expr} {a' b' : E} (ha : Good g cf ef cds E0 X a a') (hb : Good g cf ef cds E0 X b b') (op : CmpOp) (pos : Pos) : Good g cf ef cds E0 X (.Compare a [op] [b] pos) (match trCmp op with
    | some o => if behindInMarks op b then .bad else .cmp o a' b'
    | none => .bad) := by
  split
  · rename_i o ho
    obtain rfl := trCmp_of ho
    split
    · exact good_bad
    · rename_i hm
      have hm : behindInMarks (opC o) b = false := by
        cases q : behindInMarks (opC o) b with
        | false => rfl
        | true => exact absurd q hm
      exact ⟨s_cmp C ha.1 hb.1 o pos hm, t_cmp C ha.1 hb.1 o pos hm⟩
  · exact good_bad
theorem t_ife {c a b : Expr} {c' a' b' : E} (hc : PT X c (tT g cf ef cds E0 c')) (ha : PT X a (tT g cf ef cds E0 a')) (hb : PT X b (tT g cf ef cds E0 b')) (pos : Pos) : PT X (.IfExp c a b pos) (tT g cf ef cds E0 (.ife c' a' b')) := by
  refine ⟨fun pins s σ H Q I h => ?_⟩
  obtain ⟨ρ, S, env, sm, e, p⟩ := h
  simp only [evE] at p
  refine isTrue_IfExp (thn (hc.run pins s σ H (fun d H1 => if d = true then tT g cf ef cds E0 a' σ H1 Q else tT g cf ef cds E0 b' σ H1 Q) I ?_) fun d s1 ⟨H1, I1, q1⟩ => ?_)
  · refine tS_bind sm e p fun v H1 x S1 ρ1 s1 e1 L1 r1 p1 => ?_
    split at p1
    · exact ⟨true, rep_bl r1, ρ1, S1, env, s1, e1, p1⟩
    · exact ⟨false, rep_bl r1, ρ1, S1, env, s1, e1, p1⟩
    · exact p1.elim
  · cases d with
    | true => exact ha.run pins s1 σ H1 Q I1 q1
    | false => exact hb.run pins s1 σ H1 Q I1 q1
theorem plain_ix {b : Expr} (h : isSliceE b = false) : PlainIx b := by
  intro o i
  cases b <;> first | rfl | cases h
theorem trI_var {n : Nat} {e : Expr} {i : Nat} (hP : ∀ m, m < n → ∀ e, PE X e (tS g cf ef cds E0 (trE T m sc e))) (h : trI T n sc e = .seq (.var i)) : PE X e (tS g cf ef cds E0 (.var i)) := by
  cases n with
  | zero => simp only [trI, It.seq.injEq, reduceCtorEq] at h
  | succ n =>
    have hn := hP n (Nat.lt_succ_self n)
    simp only [trI] at h
    split at h
    · split at h
      · split at h
        · split at h
          · simp only [It.seq.injEq, reduceCtorEq] at h
          · cases h
        · split at h
          · simp only [It.seq.injEq, reduceCtorEq] at h
          · cases h
        · simp only [It.seq.injEq, reduceCtorEq] at h
      · simp only [It.seq.injEq] at h
        rw [← h]
        exact hn _
    · simp only [It.seq.injEq, reduceCtorEq] at h
    · simp only [It.seq.injEq] at h
      rw [← h]
      exact hn _
theorem comp_set {e : Expr} {elt : E} {t : Tg} {cond : Eo} {own : List Nat} {it : Ev.It} (h : it = .seq .bad) : PE X e (tS g cf ef cds E0 (.comp elt t it cond own)) := by
  subst h
  refine PE.no ?_
  rintro σ H Q ⟨ρ, S, env, s, en, p⟩
  rw [evE_comp] at p
  simp only [dictOf, evI, evE, O.bind, post] at p
theorem s_main (n : Nat) : ∀ {sc : Scope} {X : Cx} {E0 : XK} (C : Ct g T cf np ef cds E0 k sc X), (∀ e, Good g cf ef cds E0 X e (trE T n sc e)) ∧ (∀ o, PO X o (tO g cf ef cds E0 (trO T n sc o))) ∧ (∀ tg it, PI X tg it (tI g cf ef cds E0 (trI T n sc it))) := by
  induction n using Nat.strongRecOn with
  | _ n IH =>
  cases n with
  | zero => exact fun C => ⟨fun e => by simp only [trE]; exact good_bad, fun o => by simp only [trO]; exact po_bad, fun tg it => by simp only [trI]; exact pi_bad⟩
  | succ n =>
    intro sc X E0 C
    have ih := @IH n (Nat.lt_succ_self n)
    have hPs : ∀ m, m < n → ∀ e, PE X e (tS g cf ef cds E0 (trE T m sc e)) := fun m hm e => ((IH m (Nat.lt_succ_of_lt hm) C).1 e).1
    obtain ⟨hE, hO, hI⟩ := ih C
    have hP : ∀ e, PE X e (tS g cf ef cds E0 (trE T n sc e)) := fun e => (hE e).1
    have hL : ∀ es, PA X es (tL g cf ef cds E0 (trL (trE T n sc) es)) := s_list C hP
    refine ⟨fun e => ?_, fun o => ?_, fun tg it => ?_⟩
    · cases e with
      | Name x pos =>
        simp only [trE]
        exact ⟨s_name C x pos, pt_val (s_name C x pos)⟩
      | Constant c j pos =>
        simp only [trE]
        split
        · rename_i d hd
          exact ⟨s_cst hd, pt_val (s_cst hd)⟩
        · exact good_bad
      | Tuple es j pos =>
        simp only [trE]
        exact ⟨s_tup (hL es) j pos, pt_val (s_tup (hL es) j pos)⟩
      | List es pos =>
        simp only [trE]
        exact ⟨s_lst (hL es) pos, pt_val (s_lst (hL es) pos)⟩
      | Dict ks vs pos =>
        cases ks with
        | nil =>
          cases vs with
          | nil => simp only [trE]; exact ⟨s_dnew _, pt_val (s_dnew _)⟩
          | cons _ _ => simp only [trE]; exact good_bad
        | cons _ _ => simp only [trE]; exact good_bad
      | BinOp a op b pos =>
        simp only [trE]
        split
        · rename_i o ho
          obtain rfl := trOp_of ho
          exact ⟨s_bin C (hP a) (hP b) o pos, pt_val (s_bin C (hP a) (hP b) o pos)⟩
        · exact good_bad
      | UnaryOp op a pos =>
        simp only [trE]
        cases op with
        | Not => exact ⟨s_not (hP a) pos, t_not (hE a).2 pos⟩
        | USub => exact ⟨s_neg (hP a) pos, pt_val (s_neg (hP a) pos)⟩
        | UAdd => exact good_bad
        | Invert => exact good_bad
      | BoolOp op es pos =>
        simp only [trE]
        obtain ⟨h1, h2⟩ := good_bool C hE op pos es
        exact ⟨h1, h2.pt⟩
      | IfExp t a b pos =>
        simp only [trE]
        exact ⟨s_ife (hE t).2 (hP a) (hP b) pos, t_ife (hE t).2 (hE a).2 (hE b).2 pos⟩
      | Compare l ops rs pos =>
        rcases ops with _ | ⟨o1, _ | ⟨o2, _ | ⟨o3, os⟩⟩⟩ <;> rcases rs with _ | ⟨b, _ | ⟨c, _ | ⟨d, rs⟩⟩⟩ <;> try (simp only [trE]; exact good_bad)
        · -- one
          have main : Good g cf ef cds E0 X (.Compare l [o1] [b] pos) (match trCmp o1 with
              | some o => if behindInMarks o1 b then .bad else .cmp o (trE T n sc l) (trE T n sc b)
              | none => .bad) := good_cmp C (hE l) (hE b) o1 pos
          simp only [trE]
          split
          · exact ⟨s_isN (hP l) _ _, t_isN (hP l) _ _⟩
          · exact ⟨s_notN (hP l) _ _, t_notN (hP l) _ _⟩
          · exact ⟨s_isB (hP l) _ _ _, t_isB (hP l) _ _ _⟩
          · exact ⟨s_notB (hP l) _ _ _, t_notB (hP l) _ _ _⟩
          · exact main
        · simp only [trE]
          split
          · rename_i p1 p2 h1 h2
            split
            · exact good_bad
            · rename_i hm
              obtain rfl := trCmp_of h1
              obtain rfl := trCmp_of h2
              have hm : lastMarks [opC p1, opC p2] [b, c] = false := by
                cases q : lastMarks [opC p1, opC p2] [b, c] with
                | false => rfl
                | true => exact absurd q hm
              exact ⟨s_chn C (hP l) (hP b) (hP c) p1 p2 pos hm, t_chn C (hP l) (hP b) (hP c) p1 p2 pos hm⟩
          · exact good_bad
      | Subscript v s pos =>
        simp only [trE]
        split
        · rename_i lo hi p2
          have h := s_sl C (hP v) (hO lo) (hO hi) pos p2
          exact ⟨h, pt_val h⟩
        · exact good_bad
        · rename_i h1 h2
          have hs : isSliceE s = false := by
            cases s with
            | Slice lo hi st p2 =>
              cases st with
              | none => exact absurd rfl (h1 _ _ _)
              | some st => exact absurd rfl (h2 _ _ _ _)
            | _ => rfl
          have h := s_ix C (hP v) (hP s) pos (plain_ix hs)
          exact ⟨h, pt_val h⟩
      | Call f args kws pos =>
        have main : PE X (.Call f args kws pos) (tS g cf ef cds E0 (trE T (n + 1) sc (.Call f args kws pos))) := by
          simp only [trE]
          split
          · exact pe_bad
          rename_i hs0
          have hstar : args.any isStar = false := by
            cases q : args.any isStar with
            | false => rfl
            | true => exact absurd q hs0
          clear hs0
          split
          · -- no keywords
            split
            · -- a name
              rename_i x p
              split
              · rename_i hg
                simp only [Bool.and_eq_true, Bool.not_eq_true'] at hg
                split
                · split
                  · rename_i i hi
                    split
                    · rename_i hcold
                      exact s_call0 C hcold hi hg.1 hg.2 p pos
                    · exact pe_bad
                  · exact pe_bad
                · rename_i a r
                  have hL' := hL (a :: r)
                  split
                  · rename_i i hi
                    split
                    · rename_i hcold
                      exact s_call C hcold hi hg.1 hg.2 hL' hstar p pos
                    · exact pe_bad
                  · split
                    · rename_i hx
                      subst hx
                      split
                      · rename_i y p2
                        split
                        · rename_i ty hy
                          split
                          · rename_i hc
                            simp only [Bool.and_eq_true, Bool.not_eq_true'] at hc
                            exact s_inst C hy hg.1 hc.1 (hP a) hc.2 p p2 pos
                          · exact pe_bad
                        · exact pe_bad
                      · exact pe_bad
                    · split
                      · rename_i b hb
                        exact s_bi C hb hg.1 hL' hstar p pos
                      · exact pe_bad
              · split
                · rename_i i a r hi
                  split
                  · rename_i hcold
                    exact s_cvar C hcold hi (hL (a :: r)) hstar p pos
                  · exact pe_bad
                · exact pe_bad
            · -- a method
              rename_i o x apos
              split
              · rename_i m hm
                split
                · rename_i a
                  split
                  · exact pe_bad
                  · rename_i hc
                    simp only [Bool.or_eq_true, Bool.not_eq_true', not_or, Bool.not_eq_true, Bool.not_eq_false] at hc
                    exact s_met C hm (hP o) (hP a) hc.2 hc.1.1 apos pos hc.1.2
                · exact pe_bad
              · exact pe_bad
            · exact pe_bad
          · -- a key
            rename_i kk gn p2 p3
            split
            · rename_i x p a
              split
              · rename_i hc
                simp only [Bool.and_eq_true, Bool.not_eq_true', decide_eq_true_eq] at hc
                obtain ⟨⟨⟨⟨⟨rfl, rfl⟩, hg1⟩, hg2⟩, hod⟩, hst⟩ := hc
                split
                · rename_i i hi
                  split
                  · rename_i hcold
                    exact s_srt C hcold hi hg1 hg2 hod (hP a) hst p p2 p3 pos
                  · exact pe_bad
                · exact pe_bad
              · exact pe_bad
            · exact pe_bad
          · exact pe_bad
        exact ⟨main, pt_val main⟩
      | ListComp elt gs scope pos =>
        have main : PE X (.ListComp elt gs scope pos) (tS g cf ef cds E0 (trE T (n + 1) sc (.ListComp elt gs scope pos))) := by
          simp only [trE]
          split
          · rename_i tg iter ifs
            split
            · rename_i t ht hb
              split
              · exact pe_bad
              rename_i hx0
              have hcold : T.cold = true := by
                cases q : T.cold with
                | true => rfl
                | false => exact absurd (by rw [q]; exact Bool.or_true _) hx0
              have hx : ∀ i ∈ t.ixs, i ∈ (ownOf T.N scope).map (·.2) := by
                intro i hi
                have hx : (t.ixs.all fun i => ((ownOf T.N scope).map (·.2)).contains i) = true := by
                  cases q : (t.ixs.all fun i => ((ownOf T.N scope).map (·.2)).contains i) with
                  | true => rfl
                  | false => rw [q] at hx0; exact absurd rfl hx0
                have := List.all_eq_true.mp hx i hi
                simpa using this
              have hs : (∃ l kk p, iter = .Set l kk p) ∨ ∀ x, foldedSetIterable iter X.env x = pure x := by
                cases iter with
                | Set l kk p => exact .inl ⟨l, kk, p, rfl⟩
                | _ => exact .inr fun x => rfl
              have hv : ∀ i, trI T n sc iter = .seq (.var i) → PE X iter (tS g cf ef cds E0 (.var i)) := fun i h => trI_var hPs h
              split
              · rcases hs with ⟨l, kk, p, rfl⟩ | hs
                · exact comp_set (by cases n <;> simp only [trI])
                · exact s_comp C hcold ⟨ht, hb, hx, hI tg iter, hv, fun s H c cl fp => ((ih (C.comp scope s H c cl fp)).1 elt).1, fun s H c cl fp => pts_nil, hs⟩ pos
              · rename_i c
                rcases hs with ⟨l, kk, p, rfl⟩ | hs
                · exact comp_set (by cases n <;> simp only [trI])
                · exact s_comp C hcold ⟨ht, hb, hx, hI tg iter, hv, fun s H c' cl fp => ((ih (C.comp scope s H c' cl fp)).1 elt).1, fun s H c' cl fp => pts_one ((ih (C.comp scope s H c' cl fp)).1 c).2, hs⟩ pos
              · exact pe_bad
            · exact pe_bad
          · exact pe_bad
        exact ⟨main, pt_val main⟩
      | _ => simp only [trE]; exact good_bad
    · cases o with
      | none => simp only [trO]; exact po_none
      | some e => simp only [trO]; exact po_some (hP e)
    · simp only [trI]
      split
      · rename_i x p args pos
        split
        · rename_i hc
          simp only [Bool.and_eq_true, decide_eq_true_eq] at hc
          obtain ⟨rfl, hg⟩ := hc
          split
          · rename_i a
            split
            · exact pi_bad
            · rename_i hs
              exact s_rng1 C hg (hP a) (by simpa using hs) p pos
          · rename_i a b
            split
            · exact pi_bad
            · rename_i hs
              simp only [Bool.or_eq_true, not_or, Bool.not_eq_true] at hs
              exact s_rng2 C hg (hP a) (hP b) hs.1 hs.2 p pos
          · exact pi_bad
        · exact s_seq C (hP _)
      · exact pi_bad
      · exact s_seq C (hP _)
/-- a comprehension is read as such, or not at all -/
theorem lc_ok (n : Nat) (C : Ct g T cf np ef cds E0 k sc X) (elt : Expr) (gs : List Comprehension) (scope : Scope) (pos : Pos) : (∀ env S, evE cds cf (trE T (n + 1) sc (.ListComp elt gs scope pos)) env S = none) ∨
    ∃ tg iter ifs t it cond elt', T.cold = true ∧ gs = [⟨tg, iter, ifs, 0⟩] ∧ trE T (n + 1) sc (.ListComp elt gs scope pos) = .comp elt' t it cond ((ownOf T.N scope).map (·.2)) ∧ CompOk g T cf ef cds E0 X sc elt tg iter ifs scope elt' t it cond := by
  have bad : ∀ env S, evE cds cf .bad env S = none := fun env S => by simp only [evE]
  have hPs : ∀ m, m < n → ∀ e, PE X e (tS g cf ef cds E0 (trE T m sc e)) := fun m hm e => ((s_main m C).1 e).1
  simp only [trE]
  split
  · rename_i tg iter ifs
    split
    · rename_i t ht hb
      split
      · exact .inl bad
      rename_i hx0
      have hcold : T.cold = true := by
        cases q : T.cold with
        | true => rfl
        | false => exact absurd (by rw [q]; exact Bool.or_true _) hx0
      have hx : ∀ i ∈ t.ixs, i ∈ (ownOf T.N scope).map (·.2) := by
        intro i hi
        have hx : (t.ixs.all fun i => ((ownOf T.N scope).map (·.2)).contains i) = true := by
          cases q : (t.ixs.all fun i => ((ownOf T.N scope).map (·.2)).contains i) with
          | true => rfl
          | false => rw [q] at hx0; exact absurd rfl hx0
        simpa using List.all_eq_true.mp hx i hi
      have hv : ∀ i, trI T n sc iter = .seq (.var i) → PE X iter (tS g cf ef cds E0 (.var i)) := fun i h => trI_var hPs h
      have hset : ∀ l kk p (elt : E) (t : Tg) (cond : Eo) (own : List Nat) env S, iter = .Set l kk p → evE cds cf (.comp elt t (trI T n sc iter) cond own) env S = none := fun l kk p elt t cond own env S h => by
        subst h
        have : trI T n sc (.Set l kk p) = .seq .bad := by cases n <;> simp only [trI]
        rw [this, evE_comp]
        simp only [dictOf, evI, evE, O.bind]
      have hs : (∃ l kk p, iter = .Set l kk p) ∨ ∀ x, foldedSetIterable iter X.env x = pure x := by
        cases iter with
        | Set l kk p => exact .inl ⟨l, kk, p, rfl⟩
        | _ => exact .inr fun x => rfl
      have hI := (s_main n C).2.2 tg iter
      split
      · rcases hs with ⟨l, kk, p, h⟩ | hs
        · exact .inl fun env S => hset l kk p _ _ _ _ env S h
        · exact .inr ⟨tg, iter, [], t, _, _, _, hcold, rfl, rfl, ht, hb, hx, hI, hv, fun s H c cl fp => ((s_main n (C.comp scope s H c cl fp)).1 elt).1, fun s H c cl fp => pts_nil, hs⟩
      · rename_i c
        rcases hs with ⟨l, kk, p, h⟩ | hs
        · exact .inl fun env S => hset l kk p _ _ _ _ env S h
        · exact .inr ⟨tg, iter, [c], t, _, _, _, hcold, rfl, rfl, ht, hb, hx, hI, hv, fun s H c' cl fp => ((s_main n (C.comp scope s H c' cl fp)).1 elt).1, fun s H c' cl fp => pts_one ((s_main n (C.comp scope s H c' cl fp)).1 c).2, hs⟩
      · exact .inl bad
    · exact .inl bad
  · exact .inl bad
end
end Ev
end
section
set_option Elab.async false
set_option linter.all false
set_option maxRecDepth 100000
set_option autoImplicit false
/-! Statements. -/
namespace Ev
open PySem PySem.Spec PyProof.Rows L2

inductive VF where
  | nx (σ : L2.St) | bk (σ : L2.St) | ct (σ : L2.St) | rt (v : V)
def relF (g : Pl) (ρ : List Addr) (H : Hp) : Fl → VF → Prop
  | .nx env, f => ∃ σ, f = .nx σ ∧ EnvR g ρ H env σ
  | .bk env, f => ∃ σ, f = .bk σ ∧ EnvR g ρ H env σ
  | .ct env, f => ∃ σ, f = .ct σ ∧ EnvR g ρ H env σ
  | .rt d, f => ∃ v, f = .rt v ∧ rep g ρ H d v
def endQ (D : Ends) : VF → Hp → Prop
  | .nx σ, H => D.nx σ H
  | .bk σ, H => D.bk σ H
  | .ct σ, H => D.ct σ H
  | .rt v, H => D.rt v H
section
variable {g : Pl} {T : TC} {cf : CF} {np : Nat → Nat} {ef : List (List Str)} {cds : Cds} {hot : CF} {sub : Sub} {E0 : XK} {k : Nat} {sc : Scope} {X : Cx}
/-- a statement's reading -/
def tSt (g : Pl) (cf : CF) (ef : List (List Str)) (cds : Cds) (hot : CF) (sub : Sub) (E0 : XK) (st : S) : TS := fun D σ H => ∃ ρ S env, Sim g ρ S H ∧ EnvR g ρ H env σ ∧ post g ef E0 (relF g) ρ H (evS cds cf hot sub st env S) (endQ D)
def tBl (g : Pl) (cf : CF) (ef : List (List Str)) (cds : Cds) (hot : CF) (sub : Sub) (E0 : XK) (ss : Ss) : TS := fun D σ H => ∃ ρ S env, Sim g ρ S H ∧ EnvR g ρ H env σ ∧ post g ef E0 (relF g) ρ H (evSs cds cf hot sub ss env S) (endQ D)
theorem PS.imp {X : Cx} {e : Stmt} {t t' : TS} (h : PS X e t) (i : ∀ D σ H, t' D σ H → t D σ H) : PS X e t' := ⟨fun pins s σ H D I hw => h.run pins s σ H D I (i _ _ _ hw)⟩
theorem PSs.imp {X : Cx} {e : List Stmt} {t t' : TS} (h : PSs X e t) (i : ∀ D σ H, t' D σ H → t D σ H) : PSs X e t' := ⟨fun pins s σ H D I hw => h.run pins s σ H D I (i _ _ _ hw)⟩
theorem PS.no {X : Cx} {e : Stmt} {t : TS} (h : ∀ D σ H, ¬ t D σ H) : PS X e t := ⟨fun _ _ _ _ _ _ hw => absurd hw (h _ _ _)⟩
theorem PSs.no {X : Cx} {e : List Stmt} {t : TS} (h : ∀ D σ H, ¬ t D σ H) : PSs X e t := ⟨fun _ _ _ _ _ _ hw => absurd hw (h _ _ _)⟩
theorem PS.any {X : Cx} {e : Stmt} {t : TS} (h : ∀ D σ H, t D σ H → ∃ t', PS X e t' ∧ t' D σ H) : PS X e t := ⟨fun pins s σ H D I hw => by
  obtain ⟨t', p, q⟩ := h D σ H hw
  exact p.run pins s σ H D I q⟩
theorem ps_bad {st : Stmt} : PS X st (tSt g cf ef cds hot sub E0 .bad) := PS.no fun D σ H ⟨ρ, S, env, s, e, p⟩ => by
  simp only [evS, post] at p
/-- first a value, then what follows -/
theorem tV_bind {a : E} {env : Env} {ρ : List Addr} {S : Sto} {H : Hp} {σ : L2.St} {f : D → Sto → O Fl} {Q : VF → Hp → Prop} {R : V → Hp → Prop} (s : Sim g ρ S H) (e : EnvR g ρ H env σ) (p : post g ef E0 (relF g) ρ H ((evE cds cf a env S).bind f) Q)
    (k : ∀ v H1 d S1 ρ1, Sim g ρ1 S1 H1 → EnvR g ρ1 H1 env σ → Le ρ H ρ1 H1 → rep g ρ1 H1 d v → post g ef E0 (relF g) ρ1 H1 (f d S1) Q → R v H1) : tS g cf ef cds E0 a σ H R :=
  ⟨ρ, S, env, s, e, post_mono (post_bind (Ra := rep g) s p) fun v H1 ⟨d, S1, ρ1, x, s1, r, p1⟩ => k v H1 d S1 ρ1 s1 (e.le (x.le s)) (x.le s) r p1⟩
theorem endQ_imp {D D' : Ends} (h1 : ∀ σ H, D.nx σ H → D'.nx σ H) (h2 : ∀ σ H, D.bk σ H → D'.bk σ H) (h3 : ∀ σ H, D.ct σ H → D'.ct σ H) (h4 : ∀ v H, D.rt v H → D'.rt v H) (f : VF) (H : Hp) (q : endQ D f H) : endQ D' f H := by
  cases f with
  | nx σ => exact h1 _ _ q
  | bk σ => exact h2 _ _ q
  | ct σ => exact h3 _ _ q
  | rt v => exact h4 _ _ q
/-! ### plain statements -/
theorem st_pass (pos : Pos) : PS X (.Pass pos) (tSt g cf ef cds hot sub E0 .pass) := PS.imp ps_pass fun D σ H ⟨ρ, S, env, s, e, p⟩ => by
  simp only [evS] at p
  exact post_ok p s (v := .nx σ) ⟨σ, rfl, e⟩
theorem st_brk (pos : Pos) : PS X (.Break pos) (tSt g cf ef cds hot sub E0 .brk) := PS.imp ps_break fun D σ H ⟨ρ, S, env, s, e, p⟩ => by
  simp only [evS] at p
  exact post_ok p s (v := .bk σ) ⟨σ, rfl, e⟩
theorem st_cnt (pos : Pos) : PS X (.Continue pos) (tSt g cf ef cds hot sub E0 .cnt) := PS.imp ps_continue fun D σ H ⟨ρ, S, env, s, e, p⟩ => by
  simp only [evS] at p
  exact post_ok p s (v := .ct σ) ⟨σ, rfl, e⟩
theorem st_retN (pos : Pos) : PS X (.Return none pos) (tSt g cf ef cds hot sub E0 .retN) := PS.imp ps_retN fun D σ H ⟨ρ, S, env, s, e, p⟩ => by
  simp only [evS] at p
  exact post_ok p s (v := .rt .non) ⟨.non, rfl, by simp only [rep]⟩
theorem st_ret {a : Expr} {a' : E} (ha : PE X a (tS g cf ef cds E0 a')) (pos : Pos) : PS X (.Return (some a) pos) (tSt g cf ef cds hot sub E0 (.ret a')) := PS.imp (ps_ret ha) fun D σ H ⟨ρ, S, env, s, e, p⟩ => by
  simp only [evS] at p
  exact tV_bind s e p fun v H1 d S1 ρ1 s1 e1 L1 r1 p1 => post_ok p1 s1 (v := .rt v) ⟨v, rfl, r1⟩
theorem st_doc {x : Str} {j : Nat} (pos pos' : Pos) : PS X (.Expr (.Constant (.str x) j pos) pos') (tSt g cf ef cds hot sub E0 .pass) := PS.imp ps_doc fun D σ H ⟨ρ, S, env, s, e, p⟩ => by
  simp only [evS] at p
  exact post_ok p s (v := .nx σ) ⟨σ, rfl, e⟩
theorem st_exp {a : Expr} {a' : E} (ha : PE X a (tS g cf ef cds E0 a')) (hc : isCallE a = true) (pos : Pos) : PS X (.Expr a pos) (tSt g cf ef cds hot sub E0 (.exp a')) := by
  refine PS.imp (ps_expr ha (by cases a <;> first | rfl | cases hc)) fun D σ H ⟨ρ, S, env, s, e, p⟩ => ?_
  simp only [evS] at p
  exact tV_bind s e p fun v H1 d S1 ρ1 s1 e1 L1 r1 p1 => post_ok p1 s1 (v := .nx σ) ⟨σ, rfl, e1⟩
theorem st_ite {c : Expr} {a b : List Stmt} {c' : E} {a' b' : Ss} (hc : PT X c (tT g cf ef cds E0 c')) (ha : PSs X a (tBl g cf ef cds hot sub E0 a')) (hb : PSs X b (tBl g cf ef cds hot sub E0 b')) (pos : Pos) : PS X (.If c a b pos) (tSt g cf ef cds hot sub E0 (.ite c' a' b')) := by
  refine PS.imp (ps_if hc ha hb) fun D σ H ⟨ρ, S, env, s, e, p⟩ => ?_
  simp only [evS] at p
  refine tV_bind s e p fun v H1 d S1 ρ1 s1 e1 L1 r1 p1 => ?_
  split at p1
  · exact ⟨true, rep_bl r1, ρ1, S1, env, s1, e1, p1⟩
  · exact ⟨false, rep_bl r1, ρ1, S1, env, s1, e1, p1⟩
  · exact p1.elim
theorem bl_nil : PSs X [] (tBl g cf ef cds hot sub E0 .nil) := PSs.imp pss_nil fun D σ H ⟨ρ, S, env, s, e, p⟩ => by
  simp only [evSs] at p
  exact post_ok p s (v := .nx σ) ⟨σ, rfl, e⟩
theorem bl_cons {st : Stmt} {r : List Stmt} {st' : S} {r' : Ss} (h1 : PS X st (tSt g cf ef cds hot sub E0 st')) (h2 : PSs X r (tBl g cf ef cds hot sub E0 r')) : PSs X (st :: r) (tBl g cf ef cds hot sub E0 (.cons st' r')) := by
  refine PSs.imp (pss_cons h1 h2) fun D σ H ⟨ρ, S, env, s, e, p⟩ => ?_
  simp only [evSs] at p
  refine ⟨ρ, S, env, s, e, post_mono (post_bind (Ra := relF g) s p) fun f H1 ⟨fl, S1, ρ1, x, s1, r, p1⟩ => ?_⟩
  cases fl with
  | nx env1 =>
    obtain ⟨σ1, rfl, e1⟩ := r
    exact ⟨ρ1, S1, env1, s1, e1, p1⟩
  | bk env1 =>
    obtain ⟨σ1, rfl, e1⟩ := r
    exact post_ok p1 s1 (v := .bk σ1) ⟨σ1, rfl, e1⟩
  | ct env1 =>
    obtain ⟨σ1, rfl, e1⟩ := r
    exact post_ok p1 s1 (v := .ct σ1) ⟨σ1, rfl, e1⟩
  | rt d =>
    obtain ⟨v, rfl, e1⟩ := r
    exact post_ok p1 s1 (v := .rt v) ⟨v, rfl, e1⟩
/-! ### loops -/
def LpW (g : Pl) (ef : List (List Str)) (E0 : XK) (gg : D → Env → Sto → O Fl) (J : L2.It) (D : Ends) (i m : Nat) (σ : L2.St) (H : Hp) : Prop := ∃ ρ S env w, Sim g ρ S H ∧ EnvR g ρ H env σ ∧ ItR g ρ H J i w ∧ post g ef E0 (relF g) ρ H (lGo gg m w env S) (endQ D)
theorem st_for {tg it : Expr} {b : List Stmt} {t : Tg} {it' : Ev.It} {b' : Ss} (hp : PassesOwn (model X.prog X.w) X.A X.env X.xe) (hc : X.calm = true) (hi : PI X tg it (tI g cf ef cds E0 it')) (hg : PG X tg (gT g t)) (hb : PSs X b (tBl g cf ef cds hot sub E0 b'))
    (hs : ∀ x, foldedSetIterable it X.env x = pure x) (pos : Pos) : PS X (.For tg it b [] pos) (tSt g cf ef cds hot sub E0 (.for t it' b')) := by
  refine PS.imp (ps_for hp hc hi hg hb hs) fun D σ H ⟨ρ, S, env, s, e, p⟩ => ?_
  simp only [evS] at p
  refine ⟨ρ, S, env, s, e, post_mono (post_bind (Ra := RelI g) s p) fun J H1 ⟨w, S1, ρ1, x, s1, r, p1⟩ => ?_⟩
  refine ⟨LpW g ef E0 _ J D, ⟨_, ρ1, S1, env, w, s1, e.le (x.le s), r, p1⟩, ?_⟩
  rintro i m σ H ⟨ρ, S, env, w, s, e, r, p⟩
  have st := r.step s
  unfold lGo at p
  cases hn : nxt w S with
  | none => rw [hn] at p; exact p.elim
  | some q =>
    cases q with
    | none =>
      rw [hn] at p st
      exact .inl ⟨st, post_ok p s (v := .nx σ) ⟨σ, rfl, e⟩⟩
    | some q =>
      obtain ⟨d, w'⟩ := q
      rw [hn] at p st
      obtain ⟨go, yl⟩ := st
      cases m with
      | zero => exact p.elim
      | succ m =>
        refine .inr ⟨go, LpW g ef E0 _ J D (i + 1) m, fun σ' H' h => ⟨m, Nat.lt_succ_self m, h⟩, fun v H' hy => ?_⟩
        obtain ⟨rfl, rd, r'⟩ := yl v H' hy
        simp only at p
        cases ht : t.set d env with
        | none =>
          simp only [ht] at p
          exact p.elim
        | some env' =>
          simp only [ht] at p
          refine ⟨ρ, d, env, env', rd, e, ht, fun σ2 e2 _ => ⟨ρ, S, env', s, e2, post_mono (post_bind (Ra := relF g) s p) fun f H1 ⟨fl, S1, ρ1, x, s1, r1, p1⟩ => ?_⟩⟩
          have r2 := r'.ext s x
          cases fl with
          | nx env1 =>
            obtain ⟨σ1, rfl, e1⟩ := r1
            exact ⟨ρ1, S1, env1, w', s1, e1, r2, p1⟩
          | ct env1 =>
            obtain ⟨σ1, rfl, e1⟩ := r1
            exact ⟨ρ1, S1, env1, w', s1, e1, r2, p1⟩
          | bk env1 =>
            obtain ⟨σ1, rfl, e1⟩ := r1
            exact post_ok p1 s1 (v := .nx σ1) ⟨σ1, rfl, e1⟩
          | rt d =>
            obtain ⟨v, rfl, e1⟩ := r1
            exact post_ok p1 s1 (v := .rt v) ⟨v, rfl, e1⟩
def WhW (g : Pl) (ef : List (List Str)) (E0 : XK) (cc : Env → Sto → O D) (gg : Env → Sto → O Fl) (D : Ends) (m : Nat) (σ : L2.St) (H : Hp) : Prop := ∃ ρ S env, Sim g ρ S H ∧ EnvR g ρ H env σ ∧ post g ef E0 (relF g) ρ H (lWhl cc gg m env S) (endQ D)
theorem st_whl {c : Expr} {b : List Stmt} {c' : E} {b' : Ss} (hp : PassesOwn (model X.prog X.w) X.A X.env X.xe) (hc : PT X c (tT g cf ef cds E0 c')) (hb : PSs X b (tBl g cf ef cds hot sub E0 b')) (pos : Pos) : PS X (.While c b [] pos) (tSt g cf ef cds hot sub E0 (.whl c' b')) := by
  refine PS.imp (ps_while hp hc hb) fun D σ H ⟨ρ, S, env, s, e, p⟩ => ?_
  simp only [evS] at p
  refine ⟨WhW g ef E0 _ _ D, ⟨_, ρ, S, env, s, e, p⟩, ?_⟩
  rintro m σ H ⟨ρ, S, env, s, e, p⟩
  cases m with
  | zero => exact p.elim
  | succ m =>
    unfold lWhl at p
    refine tV_bind s e p fun v H1 d S1 ρ1 s1 e1 L1 r1 p1 => ?_
    split at p1
    · refine ⟨true, rep_bl r1, ?_⟩
      simp only [if_true]
      refine ⟨WhW g ef E0 _ _ D m, fun σ' H' h => ⟨m, Nat.lt_succ_self m, h⟩, ρ1, S1, env, s1, e1, post_mono (post_bind (Ra := relF g) s1 p1) fun f H2 ⟨fl, S2, ρ2, x2, s2, r2, p2⟩ => ?_⟩
      cases fl with
      | nx env1 =>
        obtain ⟨σ1, rfl, e2⟩ := r2
        exact ⟨ρ2, S2, env1, s2, e2, p2⟩
      | ct env1 =>
        obtain ⟨σ1, rfl, e2⟩ := r2
        exact ⟨ρ2, S2, env1, s2, e2, p2⟩
      | bk env1 =>
        obtain ⟨σ1, rfl, e2⟩ := r2
        exact post_ok p2 s2 (v := .nx σ1) ⟨σ1, rfl, e2⟩
      | rt d =>
        obtain ⟨v, rfl, e2⟩ := r2
        exact post_ok p2 s2 (v := .rt v) ⟨v, rfl, e2⟩
    · refine ⟨false, rep_bl r1, ?_⟩
      simp only [Bool.false_eq_true, if_false]
      exact post_ok p1 s1 (v := .nx σ) ⟨σ, rfl, e1⟩
    · exact p1.elim
/-! ### assignments -/
def isComp : Expr → Bool
  | .ListComp .. => true | .SetComp .. => true | .DictComp .. => true | _ => false
theorem sw_no {e : Expr} (h : isComp e = false) (tg : Option Expr) (l : Nat) (env : PySem.Env) : swapsWith e tg l env = pure false := by
  cases e <;> first | rfl | cases h
theorem asg_in {t : Tg} {a' : E} {D : Ends} {σ : L2.St} {H : Hp} (h : tSt g cf ef cds hot sub E0 (.asg t a') D σ H) : tAsg (tS g cf ef cds E0 a') (gT g t) D σ H := by
  obtain ⟨ρ, S, env, s, e, p⟩ := h
  simp only [evS] at p
  refine tV_bind s e p fun v H1 d S1 ρ1 s1 e1 L1 r1 p1 => ?_
  split at p1
  · rename_i env' ht
    exact ⟨ρ1, d, env, env', r1, e1, ht, fun σ2 e2 _ => post_ok p1 s1 (v := .nx σ2) ⟨σ2, rfl, e2⟩⟩
  · exact p1.elim
theorem st_asg {tg a : Expr} {t : Tg} {a' : E} (ht : trTg T.N sc tg = some t) (hg : PG X tg (gT g t)) (ha : PE X a (tS g cf ef cds E0 a')) (hk : asgOk tg a = true) (pos : Pos) (hs : swapsWith a (some tg) pos.line X.env = pure false) : PS X (.Assign [tg] a pos) (tSt g cf ef cds hot sub E0 (.asg t a')) := by
  refine PS.imp (ps_asg ha hg hs ?_ ?_) fun D σ H h => asg_in h
  · cases tg <;> first | rfl | (cases ht) | (cases a <;> first | rfl | cases hk)
  · cases tg <;> first | rfl | cases ht
/-- name = [..] on one line -/
theorem st_asgLc (C : Ct g T cf np ef cds E0 k sc X) (hcold : T.cold = true) {y : Str} {i : Nat} {elt tg iter : Expr} {ifs : List Expr} {scope : Scope} {elt' : E} {t : Tg} {it : Ev.It} {cond : Eo} (O : CompOk g T cf ef cds E0 X sc elt tg iter ifs scope elt' t it cond) (hi : stoOf T.N sc y = some i) (hyl : X.env.scope.names.lookup y = some .local) (py pos pos' : Pos)
    (hsw : swapsWith (.ListComp elt [⟨tg, iter, ifs, 0⟩] scope pos) (some (.Name y py)) pos'.line X.env = pure true) :
    PS X (.Assign [.Name y py] (.ListComp elt [⟨tg, iter, ifs, 0⟩] scope pos) pos') (tSt g cf ef cds hot sub E0 (.asg (.nm i) (.comp elt' t it cond ((ownOf T.N scope).map (·.2))))) := by
  have hN : X.N.Nodup := by rw [C.N]; exact C.nd
  have ok : BlkOk X.N X.env.scope scope (ownOf T.N scope) := by rw [C.N]; exact C.blk _ _ O.hb
  have hy : X.N[i]? = some y := by rw [C.N]; exact (stoOf_of hi).1
  refine PS.any fun D σ H h => ?_
  have h2 : tS g cf ef cds E0 (.comp elt' t it cond ((ownOf T.N scope).map (·.2))) σ H fun x H1 => D.nx (σ.set i (some x)) H1 := by
    refine tS_mono (asg_in h) fun v H1 q => ?_
    obtain ⟨ρ, d, env, env', r, e, hs, q⟩ := q
    simp only [Tg.set, Option.some.injEq] at hs
    subst hs
    exact q _ (e.set i r) fun vs hv => wipe_set (hv i (List.mem_singleton.mpr rfl))
  rcases comp_in O.hx h2 with h | ⟨j, hj, h⟩
  · exact ⟨_, ps_setLc (C.calm hcold) hN hy hyl hsw O.hi ok (fun s H c cl fp => s_tg (C.comp scope s H c cl fp) hcold O.ht) O.hc O.he O.hs, h⟩
  · exact ⟨_, ps_lock (ps_setLc (C.calm hcold) hN hy hyl hsw (pi_keys (O.hv j hj)) ok (fun s H c cl fp => s_tg (C.comp scope s H c cl fp) hcold O.ht) O.hc O.he O.hs), h⟩
theorem swap_two {x y : Str} {px py pt pt2 : Pos} {kt k2 : Nat} {a b : Expr} {env : PySem.Env} (hbk : env.blockKind = .function) (hx : env.kindOf x = some .local) (hy : env.kindOf y = some .local) (hxy : ¬ x = y) (hl : (py.line == px.line) = true) (hsa : isStar a = false) (hsb : isStar b = false)
    (hf : foldedForSure 8 a = true → foldedForSure 8 b = false) (hco : constantsAlone 8 a = true → constantsAlone 8 b = false) :
    swappedStores [.Tuple [.Name x px, .Name y py] kt pt] (.Tuple [a, b] k2 pt2) env = pure (some [x, y]) := by
  have e1 : (foldedForSure 8 a && foldedForSure 8 b) = false := by
    cases h : foldedForSure 8 a with
    | false => rfl
    | true => rw [hf h]; rfl
  have e2 : (constantsAlone 8 a && constantsAlone 8 b) = false := by
    cases h : constantsAlone 8 a with
    | false => rfl
    | true => rw [hco h]; rfl
  have e3 : ([a, b].any fun | .Starred .. => true | _ => false) = false := by
    cases a <;> first | (cases hsa; done) | (cases b <;> first | rfl | (cases hsb; done))
  have hd : ([x, y] : List Str).eraseDups.length = 2 := by
    have : (y == x) = false := by
      rw [beq_eq_false_iff_ne]
      exact fun h => hxy h.symm
    simp [List.eraseDups_cons, List.filter, this]
  have e4 : ((if (env.kindOf x == some .local && px.line == px.line) = true then some x else none) : Option Str) = some x := by
    rw [hx]; simp
  have e5 : ((if (env.kindOf y == some .local && py.line == px.line) = true then some y else none) : Option Str) = some y := by
    rw [hy, hl]; rfl
  have e6 : ([Expr.Name x px, Expr.Name y py].filterMap fun
      | .Name id pos => if env.kindOf id == some .local && pos.line == px.line then some id else none
      | _ => none) = [x, y] := by
    simp only [List.filterMap, e4, e5]
  have key : ∀ names : List Str, names = [x, y] → ((if (names.length != [Expr.Name x px, Expr.Name y py].length || names.eraseDups.length != names.length) = true then pure none
      else if [a, b].all (foldedForSure 8) = true then pure none
      else do
        if [a, b].all (constantsAlone 8) then unsupported "assign.tuple-of-constant-expressions:order-of-the-stores"
        return some names) : Sem (Option (List Str))) = pure (some [x, y]) := by
    intro names h
    subst h
    rw [hd]
    refine (if_neg (by exact Bool.false_ne_true)).trans ?_
    simp only [List.all_cons, List.all_nil, Bool.and_true, e1, e2]
    rfl
  unfold swappedStores
  show (if (!([Expr.Name x px, Expr.Name y py].length == 2 || [Expr.Name x px, Expr.Name y py].length == 3) || [a, b].length != [Expr.Name x px, Expr.Name y py].length || env.blockKind != .function) = true then _ else _) = _
  rw [if_neg (by rw [hbk]; exact Bool.false_ne_true)]
  refine (if_neg (fun h => absurd (e3.symm.trans h) (by decide))).trans ?_
  exact key _ e6
theorem st_par (C : Ct g T cf np ef cds E0 k sc X) (hcold : T.cold = true) (hsc : X.env.scope = sc) (hk : sc.kind = .function) {tg e a b : Expr} {i j : Nat} (hp : parOf T.N sc tg e = some (i, j, a, b)) {a' b' : E} (ha : PE X a (tS g cf ef cds E0 a')) (hb : PE X b (tS g cf ef cds E0 b')) (pos : Pos) :
    PS X (.Assign [tg] e pos) (tSt g cf ef cds hot sub E0 (.par i j a' b')) := by
  unfold parOf at hp
  split at hp
  · rename_i x px y py kt pt a2 b2 k2 pt2
    split at hp
    · rename_i i' j' h1 h2
      split at hp
      · cases hp
      · rename_i hc
        cases hp
        simp only [Bool.or_eq_true, Bool.not_eq_true', Bool.and_eq_true, not_or, not_and, Bool.not_eq_true, decide_eq_true_eq] at hc
        obtain ⟨⟨⟨⟨⟨hxy, hsa⟩, hsb⟩, hl⟩, hf⟩, hco⟩ := hc
        have hx : sc.names.lookup x = some .local ∧ T.N[i]? = some x := by
          unfold locOf at h1
          split at h1
          · rename_i hh; exact ⟨hh, ixOf_get h1⟩
          · cases h1
        have hy : sc.names.lookup y = some .local ∧ T.N[j]? = some y := by
          unfold locOf at h2
          split at h2
          · rename_i hh; exact ⟨hh, ixOf_get h2⟩
          · cases h2
        have hA : PA X [a, b] (tL g cf ef cds E0 (.cons a' (.cons b' .nil))) := PA.imp (pa_cons ha (pa_cons hb pa_nil (star_of hsb _ _)) (star_of hsa _ _)) (by
          rintro σ H Q ⟨ρ, S, env, s, e, p⟩
          simp only [evEs] at p
          refine ⟨ρ, S, env, s, e, post_mono (post_bind (Ra := rep g) s p) ?_⟩
          rintro v H1 ⟨d, S1, ρ1, x1, s1, r1, p1⟩
          refine ⟨ρ1, S1, env, s1, e.le (x1.le s), ?_⟩
          have p1' : post g ef E0 (repL g) ρ1 H1 ((evE cds cf b' env S1).bind fun d2 s => ok [d, d2] s) Q := by
            cases hq : evE cds cf b' env S1 with
            | none => rw [hq] at p1; exact p1
            | some z => rw [hq] at p1; cases z <;> exact p1
          refine post_mono (post_bind (Ra := rep g) s1 p1') ?_
          rintro w H2 ⟨d2, S2, ρ2, x2, s2, r2, p2⟩
          exact post_ok p2 s2 (by simp only [repL]; exact ⟨v, [w], rfl, rep_le (x2.le s1) _ _ r1, w, [], rfl, r2, rfl⟩))
        have hij : i ≠ j := fun e => by
          rw [e, hy.2] at hx
          exact hxy (by injection hx.2 with h; exact h.symm)
        have hbk : X.env.blockKind = .function := by unfold Env.blockKind; rw [hsc, hk]; rfl
        have hw : swappedStores [.Tuple [.Name x px, .Name y py] kt pt] (.Tuple [a, b] k2 pt2) X.env = pure (some [x, y]) :=
          swap_two hbk (show X.env.scope.names.lookup x = some .local from by rw [hsc]; exact hx.1) (show X.env.scope.names.lookup y = some .local from by rw [hsc]; exact hy.1) hxy (by cases q : (py.line == px.line) with | true => rfl | false => exact absurd q hl) hsa hsb hf hco
        refine PS.imp (ps_par (i := i) (j := j) (C.calm hcold) (by rw [C.N]; exact C.nd) (by rw [C.N]; exact hx.2) (by rw [C.N]; exact hy.2) hij (by rw [hsc]; exact hx.1) (by rw [hsc]; exact hy.1) hA hw) fun D σ H ⟨ρ, S, env, s, e, p⟩ => ?_
        simp only [evS] at p
        refine ⟨ρ, S, env, s, e, ?_⟩
        have p' : post g ef E0 (relF g) ρ H ((evEs cds cf (.cons a' (.cons b' .nil)) env S).bind fun ds s => match ds with
            | [x, y] => ok (.nx ((env.set i (some x)).set j (some y))) s
            | _ => none) (endQ D) := by
          simp only [evEs]
          cases hq : evE cds cf a' env S with
          | none => rw [hq] at p; exact p
          | some z =>
            rw [hq] at p
            cases z with
            | exc c fs S1 => exact p
            | ok d S1 =>
              simp only [O.bind] at p ⊢
              cases hq2 : evE cds cf b' env S1 with
              | none => rw [hq2] at p; exact p
              | some z => rw [hq2] at p; cases z <;> exact p
        refine post_mono (post_bind (Ra := repL g) s p') ?_
        rintro vs H1 ⟨ds, S1, ρ1, x1, s1, r1, p1⟩
        split at p1
        · obtain ⟨v, w, rfl, rv, rw'⟩ := vals2 r1
          exact ⟨v, w, rfl, post_ok p1 s1 (v := .nx _) ⟨_, rfl, ((e.le (x1.le s)).set i rv).set j rw'⟩⟩
        · exact p1.elim
    · cases hp
  · cases hp
/-! ### stores into a list, a dict -/
def rSetE : TSet := fun o i v H Q => ∃ a b k, o = .ref a ∧ H a = some (.dK []) ∧ i = .ref b ∧ H b = some (.tup ((k : List L2.Key).map kV)) ∧ Q (upd H a (.dT [(k, v)]))
theorem set_emp {X : Cx} (hu : X.A.units + 1 < cLine) : PSet X rSetE := by
  intro pins s σ H o i v ov iv u Q I ro ri rv h
  obtain ⟨a, b, k, rfl, ha, rfl, hb, q⟩ := h
  obtain rfl : ov = Value.ref a := ro
  have hne : b ≠ a := fun e => by rw [e, ha] at hb; cases hb
  refine d_setItem (H' := upd H a (.dT [(k, v)])) hu (inv_dT I ha) ?_ ri rv fun s' I' => ⟨_, I', q⟩
  have := DPut.t (v := v) (H := upd H a (.dT [])) (a := a) (b := b) (kvs := []) (k := k) upd_same (by rw [upd_ne hne]; exact hb) (by decide)
  rw [upd_twice] at this
  exact this
theorem PSet.or {X : Cx} {t t' : TSet} (h : PSet X t) (h' : PSet X t') : PSet X (fun o i v H Q => t o i v H Q ∨ t' o i v H Q) := by
  intro pins s σ H o i v ov iv u Q I ro ri rv q
  rcases q with q | q
  · exact h pins s σ H o i v ov iv u Q I ro ri rv q
  · exact h' pins s σ H o i v ov iv u Q I ro ri rv q
def setR : TSet := fun o i v H Q => rSetL o i v H Q ∨ rSetD o i v H Q ∨ rSetE o i v H Q
theorem set_all {X : Cx} (hu : X.A.units + 1 < cLine) : PSet X setR := PSet.or set_list (PSet.or (set_dict hu) (set_emp hu))
theorem at_ixN {n : Nat} {i : Int} {j : Nat} (h : at! n i = some j) : ixN n i = some j := by
  unfold at! at h
  unfold ixN
  exact h
theorem put_sound {ρ : List Addr} {S S' : Sto} {H : Hp} {env : Env} {σ : L2.St} {D : Ends} {d y v : Ev.D} {o i w : V} (s : Sim g ρ S H) (e : EnvR g ρ H env σ) (rd : rep g ρ H d o) (ry : rep g ρ H y i) (rv : rep g ρ H v w)
    (hp : putF d y v S = some S') (p : post g ef E0 (relF g) ρ H (ok (.nx env) S') (endQ D)) : setR o i w H (D.nx σ) := by
  have fin : ∀ H', Le ρ H ρ H' → relF g ρ H' (.nx env) (.nx σ) := fun H' L => ⟨σ, rfl, e.le L⟩
  cases d with
  | ref a =>
    unfold putF at hp
    simp only at hp
    cases hs : S[a]? with
    | none => rw [hs] at hp; cases hp
    | some ob =>
      rw [hs] at hp
      cases ob with
      | lst xs =>
        simp only at hp
        cases y with
        | int k =>
          obtain ⟨j, hj, rfl⟩ := Option.map_eq_some_iff.mp hp
          obtain ⟨b, ws, eb, rfl, hb, rb⟩ := rep_lst s hs rd
          obtain rfl := rep_int ry
          refine .inl ⟨b, ws, k, j, rfl, rfl, hb, by rw [repL_length rb]; exact at_ixN hj, ?_⟩
          exact put_ob s eb (o := .lst _) (u := .lst (ws.set j w)) ⟨_, rfl, repL_set j rb rv⟩ (nf_lst hb) (v := VF.nx σ) p fin
        | _ => cases hp
      | lk _ => simp only [dput, Option.map_none, reduceCtorEq] at hp
      | dK kvs =>
        obtain ⟨ob', hq, rfl⟩ := Option.map_eq_some_iff.mp hp
        obtain ⟨b, u, eb, rfl, hb, ws, rfl, rw'⟩ := rep_obj s hs rd
        have plain : (if small kvs.length then (key1 y).map fun k => Ob.dK (put kvs k v) else none) = some ob' → setR (.ref b) i w H (D.nx σ) := fun hq => by
          split at hq
          · rename_i hz
            obtain ⟨kx, hkx, rfl⟩ := Option.map_eq_some_iff.mp hq
            have ey := key1_V hkx ry
            refine .inr (.inl ⟨b, upd H b (.dK (putK ws (kk kx) w)), rfl, ?_, ?_⟩)
            · rw [ey]
              exact DPut.k hb (by rw [repK_len rw']; exact small_lt hz)
            · exact put_ob s eb (o := .dK _) (u := .dK (putK ws (kk kx) w)) ⟨_, rfl, putK_V (fun _ _ => kk_inj) kx rv rw'⟩ (nf_dK hb) (v := VF.nx σ) p fin
          · cases hq
        cases y with
        | tup xs =>
          simp only [dput] at hq
          split at hq
          · rename_i hk
            obtain ⟨ks, hks, rfl⟩ := Option.map_eq_some_iff.mp hq
            obtain ⟨q, vs, rfl, hq2, rq⟩ := rep_tup ry
            have hk2 : kvs = [] := by simpa using hk
            subst hk2
            simp only [repK] at rw'
            subst rw'
            refine .inr (.inr ⟨b, q, ks.map kk, rfl, hb, rfl, by rw [hq2, keyT_V hks rq], ?_⟩)
            exact put_ob s eb (o := .dT _) (u := .dT [(ks.map kk, w)]) ⟨_, rfl, by simp only [repK]; exact ⟨w, [], rfl, rv, rfl⟩⟩ (nf_dK hb) (v := VF.nx σ) p fin
          · cases hq
        | non => exact plain hq
        | bl _ => exact plain hq
        | int _ => exact plain hq
        | str _ => exact plain hq
        | frz _ _ => exact plain hq
        | ref _ => exact plain hq
        | fn _ => exact plain hq
        | cd _ => exact plain hq
      | dT kvs =>
        obtain ⟨ob', hq, rfl⟩ := Option.map_eq_some_iff.mp hp
        obtain ⟨b, u, eb, rfl, hb, ws, rfl, rw'⟩ := rep_obj s hs rd
        cases y with
        | tup xs =>
          simp only [dput] at hq
          split at hq
          · rename_i hz
            obtain ⟨kx, hkx, rfl⟩ := Option.map_eq_some_iff.mp hq
            obtain ⟨q, vs, rfl, hq2, rq⟩ := rep_tup ry
            refine .inr (.inl ⟨b, upd H b (.dT (putK ws (kx.map kk) w)), rfl, DPut.t hb (by rw [hq2, keyT_V hkx rq]) (by rw [repK_len rw']; exact small_lt hz), ?_⟩)
            exact put_ob s eb (o := .dT _) (u := .dT (putK ws (kx.map kk) w)) ⟨_, rfl, putK_V (fun _ _ => kks_inj) kx rv rw'⟩ (nf_dT hb) (v := VF.nx σ) p fin
          · cases hq
        | _ => cases hq
  | _ => cases hp
theorem st_put (C : Ct g T cf np ef cds E0 k sc X) {o i a : Expr} {o' i' a' : E} (ho : PE X o (tS g cf ef cds E0 o')) (hi : PE X i (tS g cf ef cds E0 i')) (ha : PE X a (tS g cf ef cds E0 a')) (hsl : isSliceE i = false) (pos pos' : Pos) :
    PS X (.Assign [.Subscript o i pos'] a pos) (tSt g cf ef cds hot sub E0 (.put o' i' a')) := by
  refine PS.imp (ps_asg ha (pg_sub ho hi (set_all (by have := C.units; omega)) (by intro v; cases i <;> first | rfl | cases hsl)) ?_ ?_ rfl) fun D σ H ⟨ρ, S, env, s, e, p⟩ => ?_
  · cases a <;> rfl
  · cases a <;> rfl
  · simp only [evS] at p
    refine tV_bind s e p fun v H1 d S1 ρ1 s1 e1 L1 r1 p1 => tV_bind s1 e1 p1 fun w H2 d2 S2 ρ2 s2 e2 L2 r2 p2 => tV_bind s2 e2 p2 fun z H3 d3 S3 ρ3 s3 e3 L3 r3 p3 => ?_
    cases hq : putF d2 d3 d S3 with
    | none => rw [hq] at p3; exact p3.elim
    | some S' =>
      rw [hq] at p3
      exact put_sound s3 e3 (rep_le L3 _ _ r2) r3 (rep_le L3 _ _ (rep_le L2 _ _ r1)) hq p3
theorem st_aug (C : Ct g T cf np ef cds E0 k sc X) {x : Str} {i : Nat} (hi : stoOf T.N sc x = some i) {a : Expr} {a' : E} (ha : PE X a (tS g cf ef cds E0 a')) (op : BOp) (hop : op = .add ∨ op = .sub) (pos pos' : Pos) : PS X (.AugAssign (.Name x pos') (opN op) a pos) (tSt g cf ef cds hot sub E0 (.aug i op a')) := by
  obtain ⟨h1, h2, _⟩ := stoOf_of hi
  have hN : X.N.Nodup := by rw [C.N]; exact C.nd
  have hiX : X.N[i]? = some x := by rw [C.N]; exact h1
  refine PS.any fun D σ H ⟨ρ, S, env, s, e, p⟩ => ?_
  simp only [evS] at p
  cases hx : env[i]? with
  | none => rw [hx] at p; exact p.elim
  | some q =>
    cases q with
    | none => rw [hx] at p; exact p.elim
    | some d =>
      rw [hx] at p
      simp only at p
      obtain ⟨v, hv, rv⟩ := e.at_ i d hx
      cases op with
      | add =>
        refine ⟨_, ps_aug hN hiX (C.sto _ h2) ha ip_add (C.stf _ h2), v, hv, tV_bind s e p fun w H1 y S1 ρ1 s1 e1 L1 r1 p1 => ?_⟩
        split at p1
        · rename_i a b _ _
          obtain rfl := rep_int (rep_le L1 _ _ rv)
          obtain rfl := rep_int r1
          simp only [binF, pr, O.bind, ok] at p1
          exact ⟨_, _, rfl, rfl, post_ok p1 s1 (v := .nx _) ⟨_, rfl, e1.set i (by simp only [rep])⟩⟩
        · cases ‹BOp.add = BOp.sub›
        · exact p1.elim
      | sub =>
        refine ⟨_, ps_aug hN hiX (C.sto _ h2) ha ip_sub (C.stf _ h2), v, hv, tV_bind s e p fun w H1 y S1 ρ1 s1 e1 L1 r1 p1 => ?_⟩
        split at p1
        · cases ‹BOp.sub = BOp.add›
        · rename_i a b _ _
          obtain rfl := rep_int (rep_le L1 _ _ rv)
          obtain rfl := rep_int r1
          simp only [binF, pr, O.bind, ok] at p1
          exact ⟨_, _, rfl, rfl, post_ok p1 s1 (v := .nx _) ⟨_, rfl, e1.set i (by simp only [rep])⟩⟩
        · exact p1.elim
      | mul => rcases hop with h | h <;> cases h
      | fdiv => rcases hop with h | h <;> cases h
      | mod => rcases hop with h | h <;> cases h
      | pow => rcases hop with h | h <;> cases h
end
end Ev
end
section
set_option Elab.async false
set_option linter.all false
set_option maxRecDepth 100000
set_option autoImplicit false
/-! An exception of a class with an own __init__, made where none is handled: its context is None; several except clauses, with names or without. -/
namespace Ev
open PySem PySem.Spec PyProof.Rows L2

/-- the object that such a call leaves -/
theorem pmk_N {X : Cx} {CX : CXT} {x : Str} {e : Expr} {es : List Expr} {ta : TA} {p pos : Pos} {C fI : Addr} {k : Nat} {fd : FuncData} {ps : List Str} {sp : Sp} (T : OexC X.K C) (iC : PySem.W.findIn X.K (.ref C) "__init__" = some (some (.ref fI))) (tI : PySem.W.typeIn X.K (.ref fI) = some (.type "function"))
    (F1 : FnOk X.prog X.w X.K X.mg X.base CX k fI fd ps sp) (hr : Room (k + 1) X.A) (hb : Binds X.K fd ps []) (hx : Passes CX X (fun _ _ _ => False)) (hg : L2.Gl X x) (hm : X.mg x = some (.ref C)) (ha : PA X (e :: es) ta)
    (hdb : (x == ("__debug__" : Str)) = false) (he : starEach (e :: es) X.env = (false, eval e X.env) :: starEach es X.env) (hpl : (backTo pos (starEach es X.env)).any (·.1) = false) :
    L2N.PMk X (.Call (.Name x p) (e :: es) [] pos) (tMkO C sp [] ta) := by
  intro pins s σ H Q I h
  obtain ⟨nm, q, N, bs, bm, sn, sub, ab, col, dd, k0, k1, k2, k3, k5, hC, hbm⟩ := T.cls
  refine wpAny_Call_Name_kw (ld_glob I hg hm ?_ hdb)
  refine PySem.W.callWith_K (h₀ := X.base) I.ok.mod.kin T.kC (thn (ha.run pos pins s σ H _ I h) fun us s1 ⟨vs, H1, I1, r1, hz, q1⟩ => ⟨I1.kIn, ?_⟩) he hpl
  show wpAny _ _ (call (.ref C) us) _ _ _
  obtain ⟨hp, gs, dr, tk, os⟩ := s1
  have n1 : hp.objs.size ≤ hp.objs.size + 1 := Nat.le_succ _
  have hq := q1 (hp.objs.size + 1) (I1.hok.fresh n1)
  rw [List.append_nil] at hq
  have up : ∀ b o, hp.get? b = some o → ((hp.push (PySem.W.kdv_tup us)).push (PySem.HandSPX.excO C hp.objs.size)).get? b = some o := fun b o e => Heap.get?_push_of_some _ (Heap.get?_push_of_some _ e)
  have new : ((hp.push (PySem.W.kdv_tup us)).push (PySem.HandSPX.excO C hp.objs.size)).get? (hp.objs.size + 1) = some (PySem.HandSPX.excO C hp.objs.size) := by heap_get
  have I2 : Inv X pins σ (upd H1 (hp.objs.size + 1) (exo (hp.objs.size + 1) C none)) ⟨(hp.push (PySem.W.kdv_tup us)).push (PySem.HandSPX.excO C hp.objs.size), gs, dr, tk, os⟩ :=
    I1.laid (t' := tk) (a := hp.objs.size + 1) (o := exo (hp.objs.size + 1) C none) up n1 (exo_ok new)
  have r2 : Vals (V.ref (hp.objs.size + 1) :: vs) (Value.ref (hp.objs.size + 1) :: us) := .cons rfl r1
  have hl : (Value.ref (hp.objs.size + 1) :: us).length = ps.length := by
    rw [← r2.length]
    exact F1.len _ _ _ _ hq
  have hus : us.length ≤ sizeLine := by
    rw [← Paired.length r1, sizeLine_eq]
    omega
  have b2 := hb _ (Value.ref (hp.objs.size + 1) :: us) I2.kIn (by rw [List.append_nil]; exact hl)
  rw [List.append_nil] at b2
  refine wpAny_call (PySem.HandSPX.call_own F.excBase_ValueError (fun Y => PySem.HandSPX.refsVE_contains Y bm hbm) (I1.kIn _ _ hC) (PySem.W.looks_findIn I1.kIn iC) (fun self => PySem.W.bind_fn I1.kIn self tI) hus
    (codeAny_mono (F1.run _ X.stack _ _ ⟨Value.ref (hp.objs.size + 1) :: us, []⟩ (Value.ref (hp.objs.size + 1) :: us) _ _ (fun _ _ _ => False) (hr.make C us []) (I2.env0.make C us []) b2 r2 hq) fun r s' hq' => ?_))
  cases r with
  | error er => exact hx pins σ _ _ er s' I2 hq'
  | ok fl =>
    cases fl with
    | ret u =>
      obtain ⟨v, H2, os2, bare2, un2, hok2, rv, ev, d, fs, ea, ed, hd1, q2⟩ := hq'
      subst ev
      obtain ⟨h2, g2, d2, t2, os'⟩ := s'
      obtain ⟨t0, G, J, kG, ge, hoe, na⟩ := mk_end0 (d2 := d2) (t2 := t2) I1 n1 up un2 hok2 os2 bare2 ea ed hd1
      exact ⟨rv, hp.objs.size + 1, _, _, ⟨G, g2, d2, t2, os'⟩, _, .ref C, some d, rfl, J, kG, ge, hoe, ⟨rfl, rfl, fun vs hv => by cases hv; rfl⟩, rfl, rfl, na, rfl, bare2, raises_own T.exC T.tyC, q2⟩
    | next => exact False.elim hq'
    | brk => exact False.elim hq'
    | cont => exact False.elim hq'

/-! ### except clauses, each with a name (its slot) or without -/
/-- a clause: the class, the name's slot, what the suite asks -/
abbrev Cl := Value × Option Nat × (Addr → Value → Option Addr → TS)
def endsB (D : Ends) : Option Nat → Ends
  | none => D
  | some i => { nx := fun σ H => D.nx (σ.set i none) H, rt := D.rt, bk := fun σ H => D.bk (σ.set i none) H, ct := fun σ H => D.ct (σ.set i none) H }
def slotB (σ : L2.St) (a : Addr) : Option Nat → L2.St
  | none => σ
  | some i => σ.set i (some (.ref a))
def wCl (K : PySem.W.Frag) (Wout : WX) (D : Ends) : List Cl → WX
  | [] => Wout
  | (c, oi, ts) :: r => fun cls d σ H => ∃ b, PySem.W.exmOne K cls c = some b ∧ (b = true → ∀ a, H a = none → ts a cls d (endsB D oi) (slotB σ a oi) H) ∧ (b = false → wCl K Wout D r cls d σ H)
/-- the name of a clause stands in its slot -/
def NmOk (X : Cx) : Option Str → Option Nat → Prop
  | none, none => True
  | some n, some i => X.N[i]? = some n ∧ X.env.kindOf n = some .local
  | _, _ => False
inductive ClsOk (X : Cx) : List ExceptHandler → List Cl → Prop
  | nil : ClsOk X [] []
  | cons {x : Str} {c : Value} {on : Option Str} {oi : Option Nat} {ts : Addr → Value → Option Addr → TS} {b₀ : Stmt} {suite : List Stmt} {np pos' : Pos} {hds : List ExceptHandler} {l : List Cl} (hc : Names X x c) (hn : NmOk X on oi)
      (hsu : ∀ (a : Addr) (oe : Obj) (cls : Value) (d : Option Addr) (pn : List (Addr × Obj)), L2N.Zn cls d oe → (∃ vs, oe.data = .fields vs) → PSs (X.suite a ((a, oe) :: pn)) (b₀ :: suite) (ts a cls d)) (r : ClsOk X hds l) :
      ClsOk X (.ExceptHandler (some (.Name x np)) on (b₀ :: suite) pos' :: hds) ((c, oi, ts) :: l)
section
variable {X : Cx} {body : List Stmt} {h₀ : ExceptHandler} {hds : List ExceptHandler} {l : List Cl} {pos : Pos} {tb : WX → TS} {Wout : WX}
theorem ps_clauses (hs : X.stack = X.env :: X.outer) (hf : X.env.frame = some X.env.locals) (hN : X.N.Nodup) (tk : L2N.Takes X Wout)
    (hb : ∀ (W : WX) (pn : List (Addr × Obj)) (xe : Value → Shared → Prop), L2N.Takes (X.tr pn xe) W → PassesOwn (model X.prog X.w) X.A X.env xe → PSs (X.tr pn xe) body (tb W))
    (hh : ClsOk X (h₀ :: hds) l) : PS X (.Try body (h₀ :: hds) [] [] pos) (fun D σ H => tb (wCl X.K Wout D l) D σ H) := by
  refine ⟨fun pins s σ H D I h => ?_⟩
  have ok := I.ok
  have hfr : X.A.frames = some (X.env :: X.outer) := by rw [ok.frames, hs]
  refine wpAny_Try_except ?_
  refine wpAny_mono ((hb (wCl X.K Wout D l) (X.pn ++ pins) _ (fun u s' xx => ?_) PassesOwn.looking).run [] s σ H D (I.toTry _) h) (fun f s1 hsp => ?_) (fun e s1 he => he)
  · obtain ⟨a, B, sI, pins', σ', H', cls, d, rfl, J', nb, up, sky, na, os, ag, w⟩ := xx
    have J : Inv X pins σ' H' sI := J'.ofTry ok
    show wpAny (model X.prog X.w) X.A (noteFrame (.ref a) X.env) _ _ _
    refine L2N.Sky.land L2N.Zn.steady hfr hf (by rw [← hs]; exact sky) fun h3 fl3 up3 => ?_
    have J3 : Inv X pins σ' H' { s' with heap := h3 } := J.landed nb fl3.1 (up.trans up3) os ag
    obtain ⟨oe3, vs3, he3, hz3, hd3⟩ := fl3.there
    have nfr : a ∉ frs (X.env :: X.outer) := fun hm => by
      obtain ⟨_, o', e', hnf⟩ := fl3.2.2.1.mem hm
      rw [he3] at e'
      cases e'
      exact hnf _ hd3
    have nL : a ≠ X.env.locals := fun z => nfr (List.mem_filterMap.mpr ⟨X.env, List.mem_cons_self, by rw [hf, z]⟩)
    have nF : a ∉ X.fs := fun hm => by
      obtain ⟨e, he, q⟩ := List.mem_filterMap.mp hm
      exact nfr (List.mem_filterMap.mpr ⟨e, List.mem_cons_of_mem _ he, q⟩)
    have S3 := J3.suite he3 hd3 na nL nF
    have go : ∀ {hds' : List ExceptHandler} {l' : List Cl}, ClsOk X hds' l' → wCl X.K Wout D l' cls d σ' H' →
        wpAny (model X.prog X.w) X.A (handleBy (.ref a) X.env hds') (SP X pins D) X.xe { s' with heap := h3 } := by
      intro hds' l' hk
      induction hk with
      | nil =>
        intro w
        refine wpAny_handleBy_nil ?_
        obtain ⟨k1, k2, k3, oe, vs, T, oT, ts', he, hz, hd, h1, hr⟩ := id fl3
        unfold PySem.passOn
        refine wpAny_bind (wpAny_field he hd h1 ?_)
        rw [if_neg (show ¬ ((Value.ref T == Value.none) = true) from by simp)]
        have fin : wpAny (model X.prog X.w) X.A (setFlight (.ref a) X.env.frame) (fun _ s4 => wpAny (model X.prog X.w) X.A (throw (.ref a) : Sem Flow) (SP X pins D) X.xe s4) X.xe { s' with heap := h3 } := by
          rw [hf]
          refine HandSPX.setFlight_upZ fl3 fun h4 hh4 up4 => wpAny_throw (tk _ _ ?_)
          exact ⟨a, B, sI, pins, σ', H', cls, d, rfl, J, nb, (up.trans up3).trans up4, .inr (.inr (by rw [hs]; exact hh4)), na, os, ag, w⟩
        first
          | exact wpAny_bind (wpAny_pure (wpAny_bind fin))
          | exact wpAny_bind fin
      | @cons x c on oi ts b₀ suite np pos' hds2 l2 hc hn hsu r ih =>
        intro w
        obtain ⟨b, hb1, hyes, hno⟩ := w
        refine wpAny_handleBy_cons (codeAny_handlers_test ?_) (by intro q; cases q)
        have LM := PySem.W.exm_one (M := model X.prog X.w) (J3.kIn) (fun A Q E s k q => wpAny_typeOf_ref (k _ _ he3) (by rw [hz3.1]; exact q)) hb1
        have test : ∀ {Q : Value → Shared → Prop} {E : Value → Shared → Prop}, Q c { s' with heap := h3 } → wpAny (model X.prog X.w) (X.A.mark (some (.ref a))) (eval (.Name x np) X.env) Q E { s' with heap := h3 } := fun {Q E} q => by
          obtain ⟨hg, hdbg, hm | ⟨hm, hv, hnn⟩⟩ := hc
          · exact ld_glob (X := X.suite a ((a, oe3) :: (X.pn ++ pins))) S3 hg hm q hdbg
          · exact ld_blt (X := X.suite a ((a, oe3) :: (X.pn ++ pins))) S3 hg hm hv q hnn hdbg
        refine test (LM.here ?_)
        cases b with
        | false => exact ih (hno rfl)
        | true =>
          have hy := hyes rfl a na
          match on, oi, hn, hy with
          | none, none, _, hy =>
            refine codeAny_handlers_suite ?_
            refine HandSPX.lands_againZ fl3 fun h4 fl4 up4 => ?_
            have J4 : Inv X pins σ' H' { s' with heap := h4 } := J.landed nb fl4.1 ((up.trans up3).trans up4) os ag
            obtain ⟨oe4, vs4, he4, hz4, hd4⟩ := fl4.there
            have S4 := J4.suite he4 hd4 na nL nF
            refine wpAny_mono ((hsu a oe4 cls d (X.pn ++ pins) hz4 ⟨_, hd4⟩).run [] _ _ H' _ S4 hy) (fun f s6 hsp => ?_) (fun _ _ z => False.elim z)
            cases f with
            | next => obtain ⟨σ6, H6, S6, q6⟩ := hsp; exact ⟨_, _, S6.unsuite ok, q6⟩
            | brk => obtain ⟨σ6, H6, S6, q6⟩ := hsp; exact ⟨_, _, S6.unsuite ok, q6⟩
            | cont => obtain ⟨σ6, H6, S6, q6⟩ := hsp; exact ⟨_, _, S6.unsuite ok, q6⟩
            | ret u => obtain ⟨v6, σ6, H6, S6, r6, q6⟩ := hsp; exact ⟨_, _, _, S6.unsuite ok, r6, q6⟩
          | some n, some i, hn, hy =>
            obtain ⟨hi, hln⟩ := hn
            refine codeAny_handlers_suite_as ?_
            refine HandSPX.lands_againZ fl3 fun h4 fl4 up4 => ?_
            have J4 : Inv X pins σ' H' { s' with heap := h4 } := J.landed nb fl4.1 ((up.trans up3).trans up4) os ag
            obtain ⟨oe4, vs4, he4, hz4, hd4⟩ := fl4.there
            have S4 := J4.suite he4 hd4 na nL nF
            refine store_ok (X := X.suite a ((a, oe4) :: (X.pn ++ pins))) (v := .ref a) S4 hN hi (.inl hln) rfl (fun s5 S5 => ?_) (.inr hln)
            refine wpAny_mono ((hsu a oe4 cls d (X.pn ++ pins) hz4 ⟨_, hd4⟩).run [] s5 _ H' _ S5 hy) (fun f s6 hsp => ?_) (fun _ _ z => False.elim z)
            cases f with
            | next => obtain ⟨σ6, H6, S6, q6⟩ := hsp; exact gone_ok (S6.unsuite ok) hN hi hln fun s7 J7 => ⟨_, _, J7, q6⟩
            | brk => obtain ⟨σ6, H6, S6, q6⟩ := hsp; exact gone_ok (S6.unsuite ok) hN hi hln fun s7 J7 => ⟨_, _, J7, q6⟩
            | cont => obtain ⟨σ6, H6, S6, q6⟩ := hsp; exact gone_ok (S6.unsuite ok) hN hi hln fun s7 J7 => ⟨_, _, J7, q6⟩
            | ret u => obtain ⟨v6, σ6, H6, S6, r6, q6⟩ := hsp; exact gone_ok (S6.unsuite ok) hN hi hln fun s7 J7 => ⟨_, _, _, J7, r6, q6⟩
          | none, some _, hn, _ => exact hn.elim
          | some _, none, hn, _ => exact hn.elim
    exact go hh w
  · cases f with
    | next => obtain ⟨σ', H', J', q⟩ := hsp; exact wpAny_execs_nil ⟨σ', H', J'.ofTry ok, q⟩
    | brk => obtain ⟨σ', H', J', q⟩ := hsp; exact ⟨σ', H', J'.ofTry ok, q⟩
    | cont => obtain ⟨σ', H', J', q⟩ := hsp; exact ⟨σ', H', J'.ofTry ok, q⟩
    | ret u => obtain ⟨v, σ', H', J', r, q⟩ := hsp; exact ⟨v, σ', H', J'.ofTry ok, r, q⟩
end
end Ev
end
section
set_option Elab.async false
set_option linter.all false
set_option maxRecDepth 100000
set_option autoImplicit false
/-! Raise, try, every statement. -/
namespace Ev
open PySem PySem.Spec PyProof.Rows L2

/-- the promise of an own __init__ that stores its arguments -/
def spI (g : Pl) (ef : List (List Str)) (c : Nat) : Sp := fun vs H Q _ => ∃ a args, vs = .ref a :: args ∧ args.length = (ef.getD c []).length ∧ H a = some (exo a (g.exA c) none) ∧
  ∀ H2 d fs, H d = none → d ≠ a → H2 a = some (exo a (g.exA c) (some d)) → H2 d = some (exd d fs) → (∀ b, b ≠ a → b ≠ d → H2 b = H b) → (∀ (i : Nat) (f : Str), (ef.getD c [])[i]? = some f → ∃ v, args[i]? = some v ∧ fs.lookup f = some v) → Q .non H2
/-- the classes of exceptions -/
structure Xo (g : Pl) (T : TC) (cf hot : CF) (np : Nat → Nat) (ef : List (List Str)) (sub : Sub) (k : Nat) (X : Cx) : Prop where
  mg : ∀ c x, T.exs[c]? = some x → X.mg x = some (.ref (g.exA c))
  ini : T.cold = true → ∀ c x, T.exs[c]? = some x → (ef.getD c []) ≠ [] → ∃ fI fd ps, OexC X.K (g.exA c) ∧ PySem.W.findIn X.K (.ref (g.exA c)) "__init__" = some (some (.ref fI)) ∧ PySem.W.typeIn X.K (.ref fI) = some (.type "function") ∧
    FnOk X.prog X.w X.K X.mg X.base (L2N.CX X.prog X.w) k fI fd ps (spI g ef c) ∧ Binds X.K fd ps []
  exm : ∀ c j b, sub c j = some b → PySem.W.exmOne X.K (.ref (g.exA c)) (.ref (g.exA j)) = some b
  xf : ∀ c x, T.exs[c]? = some x → (ef.getD c []) ≠ [] → XfC X.K (g.exA c) ∧ ∀ f ∈ ef.getD c [], PySem.W.findIn X.K (.ref (g.exA c)) f = some none
  lo : ∀ c, T.exs.length ≤ c → ef.getD c [] = []
  hotd : ∀ i ∈ T.hots, ∃ fd ps, PySem.W.keepIn X.K (.ref (g.fnA i)) = true ∧ Binds X.K fd ps [] ∧ L2H.FnH X.prog X.w X.K X.mg X.base (L2N.CX X.prog X.w) k (g.fnA i) fd ps (spF g ef hot (np i) i)
  hotn : ∀ i ds S, (hot i ds S).isSome = true → ds.length = np i
structure Cd (g : Pl) (T : TC) (cf : CF) (np : Nat → Nat) (ef : List (List Str)) (cds : Cds) (hot : CF) (sub : Sub) (E0 : XK) (k : Nat) (sc : Scope) (X : Cx) : Prop where
  ct : Ct g T cf np ef cds E0 k sc X
  hsc : X.env.scope = sc
  kind : sc.kind = .function
  own : PassesOwn (model X.prog X.w) X.A X.env X.xe
  stk : X.stack = X.env :: X.outer
  frm : X.env.frame = some X.env.locals
  tk : L2N.Takes X (fun cls d _ H => E0 cls d H)
  xo : Xo g T cf hot np ef sub k X
section
variable {g : Pl} {T : TC} {cf : CF} {np : Nat → Nat} {ef : List (List Str)} {cds : Cds} {hot : CF} {sub : Sub} {E0 : XK} {k : Nat} {sc : Scope} {X : Cx}
/-! ### raise -/
theorem st_rse (C : Cd g T cf np ef cds hot sub E0 k sc X) (hcold : T.cold = true) {x : Str} {c : Nat} (hc : ixOf T.exs x = some c) (hg : isGlb sc x = true) (hd : odd x = false) {a : Expr} {r : List Expr} {es' : Es} (hs : (a :: r).any isStar = false) (ha : PA X (a :: r) (tL g cf ef cds E0 es')) (h1 : Nat.ble 1 (ef.getD c []).length = true) (h2 : Nat.ble (ef.getD c []).length 100 = true) (p pos pos' : Pos) :
    PS X (.Raise (some (.Call (.Name x p) (a :: r) [] pos)) none pos') (tSt g cf ef cds hot sub E0 (.rse c (ef.getD c []).length es')) := by
  have hx := ixOf_get hc
  have hne : ef.getD c [] ≠ [] := fun e => by rw [e] at h1; cases h1
  obtain ⟨fI, fd, ps, T1, iC, tI, F, hb⟩ := C.xo.ini hcold c x hx hne
  simp only [List.any_cons, Bool.or_eq_false_iff] at hs
  have hp : Passes (L2N.CX X.prog X.w) X (fun _ _ _ => False) := fun _ _ _ _ _ _ _ ⟨_, _, _, _, _, _, _, _, _, _, _, _, h⟩ => h.elim
  refine PS.imp (L2N.ps_raise (C.ct.calm hcold) C.tk (pmk_N T1 iC tI F (C.ct.rm hcold) hb hp (C.ct.glb _ hg) (C.xo.mg c x hx) ha (odd_of hd).1 (star_of hs.1 _ _) (star_back _ _ hs.2))) fun D σ H ⟨ρ, S, env, s, e, q⟩ => ?_
  simp only [evS] at q
  refine ⟨ρ, S, env, s, e, post_mono (post_bind (Ra := repL g) s q) fun vs H1 ⟨ds, S1, ρ1, x1, s1, r1, q1⟩ => ?_⟩
  split at q1
  · rename_i hl
    have hvl : vs.length = (ef.getD c []).length := by rw [repL_length r1, hl]
    refine ⟨by rw [hvl]; exact Nat.le_trans (Nat.le_of_ble_eq_true h2) (by decide), fun b hb => ⟨b, vs, by rw [List.append_nil], hvl, upd_same, ?_⟩⟩
    intro H2 d fs hd1 hda ea ed same look
    rw [upd_ne hda] at hd1
    refine ⟨rfl, d, fs, ea, ed, hd1, ?_⟩
    have eH : upd (del H2 b) d (.xd fs) = upd H1 d (.xd fs) := by
      funext y
      by_cases e1 : y = d
      · rw [e1, upd_same, upd_same]
      · rw [upd_ne e1, upd_ne e1]
        by_cases e2 : y = b
        · rw [e2, del_same, hb]
        · rw [del_ne e2, same y e2 e1, upd_ne e2]
    rw [eH]
    obtain ⟨s2, x2⟩ := s1.side (u := .xd fs) hd1
    refine q1 ρ1 _ d fs x2 s2 upd_same fun i n dd hn hdd => ?_
    obtain ⟨v, hv, hlk⟩ := look i n hn
    obtain ⟨v', hv', rv⟩ := repL_get r1 hdd
    rw [hv] at hv'
    cases hv'
    exact ⟨v, hlk, rep_le (x2.le s1) _ _ rv⟩
  · exact q1.elim
/-! ### suites of except clauses -/
/-- the exception as it stands in a suite -/
def XSt (g : Pl) (ef : List (List Str)) (a : Addr) (cls : Value) (d : Option Addr) (oi : Option Nat) (kc : Nat) (pl : Bool) (ρ : List Addr) (S : Sto) (H : Hp) (σ : L2.St) (fs : List D) : Prop := ∃ ws c dx, cls = .ref (g.exA c) ∧ d = some dx ∧ H dx = some (.xd ws) ∧
  (∀ (i : Nat) (n : Str) (dd : D), (ef.getD c [])[i]? = some n → fs[i]? = some dd → ∃ v, ws.lookup n = some v ∧ rep g ρ H dd v) ∧ (c = kc ∨ pl = true) ∧ Sim g ρ S H ∧ ∀ i, oi = some i → σ[i]? = some (some (.ref a))
theorem XSt.ext {a : Addr} {cls : Value} {d : Option Addr} {oi : Option Nat} {kc : Nat} {pl : Bool} {ρ ρ' : List Addr} {S S' : Sto} {H H' : Hp} {σ : L2.St} {fs : List D} (h : XSt g ef a cls d oi kc pl ρ S H σ fs) (x : Ext ρ H ρ' H') (s' : Sim g ρ' S' H') : XSt g ef a cls d oi kc pl ρ' S' H' σ fs := by
  obtain ⟨ws, c, dx, h1, h2, h3, h4, h5, s, h6⟩ := h
  refine ⟨ws, c, dx, h1, h2, x.fr _ _ (s.out h3 rfl) h3, fun i n dd e1 e2 => ?_, h5, s', h6⟩
  obtain ⟨v, hv, rv⟩ := h4 i n dd e1 e2
  exact ⟨v, hv, rep_le (x.le s) _ _ rv⟩
def tXv (g : Pl) (ef : List (List Str)) (hot : CF) (a : Addr) (cls : Value) (d : Option Addr) (oi : Option Nat) (kc : Nat) (pl : Bool) (x : Xs) : TE := fun σ H Q => ∃ ρ S fs, XSt g ef a cls d oi kc pl ρ S H σ fs ∧ (x.plain = true ∨ pl = false) ∧ post g ef (fun _ _ _ => False) (rep g) ρ H (evX hot x fs S) Q
def tXl (g : Pl) (ef : List (List Str)) (hot : CF) (a : Addr) (cls : Value) (d : Option Addr) (oi : Option Nat) (kc : Nat) (pl : Bool) (x : Xl) : TA := fun σ H Q => ∃ ρ S fs, XSt g ef a cls d oi kc pl ρ S H σ fs ∧ (x.plain = true ∨ pl = false) ∧ post g ef (fun _ _ _ => False) (repL g) ρ H (evXl hot x fs S) Q
theorem env_none {ρ : List Addr} {H : Hp} (σ : L2.St) : EnvR g ρ H (List.replicate σ.length none) σ := ⟨by simp, fun i d h => by
  rw [List.getElem?_replicate] at h
  split at h <;> cases h⟩
theorem xl_main {X' : Cx} {a : Addr} {cls : Value} {d : Option Addr} {oi : Option Nat} {kc : Nat} {pl : Bool} {f : Expr → Option Xs} (ih : ∀ e x, f e = some x → PE X' e (tXv g ef hot a cls d oi kc pl x)) : ∀ (es : List Expr) (xs : Xl), trXl f es = some xs → es.any isStar = false → PA X' es (tXl g ef hot a cls d oi kc pl xs)
  | [], xs, h, _ => by
    simp only [trXl, Option.some.injEq] at h
    subst h
    refine PA.imp pa_nil ?_
    rintro σ H Q ⟨ρ, S, fs, h, _, p⟩
    simp only [evXl] at p
    obtain ⟨_, _, _, _, _, _, _, _, s, _⟩ := h
    exact post_ok p s (by simp only [repL])
  | e :: es, xs, h, hs => by
    simp only [trXl] at h
    split at h
    · rename_i x xs' h1 h2
      cases h
      simp only [List.any_cons, Bool.or_eq_false_iff] at hs
      refine PA.imp (pa_cons (ih e x h1) (xl_main ih es xs' h2 hs.2) (star_of hs.1 _ _)) ?_
      rintro σ H Q ⟨ρ, S, fs, h, hp, p⟩
      simp only [evXl] at p
      have hp1 : x.plain = true ∨ pl = false := hp.imp (fun h => by simp only [Xl.plain, Bool.and_eq_true] at h; exact h.1) id
      have hp2 : xs'.plain = true ∨ pl = false := hp.imp (fun h => by simp only [Xl.plain, Bool.and_eq_true] at h; exact h.2) id
      have s : Sim g ρ S H := by obtain ⟨_, _, _, _, _, _, _, _, s, _⟩ := h; exact s
      refine ⟨ρ, S, fs, h, hp1, post_mono (post_bind (Ra := rep g) s p) ?_⟩
      rintro v H1 ⟨dd, S1, ρ1, x1, s1, r1, p1⟩
      refine ⟨ρ1, S1, fs, h.ext x1 s1, hp2, post_mono (post_bind (Ra := repL g) s1 p1) ?_⟩
      rintro vs H2 ⟨ds, S2, ρ2, x2, s2, r2, p2⟩
      exact post_ok p2 s2 (by simp only [repL]; exact ⟨v, vs, rfl, rep_le (x2.le s1) _ _ r1, r2⟩)
    · cases h
theorem x_main (C : Cd g T cf np ef cds hot sub E0 k sc X) {on : Option Str} {oi : Option Nat} (hn : NmOk X on oi) (hno : nmC T.N sc on = true) {kc : Nat} {kx : Str} (hk : T.exs[kc]? = some kx) {pl : Bool} (a : Addr) (oe : Obj) (cls : Value) (d : Option Addr) (pn : List (Addr × Obj)) (hz : L2N.Zn cls d oe) (hf : ∃ vs, oe.data = .fields vs) : ∀ (n : Nat) (e : Expr) (x : Xs),
    trX T.fns T.hots on (ef.getD kc []) sc n e = some x → PE (X.suite a ((a, oe) :: pn)) e (tXv g ef hot a cls d oi kc pl x)
  | 0, e, x, h => by simp only [trX, reduceCtorEq] at h
  | n + 1, e, x, h => by
    have ih := x_main C hn hno hk (pl := pl) a oe cls d pn hz hf n
    simp only [trX] at h
    split at h
    · rename_i c j pos
      obtain ⟨dd, hd, rfl⟩ := Option.map_eq_some_iff.mp h
      refine PE.imp (s_cst (g := g) (cf := cf) (ef := ef) (cds := cds) (E0 := fun _ _ _ => False) hd) ?_
      rintro σ H Q ⟨ρ, S, fs, h, _, p⟩
      simp only [evX] at p
      obtain ⟨_, _, _, _, _, _, _, _, s, _⟩ := h
      exact ⟨ρ, S, _, s, env_none σ, by simp only [evE]; exact p⟩
    · rename_i y py f pos
      split at h
      · rename_i hy
        obtain ⟨i, hi, rfl⟩ := Option.map_eq_some_iff.mp h
        have hi2 := ixOf_get hi
        subst hy
        cases oi with
        | none => exact hn.elim
        | some j =>
          obtain ⟨hj, hl⟩ := hn
          have hne : ef.getD kc [] ≠ [] := fun e => by rw [e] at hi2; simp at hi2
          obtain ⟨T1, T2⟩ := C.xo.xf kc kx hk hne
          have hod : odd y = false := by
            simp only [nmC, Bool.and_eq_true, Bool.not_eq_true'] at hno
            exact hno.2
          have hv : PE (X.suite a ((a, oe) :: pn)) (.Name y py) (tVar j) := pe_var hj (.inl hl) (odd_of hod).1 (odd_of hod).2.1
          refine PE.imp (pe_xf T1 (T2 f (List.mem_of_getElem? hi2)) hz.zc hf hv rfl) ?_
          rintro σ H Q ⟨ρ, S, fs, h, hp, p⟩
          obtain ⟨ws, c, dx, h1, h2, h3, h4, h5, s, h6⟩ := h
          have hck : c = kc := by
            rcases hp with hp | hp
            · simp only [Xs.plain, Bool.false_eq_true] at hp
            · rcases h5 with h5 | h5
              · exact h5
              · rw [hp] at h5; cases h5
          subst hck
          simp only [evX] at p
          split at p
          · rename_i dd hdd
            obtain ⟨v, hv2, rv⟩ := h4 i f dd hi2 hdd
            exact ⟨.ref a, h6 j rfl, rfl, h1, dx, ws, v, h2, h3, hv2, post_ok p s rv⟩
          · exact p.elim
      · cases h
    · rename_i es j pos
      split at h
      · cases h
      · rename_i hs
        obtain ⟨xs, hxs, rfl⟩ := Option.map_eq_some_iff.mp h
        refine PE.imp (pe_tup (xl_main ih es xs hxs (by simpa using hs))) ?_
        rintro σ H Q ⟨ρ, S, fs, h, hp, p⟩
        simp only [evX] at p
        have s : Sim g ρ S H := by obtain ⟨_, _, _, _, _, _, _, _, s, _⟩ := h; exact s
        refine ⟨ρ, S, fs, h, by simpa only [Xs.plain] using hp, post_mono (post_bind (Ra := repL g) s p) ?_⟩
        rintro vs H1 ⟨ds, S1, ρ1, x1, s1, r1, p1⟩
        split at p1
        · rename_i hsm
          exact ⟨by rw [repL_length r1]; exact small_sz hsm, new_tup s1 r1 p1⟩
        · exact p1.elim
    · rename_i y py a1 r pos
      split at h
      · rename_i hc
        simp only [Bool.and_eq_true, Bool.not_eq_true'] at hc
        split at h
        · rename_i i hi
          split at h
          · rename_i hh
            obtain ⟨xs, hxs, rfl⟩ := Option.map_eq_some_iff.mp h
            have hx := ixOf_get hi
            obtain ⟨fd, ps, hkp, hb, F⟩ := C.xo.hotd i (by simpa using hh)
            have hA := xl_main ih (a1 :: r) xs hxs hc.2
            have hs := hc.2
            simp only [List.any_cons, Bool.or_eq_false_iff] at hs
            have hotc : L2H.HotC (X.suite a ((a, oe) :: pn)) := by
              obtain ⟨vs, hvs⟩ := hf
              exact ⟨(a, oe), ⟨rfl, vs, hvs, hz.2.2 vs hvs⟩, List.mem_cons_self⟩
            refine PE.imp (L2H.pe_callH (E := fun _ => fun _ _ _ => False) F (⟨(C.ct.room.mono (Nat.le_succ k)).dp, (C.ct.room.mono (Nat.le_succ k)).un⟩ : L2H.RoomH k (X.A.mark (some (.ref a)))) hotc (C.ct.glb _ hc.1.1) (C.ct.fns i y hx) hkp hb (fun σ => ?_) hA (odd_of hc.1.2).1 (star_of hs.1 _ _) (star_back _ _ hs.2)) ?_
            · exact fun _ _ _ _ _ _ ⟨_, _, _, _, _, _, _, _, _, _, _, _, h⟩ => h.elim
            rintro σ H Q ⟨ρ, S, fs, h, hp, p⟩
            simp only [evX] at p
            have s : Sim g ρ S H := by obtain ⟨_, _, _, _, _, _, _, _, s, _⟩ := h; exact s
            refine ⟨ρ, S, fs, h, by simpa only [Xs.plain] using hp, post_mono (post_bind (Ra := repL g) s p) ?_⟩
            rintro vs H1 ⟨ds, S1, ρ1, x1, s1, r1, p1⟩
            refine ⟨?_, ρ1, S1, ds, s1, r1, p1⟩
            rw [repL_length r1]
            refine C.xo.hotn i ds S1 ?_
            cases hq : hot i ds S1 with
            | none => rw [hq] at p1; exact p1.elim
            | some _ => rfl
          · cases h
        · cases h
      · cases h
    · cases h
/-! ### try -/
theorem loc_get {N : List Str} {sc : Scope} {n : Str} {i : Nat} (h : locOf N sc n = some i) : sc.names.lookup n = some .local ∧ N[i]? = some n := by
  unfold locOf at h
  split at h
  · rename_i hh; exact ⟨hh, ixOf_get h⟩
  · cases h
theorem nm_ok (C : Cd g T cf np ef cds hot sub E0 k sc X) {on : Option Str} (h : nmC T.N sc on = true) : ∃ oi, NmOk X on oi := by
  cases on with
  | none => exact ⟨none, trivial⟩
  | some n =>
    simp only [nmC, Bool.and_eq_true, Option.isSome_iff_exists] at h
    obtain ⟨⟨i, hi⟩, _⟩ := h
    obtain ⟨h1, h2⟩ := loc_get hi
    exact ⟨some i, by rw [C.ct.N]; exact h2, show X.env.scope.names.lookup n = _ from by rw [C.hsc]; exact h1⟩
theorem endsB_rt (D : Ends) (oi : Option Nat) : (endsB D oi).rt = D.rt := by cases oi <;> rfl
theorem try_list (C : Cd g T cf np ef cds hot sub E0 k sc X) : ∀ (hs : List ExceptHandler) (hs' : Hs), trH T ef sc hs = some hs' → ∃ l, ClsOk X hs l ∧ ∀ (D : Ends) (c : Nat) (fs : List Ev.D) (σ' : L2.St) (ρ : List Addr) (S : Sto) (H : Hp) (dx : Addr) (ws : List (Str × V)), σ'.length = X.N.length → Sim g ρ S H → H dx = some (.xd ws) →
    (∀ (i : Nat) (n : Str) (d : Ev.D), (ef.getD c [])[i]? = some n → fs[i]? = some d → ∃ v, ws.lookup n = some v ∧ rep g ρ H d v) → post g ef E0 (relF g) ρ H (evH hot sub hs' c fs S) (endQ D) →
    wCl X.K (fun cls d _ H => E0 cls d H) D l (.ref (g.exA c)) (some dx) σ' H
  | [], hs', h => by
    simp only [trH, Option.some.injEq] at h
    subst h
    refine ⟨[], .nil, ?_⟩
    intro D c fs σ' ρ S H dx ws hl s hx hf p
    simp only [evH] at p
    exact p ρ H dx ws .refl s hx hf
  | .ExceptHandler ty nm body pos :: r, hs', h => by
    simp only [trH] at h
    split at h
    · rename_i c np' hs1 b bs h1
      split at h
      · rename_i hc
        simp only [Bool.and_eq_true, Bool.not_eq_true'] at hc
        split at h
        · rename_i kc hk
          obtain ⟨l, hl, hw⟩ := try_list C r hs1 h1
          have hkx := ixOf_get hk
          obtain ⟨oi, hoi⟩ := nm_ok C hc.2
          have hnames : Names X c (.ref (g.exA kc)) := ⟨C.ct.glb _ hc.1.1, (odd_of hc.1.2).1, .inl (C.xo.mg kc c hkx)⟩
          -- a suite that is not read
          have bad : (some (Hs.cons kc .bad hs1) = some hs') → ∃ l, ClsOk X (.ExceptHandler (some (.Name c np')) nm (b :: bs) pos :: r) l ∧ ∀ (D : Ends) (c : Nat) (fs : List Ev.D) (σ' : L2.St) (ρ : List Addr) (S : Sto) (H : Hp) (dx : Addr) (ws : List (Str × V)), σ'.length = X.N.length → Sim g ρ S H → H dx = some (.xd ws) →
              (∀ (i : Nat) (n : Str) (d : Ev.D), (ef.getD c [])[i]? = some n → fs[i]? = some d → ∃ v, ws.lookup n = some v ∧ rep g ρ H d v) → post g ef E0 (relF g) ρ H (evH hot sub hs' c fs S) (endQ D) →
              wCl X.K (fun cls d _ H => E0 cls d H) D l (.ref (g.exA c)) (some dx) σ' H := fun e => by
            cases e
            refine ⟨(.ref (g.exA kc), oi, fun _ _ _ => tNever) :: l, .cons hnames hoi (fun _ _ _ _ _ _ _ => pss_never) hl, ?_⟩
            intro D c fs σ' ρ S H dx ws hlen s hx hf p
            simp only [evH] at p
            split at p
            · exact p.elim
            · rename_i hsub
              exact ⟨false, C.xo.exm _ _ _ hsub, (fun h => by cases h), fun _ => hw D c fs σ' ρ S H dx ws hlen s hx hf p⟩
            · exact p.elim
          split at h
          · rename_i e rpos
            split at h
            · rename_i x hx
              cases h
              refine ⟨(.ref (g.exA kc), oi, fun a cls d D σ H => tXv g ef hot a cls d oi kc x.plain x σ H D.rt) :: l, .cons hnames hoi (fun a oe cls d pn hz hf => pss_one (ps_ret (x_main C hoi hc.2 hkx a oe cls d pn hz hf 10 e x hx))) hl, ?_⟩
              intro D c fs σ' ρ S H dx ws hlen s hxd hf p
              simp only [evH] at p
              split at p
              · rename_i hsub
                refine ⟨true, C.xo.exm _ _ _ hsub, fun _ a ha => ?_, fun h => by cases h⟩
                split at p
                · rename_i hcp
                  refine ⟨ρ, S, fs, ⟨ws, c, dx, rfl, rfl, hxd, hf, ?_, s, fun i hi => ?_⟩, ?_, ?_⟩
                  · simp only [Bool.or_eq_true, beq_iff_eq] at hcp
                    exact hcp
                  · subst hi
                    show (σ'.set i (some (.ref a)))[i]? = _
                    refine List.getElem?_set_self ?_
                    rw [hlen]
                    cases nm with
                    | none => exact hoi.elim
                    | some n => exact (List.getElem?_eq_some_iff.mp hoi.1).1
                  · cases hpl : x.plain with
                    | true => exact .inl rfl
                    | false => exact .inr rfl
                  · rw [endsB_rt]
                    split at p
                    · rename_i d s1 he
                      rw [he]
                      exact fun ρ' H' v xx ss rv => p ρ' H' (.rt v) xx ss ⟨v, rfl, rv⟩
                    · exact p.elim
                · exact p.elim
              · rename_i hsub
                exact ⟨false, C.xo.exm _ _ _ hsub, (fun h => by cases h), fun _ => hw D c fs σ' ρ S H dx ws hlen s hxd hf p⟩
              · exact p.elim
            · exact bad h
          · exact bad h
        · cases h
      · cases h
    · cases h
theorem Cd.tr (C : Cd g T cf np ef cds hot sub E0 k sc X) {W : WX} {pn : List (Addr × Obj)} {xe : Value → Shared → Prop} (tk : L2N.Takes (X.tr pn xe) W) (own : PassesOwn (model X.prog X.w) X.A X.env xe) :
    Cd g T cf np ef cds hot sub (fun cls d H => ∀ σ : L2.St, σ.length = X.N.length → W cls d σ H) k sc (X.tr pn xe) := by
  have tk' : L2N.Takes (X.tr pn xe) (fun cls d _ H => ∀ σ : L2.St, σ.length = X.N.length → W cls d σ H) := fun u s' ⟨a, B, sI, pins, σ, H, cls, d, e, I, nb, up, sky, na, os, ag, w⟩ =>
    tk u s' ⟨a, B, sI, pins, σ, H, cls, d, e, I, nb, up, sky, na, os, ag, w σ I.len⟩
  exact ⟨⟨C.ct.K, C.ct.calm, C.ct.hd, C.ct.N, C.ct.nd, C.ct.vis, C.ct.sto, C.ct.stf, C.ct.glb, C.ct.blk, C.ct.room, C.ct.cons, C.ct.nf, C.ct.fns, C.ct.fn, C.ct.ar, L2N.passes_call tk' fun _ _ _ _ h => h, C.ct.blt, C.ct.gcd, C.ct.cd⟩,
    C.hsc, C.kind, own, C.stk, C.frm, tk', ⟨C.xo.mg, C.xo.ini, C.xo.exm, C.xo.xf, C.xo.lo, C.xo.hotd, C.xo.hotn⟩⟩
theorem st_try (C : Cd g T cf np ef cds hot sub E0 k sc X) {b : List Stmt} {b' : Ss} (hb : ∀ (E0 : XK) (X : Cx), Cd g T cf np ef cds hot sub E0 k sc X → PSs X b (tBl g cf ef cds hot sub E0 b')) {h : ExceptHandler} {hs : List ExceptHandler} {hs' : Hs} (hh : trH T ef sc (h :: hs) = some hs') (pos : Pos) :
    PS X (.Try b (h :: hs) [] [] pos) (tSt g cf ef cds hot sub E0 (.try b' hs')) := by
  obtain ⟨l, hl, hw⟩ := try_list C (h :: hs) hs' hh
  refine PS.imp (ps_clauses (tb := fun W => tBl g cf ef cds hot sub (fun cls d H => ∀ σ : L2.St, σ.length = X.N.length → W cls d σ H) b') (Wout := fun cls d _ H => E0 cls d H) C.stk C.frm (by rw [C.ct.N]; exact C.ct.nd) C.tk (fun W pn xe tk own => hb _ _ (C.tr tk own)) hl) fun D σ H ⟨ρ, S, env, s, e, p⟩ => ?_
  simp only [evS] at p
  refine ⟨ρ, S, env, s, e, ?_⟩
  cases hq : evSs cds cf hot sub b' env S with
  | none => rw [hq] at p; exact p
  | some r =>
    rw [hq] at p
    cases r with
    | ok f S1 => exact p
    | exc c fs S1 =>
      intro ρ' H' dx ws x s' hx hf σ' hlen
      exact hw D c fs σ' ρ' S1 H' dx ws hlen s' hx hf (post_ext s x p)
/-! ### every statement -/
theorem bl_bad {sts : List Stmt} {r : Ss} : PSs X sts (tBl g cf ef cds hot sub E0 (.cons .bad r)) := PSs.no fun D σ H ⟨ρ, S, env, s, e, p⟩ => by
  simp only [evSs, evS, O.bind, post] at p
theorem folded_or (iter : Expr) (env : PySem.Env) : (∃ l kk p, iter = .Set l kk p) ∨ ∀ x, foldedSetIterable iter env x = pure x := by
  cases iter with
  | Set l kk p => exact .inl ⟨l, kk, p, rfl⟩
  | _ => exact .inr fun x => rfl
theorem for_set {st : Stmt} {t : Tg} {b' : Ss} {it : Ev.It} (h : it = .seq .bad) : PS X st (tSt g cf ef cds hot sub E0 (.for t it b')) := by
  subst h
  exact PS.no fun D σ H ⟨ρ, S, env, s, e, p⟩ => by
    simp only [evS, evI, evE, O.bind, post] at p
def isSub : Expr → Bool
  | .Subscript .. => true
  | _ => false
/-- name = [..] that swaps -/
theorem st_asg2 (C : Cd g T cf np ef cds hot sub E0 k sc X) {tg e : Expr} {t : Tg} (ht : trTg T.N sc tg = some t) {pos : Pos} (hsw : ¬ swapsWith e (some tg) pos.line X.env = pure false) : PS X (.Assign [tg] e pos) (tSt g cf ef cds hot sub E0 (.asg t (trE T 40 sc e))) := by
  have none_case : (∀ env S, evE cds cf (trE T 40 sc e) env S = none) → PS X (.Assign [tg] e pos) (tSt g cf ef cds hot sub E0 (.asg t (trE T 40 sc e))) := fun h => PS.no fun D σ H ⟨ρ, S, env, s, en, p⟩ => by
    simp only [evS, h, O.bind, post] at p
  cases e with
  | ListComp elt gs scope epos =>
    rcases lc_ok (g := g) 39 C.ct elt gs scope epos with h | ⟨tg1, iter, ifs, t1, it, cond, elt', hcold, rfl, he, O⟩
    · exact none_case h
    · rw [he]
      cases tg with
      | Name y py =>
        obtain ⟨i, hi, rfl⟩ := Option.map_eq_some_iff.mp ht
        have hb : swapsWith (.ListComp elt [⟨tg1, iter, ifs, 0⟩] scope epos) (some (.Name y py)) pos.line X.env = pure (X.env.blockKind == .function && X.env.kindOf y == some .local && py.line == epos.line && !(scope.names.any fun (n, k) => n == y && (k == .local || k == .cell))) := rfl
        cases hv : (X.env.blockKind == .function && X.env.kindOf y == some .local && py.line == epos.line && !(scope.names.any fun (n, k) => n == y && (k == .local || k == .cell))) with
        | false => rw [hb, hv] at hsw; exact absurd rfl hsw
        | true =>
          have hl : X.env.scope.names.lookup y = some .local := by
            simp only [Bool.and_eq_true, beq_iff_eq] at hv
            exact hv.1.1.2
          exact st_asgLc C.ct hcold O hi hl py epos pos (by rw [hb, hv])
      | _ => exact absurd rfl hsw
  | SetComp _ _ _ _ => exact none_case fun env S => by simp only [trE, evE]
  | DictComp _ _ _ _ _ => exact none_case fun env S => by simp only [trE, evE]
  | _ => exact absurd rfl hsw
theorem st_main (n : Nat) : ∀ {E0 : XK} {X : Cx} (C : Cd g T cf np ef cds hot sub E0 k sc X), (∀ st, PS X st (tSt g cf ef cds hot sub E0 (trS T ef n sc st))) ∧ (∀ sts, PSs X sts (tBl g cf ef cds hot sub E0 (trSs T ef n sc sts))) := by
  induction n with
  | zero => exact fun C => ⟨fun st => by simp only [trS]; exact ps_bad, fun sts => by simp only [trSs]; exact bl_bad⟩
  | succ n ih =>
    intro E0 X C
    obtain ⟨hS, hB⟩ := ih C
    obtain ⟨hE, hO, hI⟩ := s_main (T := T) (cf := cf) (np := np) (ef := ef) (cds := cds) 40 C.ct
    have hP : ∀ e, PE X e (tS g cf ef cds E0 (trE T 40 sc e)) := fun e => (hE e).1
    have hL : ∀ es, PA X es (tL g cf ef cds E0 (trL (trE T 40 sc) es)) := s_list C.ct hP
    refine ⟨fun st => ?_, fun sts => ?_⟩
    · cases hok : okS T.cold st with
      | false =>
        simp only [trS, hok, Bool.false_eq_true, if_false]
        exact ps_bad
      | true =>
      cases st with
      | Pass pos => simp only [trS, hok, if_true]; exact st_pass pos
      | Break pos => simp only [trS, hok, if_true]; exact st_brk pos
      | Continue pos => simp only [trS, hok, if_true]; exact st_cnt pos
      | Return v pos =>
        cases v with
        | none => simp only [trS, hok, if_true]; exact st_retN pos
        | some e => simp only [trS, hok, if_true]; exact st_ret (hP e) pos
      | Expr e pos =>
        simp only [trS, hok, if_true]
        split
        · rename_i hd
          unfold isDoc at hd
          split at hd
          · exact st_doc _ _
          · cases hd
        · split
          · exact st_exp (hP _) rfl pos
          · exact ps_bad
      | Assign tgs e pos =>
        rcases tgs with _ | ⟨tg, _ | ⟨t2, r⟩⟩
        · simp only [trS, hok, if_true]; exact ps_bad
        · have main : isSub tg = false → PS X (.Assign [tg] e pos) (tSt g cf ef cds hot sub E0 (match parOf T.N sc tg e with
              | some (i, j, a, b) => .par i j (trE T 40 sc a) (trE T 40 sc b)
              | none => match trTg T.N sc tg with
                | some t => if asgOk tg e then .asg t (trE T 40 sc e) else .bad
                | none => .bad)) := fun hsb => by
            split
            · rename_i i j a b hp
              exact st_par C.ct hok C.hsc C.kind hp (hP a) (hP b) pos
            · split
              · rename_i t ht
                split
                · rename_i hk
                  by_cases hsw : swapsWith e (some tg) pos.line X.env = pure false
                  · exact st_asg ht (s_tg C.ct hok ht) (hP e) hk pos hsw
                  · exact st_asg2 C ht hsw
                · exact ps_bad
              · exact ps_bad
          cases tg with
          | Subscript o i p2 =>
            simp only [trS, hok, if_true]
            split
            · exact ps_bad
            · rename_i hsl
              exact st_put C.ct (hP o) (hP i) (hP e) (by simpa using hsl) pos p2
          | _ => simp only [trS, hok, if_true]; exact main rfl
        · simp only [trS, hok, if_true]; exact ps_bad
      | AugAssign tg op e pos =>
        cases tg with
        | Name x p2 =>
          simp only [trS, hok, if_true]
          split
          · rename_i i h1 h2
            obtain rfl := trOp_of h2
            exact st_aug C.ct h1 (hP e) .add (.inl rfl) pos p2
          · rename_i i h1 h2
            obtain rfl := trOp_of h2
            exact st_aug C.ct h1 (hP e) .sub (.inr rfl) pos p2
          · exact ps_bad
        | _ => simp only [trS, hok, if_true]; exact ps_bad
      | If c a b pos => simp only [trS, hok, if_true]; exact st_ite (hE c).2 (hB a) (hB b) pos
      | For tg it b orelse pos =>
        cases orelse with
        | cons _ _ => simp only [trS, hok, if_true]; exact ps_bad
        | nil =>
          simp only [trS, hok, if_true]
          split
          · rename_i t ht
            rcases folded_or it X.env with ⟨l, kk, p, rfl⟩ | hs
            · exact for_set (by simp only [trI])
            · exact st_for C.own (C.ct.calm hok) (hI tg it) (s_tg C.ct hok ht) (hB b) hs pos
          · exact ps_bad
      | While c b orelse pos =>
        cases orelse with
        | cons _ _ => simp only [trS, hok, if_true]; exact ps_bad
        | nil => simp only [trS, hok, if_true]; exact st_whl C.own (hE c).2 (hB b) pos
      | Raise e c pos =>
        rcases e with _ | e
        · simp only [trS, hok, if_true]; exact ps_bad
        rcases c with _ | c
        · simp only [trS, hok, if_true]
          unfold trR
          split
          · rename_i x p a r pos2
            split
            · rename_i hc
              simp only [Bool.and_eq_true, Bool.not_eq_true'] at hc
              split
              · rename_i kc hk
                split
                · rename_i hn
                  simp only [Bool.and_eq_true] at hn
                  exact st_rse C hok hk hc.1.1 hc.1.2 hc.2 (hL (a :: r)) hn.1 hn.2 p pos2 pos
                · exact ps_bad
              · exact ps_bad
            · exact ps_bad
          · exact ps_bad
        · simp only [trS, hok, if_true]; exact ps_bad
      | Try b hs orelse fin pos =>
        rcases hs with _ | ⟨h, hs⟩
        · simp only [trS, hok, if_true]; exact ps_bad
        cases orelse with
        | cons _ _ => simp only [trS, hok, if_true]; exact ps_bad
        | nil =>
          cases fin with
          | cons _ _ => simp only [trS, hok, if_true]; exact ps_bad
          | nil =>
            simp only [trS, hok, if_true]
            split
            · rename_i hs' hh
              exact st_try C (fun E0 X C' => (ih C').2 b) hh pos
            · exact ps_bad
      | _ => simp only [trS, hok, if_true]; exact ps_bad
    · cases sts with
      | nil => simp only [trSs]; exact bl_nil
      | cons st r => simp only [trSs]; exact bl_cons (hS st) (hB r)
end
end Ev
end
section
set_option Elab.async false
set_option linter.all false
set_option maxRecDepth 100000
set_option autoImplicit false
/-! Every def. -/
namespace Ev
open PySem PySem.Spec PyProof.Rows L2

/-- the table as a def's body reads it that is called while an exception is handled -/
def hotT (T : TC) : TC := { T with cold := false, hots := [] }
/-- what is known of the program behind its top -/
structure Md0 (P : Program) (w : World) (K : PySem.W.Frag) (mg : Str → Option Value) (base : Heap) (g : Pl) (T : TC) (np : Nat → Nat) (ef : List (List Str)) (cds : Cds) (sub : Sub) (tb tbh : Nat → Option Fn) : Prop where
  hK : K = g.K
  nf : g.nf = T.fns.length
  cold : T.cold = true
  cons : ∀ x d, T.cons.lookup x = some d → ∃ u v, mg x = some u ∧ RelV v u ∧ ∀ ρ H, rep g ρ H d v
  fns : ∀ i x, T.fns[i]? = some x → mg x = some (.ref (g.fnA i))
  blt : ∀ x ∈ bltFree, mg x = none
  gcd : mg "gcd" = some (.builtin "math.gcd")
  cd : CdOk g K w cds
  df : ∀ i, i < T.fns.length → ∃ N ps qual params body sc fd x, FunD K x qual params body sc [] [] (g.fnA i) fd ∧ FnScope N ps sc ∧ Binds K fd ps [] ∧ np i = ps.length ∧ ps.length ≤ N.length ∧ tb i = some ⟨ps.length, N.length, trSs { T with N := N } ef 100 sc body⟩ ∧ tbh i = some ⟨ps.length, N.length, trSs { hotT T with N := N } ef 100 sc body⟩
  tbn : ∀ i, T.fns.length ≤ i → tb i = none
  exm : ∀ c x, T.exs[c]? = some x → mg x = some (.ref (g.exA c))
  ini : ∀ c x, T.exs[c]? = some x → (ef.getD c []) ≠ [] → ∃ fI fd ps, OexC K (g.exA c) ∧ PySem.W.findIn K (.ref (g.exA c)) "__init__" = some (some (.ref fI)) ∧ PySem.W.typeIn K (.ref fI) = some (.type "function") ∧
    FnOk P w K mg base (L2N.CX P w) 2 fI fd ps (spI g ef c) ∧ Binds K fd ps []
  exm2 : ∀ c j b, sub c j = some b → PySem.W.exmOne K (.ref (g.exA c)) (.ref (g.exA j)) = some b
  xf : ∀ c x, T.exs[c]? = some x → (ef.getD c []) ≠ [] → XfC K (g.exA c) ∧ ∀ f ∈ ef.getD c [], PySem.W.findIn K (.ref (g.exA c)) f = some none
  lo : ∀ c, T.exs.length ≤ c → ef.getD c [] = []
structure Md (P : Program) (w : World) (K : PySem.W.Frag) (mg : Str → Option Value) (base : Heap) (g : Pl) (T : TC) (np : Nat → Nat) (ef : List (List Str)) (cds : Cds) (hot : CF) (sub : Sub) (tb tbh : Nat → Option Fn) : Prop extends Md0 P w K mg base g T np ef cds sub tb tbh where
  hotd : ∀ i ∈ T.hots, ∃ fd ps, PySem.W.keepIn K (.ref (g.fnA i)) = true ∧ Binds K fd ps [] ∧ L2H.FnH P w K mg base (L2N.CX P w) 2 (g.fnA i) fd ps (spF g ef hot (np i) i)
  hotn : ∀ i ds S, (hot i ds S).isSome = true → ds.length = np i
theorem FnH_mono {P : Program} {w : World} {K : PySem.W.Frag} {mg : Str → Option Value} {base : Heap} {CX : CXT} {j k : Nat} {f : Addr} {fd : FuncData} {ps : List Str} {sp : Sp} (F : L2H.FnH P w K mg base CX j f fd ps sp) (h : j ≤ k) : L2H.FnH P w K mg base CX k f fd ps sp :=
  ⟨F.len, fun A outer s H args us vs Q E p hr => F.run A outer s H args us vs Q E p (hr.mono h)⟩
section
variable {P : Program} {w : World} {K : PySem.W.Frag} {mg : Str → Option Value} {base : Heap} {g : Pl} {T : TC} {np : Nat → Nat} {ef : List (List Str)} {cds : Cds} {hot : CF} {sub : Sub} {tb tbh : Nat → Option Fn}
theorem env_start {ρ : List Addr} {H : Hp} {N : List Str} {ds : List D} {vs : List V} {n : Nat} (r : repL g ρ H ds vs) (hn : n = ds.length) : EnvR g ρ H (ds.map some ++ List.replicate (N.length - n) none) (L2.start N vs) := by
  have hl := repL_length r
  unfold L2.start
  refine ⟨by simp [hl, hn], fun i d h => ?_⟩
  by_cases hi : i < ds.length
  · rw [List.getElem?_append_left (by simpa using hi), List.getElem?_map] at h
    obtain ⟨d', hd, e⟩ := Option.map_eq_some_iff.mp h
    cases e
    obtain ⟨v, hv, rv⟩ := repL_get r hd
    exact ⟨v, by rw [List.getElem?_append_left (by simpa [hl] using hi), List.getElem?_map, hv]; rfl, rv⟩
  · rw [List.getElem?_append_right (by simpa using Nat.le_of_not_lt hi), List.getElem?_replicate] at h
    split at h <;> cases h
theorem run_ar (M : Md P w K mg base g T np ef cds hot sub tb tbh) (d : Nat) : ∀ i ds S, (run cds hot sub tb d i ds S).isSome = true → ds.length = np i ∧ i < T.fns.length := by
  intro i ds S h
  cases d with
  | zero => cases h
  | succ d =>
    unfold run at h
    cases ht : tb i with
    | none => rw [ht] at h; cases h
    | some t =>
      have hi : i < T.fns.length := by
        by_cases hi : i < T.fns.length
        · exact hi
        · rw [M.tbn i (Nat.le_of_not_lt hi)] at ht
          cases ht
      refine ⟨?_, hi⟩
      rw [ht] at h
      simp only at h
      split at h
      · rename_i hd
        have hd := of_decide_eq_true hd
        obtain ⟨N, ps, qual, params, body, sc, fd, x, _, _, _, h1, _, h2, _⟩ := M.df i hi
        rw [ht] at h2
        cases h2
        rw [hd, h1]
      · cases h
theorem ct_of (M : Md P w K mg base g T np ef cds hot sub tb tbh) {d : Nat} (ih : ∀ i, i < T.fns.length → ∃ fd ps, PySem.W.keepIn K (.ref (g.fnA i)) = true ∧ Binds K fd ps [] ∧ FnOk P w K mg base (L2N.CX P w) (2 * d + 2) (g.fnA i) fd ps (spF g ef (run cds hot sub tb d) (np i) i))
    {N ps : List Str} {qual : Str} {sc : Scope} {f : Addr} {cdv : Value} {A : Around} {outer : List PySem.Env} {s : Shared} {H : Hp} {E : XK} (S : FnScope N ps sc) (hr : Room (2 * d + 3) (A.deeper (envOfC qual sc s.heap.objs.size f cdv))) :
    Cd g { T with N := N } (run cds hot sub tb d) np ef cds hot sub E (2 * d + 2) sc (cxOf (L2N.CX P w) P w K mg base N qual sc f cdv A outer s H E) := by
  have tk : L2N.Takes (cxOf (L2N.CX P w) P w K mg base N qual sc f cdv A outer s H E) (fun cls d _ H => E cls d H) := L2N.takes_of rfl rfl rfl rfl
  refine ⟨⟨M.hK, fun _ => rfl, fun _ => hr.hd, rfl, S.nd, fun x h => ?_, fun x h => ?_, fun x h => .inl rfl, fun x h => ?_, fun scope own h => blkOk_by h, L2H.roomH_of hr, M.cons, M.nf, M.fns, ih, run_ar M d, L2N.passes_call tk fun _ _ _ _ h => h, M.blt, M.gcd, M.cd⟩, rfl, S.kind, passes_of rfl, rfl, rfl, tk, ?_⟩
  · unfold isLoc at h
    show sc.names.lookup x = _ ∨ sc.names.lookup x = _ ∨ sc.names.lookup x = _
    split at h
    · exact .inl (by assumption)
    · exact .inr (.inl (by assumption))
    · exact .inr (.inr (by assumption))
    · cases h
  · unfold isSto at h
    show sc.names.lookup x = _ ∨ sc.names.lookup x = _
    split at h
    · exact .inl (by assumption)
    · exact .inr (by assumption)
    · cases h
  · unfold isGlb at h
    show sc.names.lookup x = _
    split at h
    · assumption
    · cases h
  · refine ⟨M.exm, fun _ c x h1 h2 => ?_, M.exm2, M.xf, M.lo, fun i hi => ?_, M.hotn⟩
    · obtain ⟨fI, fd, ps, a1, a2, a3, a4, a5⟩ := M.ini c x h1 h2
      exact ⟨fI, fd, ps, a1, a2, a3, a4.mono (show 2 ≤ 2 * d + 2 by omega), a5⟩
    · obtain ⟨fd, ps, a1, a2, a3⟩ := M.hotd i hi
      exact ⟨fd, ps, a1, a2, FnH_mono a3 (show 2 ≤ 2 * d + 2 by omega)⟩
theorem fn_all (M : Md P w K mg base g T np ef cds hot sub tb tbh) : ∀ (d i : Nat), i < T.fns.length → ∃ fd ps, PySem.W.keepIn K (.ref (g.fnA i)) = true ∧ Binds K fd ps [] ∧ FnOk P w K mg base (L2N.CX P w) (2 * d + 2) (g.fnA i) fd ps (spF g ef (run cds hot sub tb d) (np i) i)
  | 0, i, hi => by
    obtain ⟨N, ps, qual, params, body, sc, fd, x, F, S, hb, h1, h2, h3, _⟩ := M.df i hi
    refine ⟨fd, ps, F.kp, hb, ⟨fun vs H Q E h => ?_, fun A outer s H args us vs Q E hr e0 bd rv h => ?_⟩⟩
    · rw [h.1, h1]
    · obtain ⟨_, ρ, S, ds, _, _, p⟩ := h
      exact p.elim
  | d + 1, i, hi => by
    obtain ⟨N, ps, qual, params, body, sc, fd, x, F, S, hb, h1, h2, h3, _⟩ := M.df i hi
    refine ⟨fd, ps, F.kp, hb, F.ok (k := 2 * d + 3) S (fun vs H Q E h => by rw [h.1, h1]) fun cdv A outer s H vs Q E hr hsp => ?_⟩
    have C := ct_of (E := E) (outer := outer) (H := H) M (fun i hi => fn_all M d i hi) S hr
    refine ⟨_, (st_main 100 C).2 body, ?_⟩
    obtain ⟨hl, ρ, St, ds, sm, rv, p⟩ := hsp
    have e1 : ps.length = ds.length := by rw [← h1, ← hl, repL_length rv]
    refine ⟨ρ, St, ds.map some ++ List.replicate (N.length - ps.length) none, sm, env_start rv e1, ?_⟩
    unfold run at p
    rw [h3] at p
    simp only [← e1, decide_true] at p
    cases hq : evSs cds (run cds hot sub tb d) hot sub (trSs { T with N := N } ef 100 sc body) (ds.map some ++ List.replicate (N.length - ps.length) none) St with
    | none => rw [hq] at p; exact p.elim
    | some r =>
      rw [hq] at p
      cases r with
      | exc c fs S1 => exact p
      | ok f S1 =>
        cases f with
        | nx env =>
          intro ρ' H' v xx ss ⟨σ1, hv, _⟩
          subst hv
          exact p ρ' H' .non xx ss (by simp only [rep])
        | rt dd =>
          intro ρ' H' v xx ss ⟨v1, hv, rv1⟩
          subst hv
          exact p ρ' H' v1 xx ss rv1
        | bk env => exact p.elim
        | ct env => exact p.elim
end
end Ev
end
section
set_option Elab.async false
set_option linter.all false
set_option maxRecDepth 100000
set_option autoImplicit false
/-! What is looked at behind the top: constants, dicts, defs. -/
namespace Ev
open PySem PySem.Spec PyProof.Rows L2

/-! ### constants -/
mutual
theorem repB_ok {g : Pl} : ∀ (d : D) (u : Value), repB g.K g.nf g.fnA g.cdA d u = true → ∃ v, RelV v u ∧ ∀ ρ H, rep g ρ H d v
  | .non, u, h => by
    cases u <;> simp only [repB] at h <;> first | (cases h; done) | skip
    exact ⟨.non, rfl, fun _ _ => by simp only [rep]⟩
  | .bl b, u, h => by
    cases u <;> simp only [repB] at h <;> first | (cases h; done) | skip
    rename_i c
    have h := of_decide_eq_true h
    exact ⟨.bl b, by rw [h]; rfl, fun _ _ => by simp only [rep]⟩
  | .int i, u, h => by
    cases u <;> simp only [repB] at h <;> first | (cases h; done) | skip
    rename_i j t
    have h := of_decide_eq_true h
    exact ⟨.int i, ⟨t, by rw [h]⟩, fun _ _ => by simp only [rep]⟩
  | .str x, u, h => by
    cases u <;> simp only [repB] at h <;> first | (cases h; done) | skip
    rename_i y t
    have h := of_decide_eq_true h
    exact ⟨.str (mkS x), ⟨t, by rw [h]⟩, fun _ _ => by simp only [rep]⟩
  | .tup xs, u, h => by
    cases u <;> simp only [repB] at h <;> cases h
  | .ref n, u, h => by
    cases u <;> simp only [repB] at h <;> cases h
  | .frz false xs, u, h => by
    cases u <;> simp only [repB] at h <;> cases h
  | .frz true xs, u, h => by
    cases u <;> simp only [repB] at h <;> first | (cases h; done) | skip
    rename_i a
    split at h
    · rename_i c its n sl hk
      obtain ⟨h1, h⟩ := Bool.and_eq_true_iff.mp h
      obtain ⟨h2, h3⟩ := Bool.and_eq_true_iff.mp h
      obtain ⟨vs, r, hr⟩ := repBL_ok xs its.toList h3
      have h1 := of_decide_eq_true h1
      subst h1
      refine ⟨.ref a, rfl, fun ρ H => ?_⟩
      simp only [rep]
      exact ⟨a, vs, rfl, (show FzT g.K a vs from ⟨_, its, n, hk, rfl, rfl, rfl, Nat.le_of_ble_eq_true h2, r⟩), hr ρ H⟩
    · cases h
  | .fn i, u, h => by
    cases u <;> simp only [repB] at h <;> first | (cases h; done) | skip
    rename_i a
    obtain ⟨h1, h2⟩ := Bool.and_eq_true_iff.mp h
    have h2 := of_decide_eq_true h2
    exact ⟨.ref a, rfl, fun _ _ => by simp only [rep]; exact ⟨Nat.le_of_ble_eq_true h1, by rw [h2]⟩⟩
  | .cd i, u, h => by
    cases u <;> simp only [repB] at h <;> first | (cases h; done) | skip
    rename_i a
    have h2 := of_decide_eq_true h
    exact ⟨.ref a, rfl, fun _ _ => by simp only [rep]; rw [h2]⟩
theorem repBL_ok {g : Pl} : ∀ (ds : List D) (us : List Value), repBL g.K g.nf g.fnA g.cdA ds us = true → ∃ vs, Vals vs us ∧ ∀ ρ H, repL g ρ H ds vs
  | [], us, h => by
    cases us <;> simp only [repBL] at h <;> first | (cases h; done) | skip
    exact ⟨[], .nil, fun _ _ => by simp only [repL]⟩
  | x :: xs, us, h => by
    cases us <;> simp only [repBL] at h <;> first | (cases h; done) | skip
    rename_i u us
    obtain ⟨h1, h2⟩ := Bool.and_eq_true_iff.mp h
    obtain ⟨v, r, hr⟩ := repB_ok x u h1
    obtain ⟨vs, rs, hrs⟩ := repBL_ok xs us h2
    exact ⟨v :: vs, .cons r rs, fun ρ H => by simp only [repL]; exact ⟨v, vs, rfl, hr ρ H, hrs ρ H⟩⟩
end
theorem gloB_ok {K : PySem.W.Frag} {h : Heap} {mg : Str → Option Value} (X : K.In h) (G : h.Ns mainGlobals mg) {x : Str} {f : Value → Bool} (c : gloB K x f = true) : ∃ u, mg x = some u ∧ f u = true := by
  unfold gloB at c
  split at c
  · rename_i u e
    exact ⟨u, PySem.W.mg_of X G e, c⟩
  · cases c
theorem refB_ok {a : Addr} {u : Value} (h : refB a u = true) : u = .ref a := by
  cases u <;> simp only [refB] at h <;> first | (cases h; done) | skip
  rw [of_decide_eq_true h]
/-! ### binding -/
theorem zip_look : ∀ {ns : List Str} {us : List Value} {n : Str}, us.length = ns.length → n ∈ ns → ((ns.zip us).lookup n).isNone = false
  | [], us, n, h, hn => by cases hn
  | x :: ns, [], n, h, hn => by simp at h
  | x :: ns, u :: us, n, h, hn => by
    rw [List.zip_cons_cons, List.lookup_cons]
    cases q : (n == x) with
    | true => rfl
    | false =>
      have hne : n ≠ x := fun e => by rw [e, beq_self_eq_true] at q; cases q
      exact zip_look (by simpa using h) ((List.mem_cons.mp hn).resolve_left hne)
theorem fm_congr {α β : Type} {f g : α → Option β} : ∀ {l : List α}, (∀ n ∈ l, f n = g n) → l.filterMap f = l.filterMap g
  | [], _ => rfl
  | x :: l, h => by
    rw [List.filterMap_cons, List.filterMap_cons, h x (List.mem_cons_self ..), fm_congr fun n hn => h n (List.mem_cons_of_mem _ hn)]
theorem zip_fm : ∀ {ns : List Str} {us : List Value}, ns.Nodup → us.length = ns.length → ns.filterMap (fun n => ((ns.zip us).lookup n).map (n, ·)) = ns.zip us
  | [], us, _, h => rfl
  | x :: ns, [], _, h => by simp at h
  | x :: ns, u :: us, nd, h => by
    obtain ⟨n1, n2⟩ := List.nodup_cons.mp nd
    rw [List.zip_cons_cons, List.filterMap_cons, List.lookup_cons, beq_self_eq_true]
    simp only [Option.map_some]
    congr 1
    refine Eq.trans (fm_congr fun n hn => ?_) (zip_fm n2 (by simpa using h))
    have hne : (n == x) = false := by
      cases q : (n == x) with
      | false => rfl
      | true => rw [beq_iff_eq.mp q] at hn; exact absurd hn n1
    rw [List.lookup_cons, hne]
theorem bind_plain {fd : FuncData} (h1 : fd.params.posonlyargs = []) (h2 : fd.params.kwonlyargs = []) (h3 : fd.params.vararg = none) (h4 : fd.params.kwarg = none) (h5 : fd.defaults = .none) (nd : (fd.params.args.map (·.arg)).Nodup) (us : List Value) (hl : us.length = (fd.params.args.map (·.arg)).length) :
    bindArgs fd ⟨us, []⟩ = pure ((fd.params.args.map (·.arg)).zip us) := by
  have hm : ((fd.params.args.map (·.arg)).filter fun n => (((fd.params.args.map (·.arg)).zip us).lookup n).isNone) = [] := List.filter_eq_nil_iff.mpr fun n hn => by
    rw [zip_look hl hn]; simp
  have hf := zip_fm nd hl
  unfold bindArgs
  simp only [h1, h2, h3, h4, h5, List.map_nil, List.nil_append, List.append_nil]
  generalize fd.params.args.map (·.arg) = ns at *
  have hs : seqItems? Value.none = pure none := rfl
  have hg : ¬ (us.length > ns.length) := by omega
  simp only [List.forIn_nil, pure_bind, hs, Option.getD_none, List.length_nil, Nat.sub_zero, Nat.zero_sub, List.drop_nil, List.take_length, hm, hg, hf, false_and, if_false, List.isEmpty_nil, Bool.not_true, Bool.false_eq_true, List.drop_length, List.zip_nil_right, Array.toList_empty, List.zip_nil_left, Option.isNone_none, decide_false, Bool.false_and]
/-! ### defs at written addresses -/
theorem Da.funD {K : PySem.W.Frag} {d : Da} (e : fnWA K d.a = d.val) (c : d.ok K = true) : ∃ fd, FunD K d.name d.qual d.params d.body d.scope [] [] d.a fd := by
  unfold fnWA at e
  unfold Da.ok at c
  cases q : K.lookup d.a with
  | none =>
    rw [q] at c
    cases c
  | some o =>
    obtain ⟨oc, od, dt, osl⟩ := o
    rw [q] at c e
    cases dt with
    | func fd =>
      obtain ⟨n1, n2, n3, n4, n5, n6, n7, n8, n9, n10, n11, n12, n13, n14, n15⟩ := fd
      have e2 : (some (n1, n2, n3, n4, n5, n6, n7, n15) : He.FnW) = some (d.name, d.qual, d.params, .stmts d.body, d.scope, mainGlobals, [], builtinsNs) := e
      simp only [Option.some.injEq, Prod.mk.injEq] at e2
      obtain ⟨h1, h2, h3, h4, h5, h6, h7, h8⟩ := e2
      subst h1 h2 h3 h4 h5 h6 h7 h8
      have c3 : (PySem.W.codeIn K n13 d.qual && (He.dflB K n8 [] && He.kwdB K n9 [])) = true := c
      obtain ⟨k1, k2⟩ := He.ba c3
      obtain ⟨k3, k4⟩ := He.ba k2
      exact ⟨_, ⟨oc, od, n8, n9, n10, n11, n12, n13, n14, osl, rfl, q, k1, He.dflB_ok k3, He.kwdB_ok k4⟩, by simp only [PySem.W.keepIn, q]⟩
    | _ => cases c
/-- parameters without defaults, stars, keyword-only -/
def plainB (p : Arguments) (ps : List Str) : Bool := p.posonlyargs.isEmpty && (p.kwonlyargs.isEmpty && (p.vararg.isNone && (p.kwarg.isNone && (decide (p.args.map (·.arg) = ps) && decide ps.Nodup))))
theorem plainB_ok {K : PySem.W.Frag} {x qual : Str} {params : Arguments} {body : List Stmt} {scope : Scope} {f : Addr} {fd : FuncData} {ps : List Str} (F : FunD K x qual params body scope [] [] f fd) (h : plainB params ps = true) :
    Binds K fd ps [] ∧ ∀ (s : Shared) (us : List Value), us.length = ps.length → BindsTo s fd ⟨us, []⟩ (ps.zip us) := by
  obtain ⟨h1, h⟩ := He.ba h
  obtain ⟨h2, h⟩ := He.ba h
  obtain ⟨h3, h⟩ := He.ba h
  obtain ⟨h4, h⟩ := He.ba h
  obtain ⟨h5, h6⟩ := He.ba h
  have h5 := of_decide_eq_true h5
  have h6 := of_decide_eq_true h6
  subst h5
  have key : ∀ (kV doc pm : Value) (an : Option Addr) (cdv ct : Value) (us : List Value), us.length = (params.args.map (·.arg)).length → bindArgs (PySem.W.fnOf x qual params body scope .none kV doc pm an cdv ct) ⟨us, []⟩ = pure ((params.args.map (·.arg)).zip us) := fun kV doc pm an cdv ct us hl =>
    bind_plain (fd := PySem.W.fnOf x qual params body scope .none kV doc pm an cdv ct) (List.isEmpty_iff.mp h1) (List.isEmpty_iff.mp h2) (Option.isNone_iff_eq_none.mp h3) (Option.isNone_iff_eq_none.mp h4) rfl h6 us hl
  exact ⟨F.bindsN key, F.bindsA key⟩
def scopeB (N ps : List Str) (sc : Scope) : Bool := (match sc.kind with | .function => true | _ => false) && (!sc.isCoroutine && (!sc.isGenerator && (decide N.Nodup && (decide (N.take ps.length = ps) &&
  ((ps.all fun x => match sc.names.lookup x with | some .local => true | some .cell => true | _ => false) && sc.names.all fun y => match y.2 with | .free => false | _ => true)))))
theorem scopeB_ok {N ps : List Str} {sc : Scope} (h : scopeB N ps sc = true) : FnScope N ps sc := by
  obtain ⟨h1, h⟩ := He.ba h
  obtain ⟨h2, h⟩ := He.ba h
  obtain ⟨h3, h⟩ := He.ba h
  obtain ⟨h4, h⟩ := He.ba h
  obtain ⟨h5, h⟩ := He.ba h
  obtain ⟨h6, h7⟩ := He.ba h
  refine ⟨?_, by simpa using h2, by simpa using h3, of_decide_eq_true h4, of_decide_eq_true h5, fun x hx => ?_, fun y hy e => ?_⟩
  · split at h1
    · assumption
    · cases h1
  · have := List.all_eq_true.mp h6 x hx
    split at this
    · exact .inl (by assumption)
    · exact .inr (by assumption)
    · cases this
  · have := List.all_eq_true.mp h7 y hy
    rw [e] at this
    cases this
/-! ### dicts -/
theorem keys_none {P : Params} {z : Str} : ∀ {l : List DictEntry} {ks : List Str}, l.map He.keyOf = He.keysIn P ks → z ∉ ks → l.find? (·.key.isStr z) = none ∧ l.any (·.refKey) = false
  | [], _, _, _ => ⟨rfl, rfl⟩
  | e :: r, [], h, _ => by cases h
  | e :: r, k :: ks, h, hz => by
    have h1 : He.keyOf e :: r.map He.keyOf = some (k, PyData.keyHash P k) :: He.keysIn P ks := h
    injection h1 with h2 h3
    simp only [List.mem_cons, not_or] at hz
    obtain ⟨r1, r2⟩ := keys_none h3 hz.2
    unfold He.keyOf at h2
    split at h2
    · rename_i x t q
      have h4 := Option.some.inj h2
      obtain ⟨h5, _⟩ := Prod.mk.inj h4
      subst h5
      have q1 : e.key.isStr z = false := by
        rw [q]
        show (x == z) = false
        cases b : (x == z) with
        | false => rfl
        | true => exact absurd (beq_iff_eq.mp b).symm hz.1
      have q2 : e.refKey = false := by unfold DictEntry.refKey; rw [q]
      exact ⟨by rw [List.find?_cons, q1]; exact r1, by rw [List.any_cons, q2, r2]; rfl⟩
    · cases h2
theorem ns_all {K : PySem.W.Frag} {w : World} {a : Addr} {ks : List Str} (h : He.dicW K a = some (He.keysIn w.params ks)) {z : Str} (hz : z ∉ ks) : PySem.W.nsIn K a z = some none := by
  unfold He.dicW at h
  split at h
  · rename_i c es n sl hk
    split at h
    · obtain ⟨r1, r2⟩ := keys_none (Option.some.inj h) hz
      unfold PySem.W.nsIn
      rw [hk]
      simp only [r1, r2, Bool.false_eq_true, if_false]
    · cases h
  · cases h
theorem cd_ok {g : Pl} {w : World} {a : Addr} {kvs : List (Txt × D)} (h : He.dicW g.K a = some (He.keysIn w.params (kvs.map fun p => mkS p.1))) (hv : cdB g.K g.nf g.fnA g.cdA a kvs = true) :
    ∃ (es : Array DictEntry) (n : Nat), KDict g.K w a es n ∧ ∀ z : Txt, ∃ r, PySem.W.nsIn g.K a (mkS z) = some r ∧ r.isSome = (kvs.any fun p => decide (p.1 = z)) ∧
      ∀ d, (kvs.find? fun p => decide (p.1 = z)).map (·.2) = some d → ∃ u v, r = some u ∧ RelV v u ∧ ∀ ρ H, rep g ρ H d v := by
  obtain ⟨es, n, kd⟩ := He.dicW_ok h
  refine ⟨es, n, kd, fun z => ?_⟩
  cases hf : kvs.find? (fun p => decide (p.1 = z)) with
  | none =>
    have hn : ∀ p ∈ kvs, p.1 ≠ z := fun p hp e => by
      have := List.find?_eq_none.mp hf p hp
      simp [e] at this
    have hz : mkS z ∉ kvs.map fun p => mkS p.1 := fun hm => by
      obtain ⟨p, hp, e⟩ := List.mem_map.mp hm
      have : p.1 = z := by
        have := congrArg (fun s : Str => s.cps.toList) e
        simpa [mkS] using this
      exact hn p hp this
    refine ⟨none, ns_all h hz, ?_, fun d hd => by cases hd⟩
    symm
    simp only [Option.isSome_none, List.any_eq_false, decide_eq_true_eq]
    exact fun p hp => hn p hp
  | some p =>
    have hp := List.mem_of_find?_eq_some hf
    have hz : p.1 = z := by simpa using List.find?_some hf
    have hb := List.all_eq_true.mp hv p hp
    rw [hz] at hb
    split at hb
    · rename_i u hu
      obtain ⟨v, r, hr⟩ := repB_ok _ _ hb
      refine ⟨some u, hu, ?_, fun d hd => ?_⟩
      · symm
        simp only [Option.isSome_some, List.any_eq_true, decide_eq_true_eq]
        exact ⟨p, hp, hz⟩
      · simp only [Option.map_some, Option.some.injEq] at hd
        subst hd
        exact ⟨u, v, rfl, r, hr⟩
    · cases hb
/-! ### classes of exceptions -/
theorem oexB_ok {K : PySem.W.Frag} {C : Addr} (h : oexB K C = true) : OexC K C := by
  obtain ⟨q, h⟩ := He.ba h
  obtain ⟨h1, h⟩ := He.ba h
  obtain ⟨h2, h⟩ := He.ba h
  obtain ⟨h3, h4⟩ := He.ba h
  refine ⟨?_, He.eqO_ok h1, of_decide_eq_true h2, of_decide_eq_true h3, h4⟩
  split at q
  · rename_i dd cd sl ho
    split at q
    · rename_i C' bm k0 k1 k2 k3 n k5 hm hs
      simp only [Bool.and_eq_true, beq_iff_eq, Bool.not_eq_true'] at q
      obtain ⟨⟨⟨⟨rfl, rfl⟩, hdel⟩, hdict⟩, ht⟩ := q
      obtain ⟨nm, bs, mro, ns, qn, hd, sn, sub, ab, col, del⟩ := cd
      dsimp only at hm hdel hdict
      subst hm hdel hdict
      have hsl : sl = #[k0, k1, k2, k3, some (.builtin "ValueError.__new__"), k5] := by
        obtain ⟨l⟩ := sl
        simp only at hs
        rw [hs]
      subst hsl
      exact ⟨nm, qn, ns, bs, bm, sn, sub, ab, col, dd, k0, k1, k2, k3, k5, ho, ht⟩
    · cases q
  · cases q
end Ev
end
section
set_option Elab.async false
set_option linter.all false
set_option maxRecDepth 100000
set_option autoImplicit false
/-! An own class's __init__ that stores its arguments. -/
namespace Ev
open PySem PySem.Spec PyProof.Rows L2
def oneB (N : List Str) (sc : Scope) (j : Nat) (f : Str) : Stmt → Bool
  | .Assign [.Attribute (.Name s _) f' _] (.Name x _) _ => decide (N[0]? = some s) && (decide (N[j]? = some x) && (decide (f' = f) && (isLoc sc s && (isLoc sc x && (!odd s && !odd x)))))
  | _ => false
def tIn (K : PySem.W.Frag) : Nat → List Str → TS
  | _, [] => tNext
  | j, f :: fs => tSeq (tOst K f (tVar 0) (tVar j)) (tIn K (j + 1) fs)
def initB (N : List Str) (sc : Scope) : Nat → List Str → List Stmt → Bool
  | _, [], [] => true
  | j, f :: fs, st :: r => oneB N sc j f st && initB N sc (j + 1) fs r
  | _, _, _ => false
section
variable {X : Cx} {N : List Str} {sc : Scope}
theorem one_ps (hN : X.N = N) (hv : ∀ x, isLoc sc x = true → Vis X.env.scope x) {j : Nat} {f : Str} {st : Stmt} (h : oneB N sc j f st = true) : PS X st (tOst X.K f (tVar 0) (tVar j)) := by
  unfold oneB at h
  split at h
  · rename_i s p1 f' p2 x p3 pos
    obtain ⟨h1, h⟩ := He.ba h
    obtain ⟨h2, h⟩ := He.ba h
    obtain ⟨h3, h⟩ := He.ba h
    obtain ⟨h4, h⟩ := He.ba h
    obtain ⟨h5, h⟩ := He.ba h
    obtain ⟨h6, h7⟩ := He.ba h
    have h1 := of_decide_eq_true h1
    have h2 := of_decide_eq_true h2
    have h3 := of_decide_eq_true h3
    subst h3
    have o1 := odd_of (by simpa using h6 : odd s = false)
    have o2 := odd_of (by simpa using h7 : odd x = false)
    exact ps_ost (pe_var (by rw [hN]; exact h1) (hv _ h4) o1.1 o1.2.1) (pe_var (by rw [hN]; exact h2) (hv _ h5) o2.1 o2.2.1)
  · cases h
theorem init_pss (hN : X.N = N) (hv : ∀ x, isLoc sc x = true → Vis X.env.scope x) : ∀ {j : Nat} {fs : List Str} {body : List Stmt}, initB N sc j fs body = true → PSs X body (tIn X.K j fs)
  | j, [], [], _ => pss_nil
  | j, [], _ :: _, h => by simp [initB] at h
  | j, _ :: _, [], h => by simp [initB] at h
  | j, f :: fs, st :: r, h => by
    obtain ⟨h1, h2⟩ := He.ba (show (oneB N sc j f st && initB N sc (j + 1) fs r) = true from h)
    exact pss_cons (one_ps hN hv h1) (init_pss hN hv h2)
end
/-- the dict behind the stores -/
def finD : List Str → List V → List (Str × V) → List (Str × V)
  | f :: fs, w :: ws, done => finD fs ws ((f, w) :: done)
  | _, _, done => done
theorem fin_out : ∀ {fs : List Str} {ws : List V} {done : List (Str × V)} {f : Str}, f ∉ fs → (finD fs ws done).lookup f = done.lookup f
  | [], ws, done, f, _ => rfl
  | g :: fs, [], done, f, _ => rfl
  | g :: fs, w :: ws, done, f, h => by
    simp only [List.mem_cons, not_or] at h
    show (finD fs ws ((g, w) :: done)).lookup f = _
    rw [fin_out h.2, List.lookup_cons]
    have : (f == g) = false := by
      cases q : (f == g) with
      | false => rfl
      | true => exact absurd (beq_iff_eq.mp q) h.1
    rw [this]
theorem fin_at : ∀ {fs : List Str} {ws : List V} {done : List (Str × V)} {i : Nat} {f : Str}, fs.Nodup → ws.length = fs.length → fs[i]? = some f → ∃ v, ws[i]? = some v ∧ (finD fs ws done).lookup f = some v
  | [], ws, done, i, f, _, _, h => by simp at h
  | g :: fs, [], done, i, f, _, hl, _ => by simp at hl
  | g :: fs, w :: ws, done, i, f, nd, hl, h => by
    obtain ⟨n1, n2⟩ := List.nodup_cons.mp nd
    show ∃ v, _ ∧ (finD fs ws ((g, w) :: done)).lookup f = some v
    cases i with
    | zero =>
      simp at h
      subst h
      exact ⟨w, rfl, by rw [fin_out n1, List.lookup_cons, beq_self_eq_true]⟩
    | succ i =>
      obtain ⟨v, h1, h2⟩ := fin_at (done := (g, w) :: done) n2 (by simpa using hl) (by simpa using h)
      exact ⟨v, by simpa using h1, h2⟩
theorem in_old {K : PySem.W.Frag} {D : Ends} {σ : L2.St} {a C dx : Addr} (T : OexC K C) (s0 : σ[0]? = some (some (.ref a))) (ne : dx ≠ a) : ∀ {fs : List Str} {ws : List V} {done : List (Str × V)} {j : Nat} {H : Hp},
    (∀ f ∈ fs, PySem.W.findIn K (.ref C) f = some none) → ws.length = fs.length → (∀ i w, ws[i]? = some w → σ[j + i]? = some (some w)) → done.length + fs.length ≤ 900 → H a = some (exo a C (some dx)) → H dx = some (exd dx done) →
    (∀ H2, H2 a = some (exo a C (some dx)) → H2 dx = some (exd dx (finD fs ws done)) → (∀ b, b ≠ dx → H2 b = H b) → D.nx σ H2) → tIn K j fs D σ H
  | [], ws, done, j, H, _, _, _, _, ha, hd, q => q H ha hd fun _ _ => rfl
  | f :: fs, [], done, j, H, _, hl, _, _, _, _, _ => by simp at hl
  | f :: fs, w :: ws, done, j, H, hf, hl, hw, hn, ha, hd, q => by
    refine ⟨w, hw 0 w rfl, .ref a, s0, a, C, rfl, T, hf f (List.mem_cons_self ..), .inr ⟨dx, done, ha, hd, by simp at hn; omega, ?_⟩⟩
    refine in_old T s0 ne (done := (f, w) :: done) (fun g hg => hf g (List.mem_cons_of_mem _ hg)) (by simpa using hl) (fun i w' h => ?_) (by simp at hn ⊢; omega) (by rw [upd_ne ne.symm]; exact ha) (by rw [upd_same]) fun H2 h1 h2 h3 => q H2 h1 h2 fun b hb => by rw [h3 b hb, upd_ne hb]
    have := hw (i + 1) w' (by simpa using h)
    rw [show j + 1 + i = j + (i + 1) by omega]
    exact this
/-- C's own __init__ -/
theorem init_ok {P : Program} {w : World} {K : PySem.W.Frag} {mg : Str → Option Value} {base : Heap} {g : Pl} {ef : List (List Str)} {c : Nat} {x qual self : Str} {params : Arguments} {body : List Stmt} {sc : Scope} {f : Addr} {fd : FuncData}
    (F : FunD K x qual params body sc [] [] f fd) (hs : scopeB (self :: ef.getD c []) (self :: ef.getD c []) sc = true) (hb : initB (self :: ef.getD c []) sc 1 (ef.getD c []) body = true) (T : OexC K (g.exA c)) (hf : ∀ f ∈ ef.getD c [], PySem.W.findIn K (.ref (g.exA c)) f = some none) (h1 : ef.getD c [] ≠ []) (h2 : Nat.ble (ef.getD c []).length 100 = true) :
    FnOk P w K mg base (L2N.CX P w) 2 f fd (self :: ef.getD c []) (spI g ef c) := by
  have S := scopeB_ok hs
  have nd : (ef.getD c []).Nodup := (List.nodup_cons.mp S.nd).2
  have hle := Nat.le_of_ble_eq_true h2
  refine F.ok (k := 1) S (fun vs H Q E h => ?_) fun cdv A outer s H vs Q E hr hsp => ?_
  · obtain ⟨a, args, rfl, hl, _⟩ := h
    simp [hl]
  · obtain ⟨a, args, rfl, hl, ha, q⟩ := hsp
    have hv : ∀ y, isLoc sc y = true → Vis (cxOf (L2N.CX P w) P w K mg base (self :: ef.getD c []) qual sc f cdv A outer s H E).env.scope y := fun y h => by
      unfold isLoc at h
      show sc.names.lookup y = _ ∨ sc.names.lookup y = _ ∨ sc.names.lookup y = _
      split at h
      · exact .inl (by assumption)
      · exact .inr (.inl (by assumption))
      · exact .inr (.inr (by assumption))
      · cases h
    refine ⟨_, init_pss (X := cxOf (L2N.CX P w) P w K mg base (self :: ef.getD c []) qual sc f cdv A outer s H E) (N := self :: ef.getD c []) rfl hv hb, ?_⟩
    show tIn K 1 (ef.getD c []) _ _ H
    have hst : ∀ (i : Nat) (v : V), (V.ref a :: args)[i]? = some v → (L2.start (self :: ef.getD c []) (V.ref a :: args))[i]? = some (some v) := fun i v h => by
      unfold L2.start
      rw [List.getElem?_append_left (by simpa using (List.getElem?_eq_some_iff.mp h).1), List.getElem?_map, h]
      rfl
    generalize L2.start (self :: ef.getD c []) (V.ref a :: args) = σ at hst
    cases hfs : ef.getD c [] with
    | nil => exact absurd hfs h1
    | cons f1 fr =>
      rw [hfs] at hl hf nd q hle
      cases args with
      | nil => simp at hl
      | cons w1 wr =>
        refine ⟨w1, hst 1 w1 rfl, .ref a, hst 0 _ rfl, a, _, rfl, T, hf f1 (List.mem_cons_self ..), .inl ⟨ha, fun dx n ne => ?_⟩⟩
        refine in_old T (hst 0 _ rfl) ne (ws := wr) (done := [(f1, w1)]) (fun g hg => hf g (List.mem_cons_of_mem _ hg)) (by simpa using hl) (fun i w' h => ?_) (by simp at hle ⊢; omega) (by rw [upd_same]) (by rw [upd_ne ne, upd_same]) fun H2 k1 k2 k3 => ?_
        · have := hst (i + 2) w' (by simpa using h)
          rw [show 1 + 1 + i = i + 2 by omega]
          exact this
        · refine q H2 dx _ n ne k1 k2 (fun b hb hd => by rw [k3 b hd, upd_ne hb, upd_ne hd]) fun i f' h => ?_
          exact fin_at (fs := f1 :: fr) (ws := w1 :: wr) (done := []) nd hl h
end Ev
end
section
set_option Elab.async false
set_option linter.all false
set_option maxRecDepth 100000
set_option autoImplicit false
/-! From a law's table and what is seen behind the top to Md. -/
namespace Ev
open PySem PySem.Spec PyProof.Rows L2
def Tb.pl (t : Tb) (K : PySem.W.Frag) : Pl := ⟨K, t.fns.length, t.fnA, t.cdA, t.exA⟩
def Tb.T (t : Tb) : TC := ⟨[], t.fns, t.cons, t.exs, t.hots, true⟩
def Tb.fl (t : Tb) : List Fn := (t.slots.zip t.defs).map fun p => ⟨p.1.1, p.1.2.length, trSs ⟨p.1.2, t.fns, t.cons, t.exs, t.hots, true⟩ t.ef 100 p.2.scope p.2.body⟩
def Tb.flh (t : Tb) : List Fn := (t.slots.zip t.defs).map fun p => ⟨p.1.1, p.1.2.length, trSs ⟨p.1.2, t.fns, t.cons, t.exs, [], false⟩ t.ef 100 p.2.scope p.2.body⟩
def Tb.tbh (t : Tb) : Nat → Option Fn := fun i => t.flh[i]?
def Tb.tb (t : Tb) : Nat → Option Fn := fun i => t.fl[i]?
/-- of one def: its slots -/
def defB (p : (Nat × List Str) × Da) : Bool := Nat.ble p.1.1 p.1.2.length && (scopeB p.1.2 (p.1.2.take p.1.1) p.2.scope && plainB p.2.params (p.1.2.take p.1.1))
/-- of one class with fields: its __init__ -/
def iniB (ef : List (List Str)) (c : Nat) (d : Da) : Bool := (ef.getD c []).isEmpty || (scopeB ("self" :: ef.getD c []) ("self" :: ef.getD c []) d.scope && (plainB d.params ("self" :: ef.getD c []) && (initB ("self" :: ef.getD c []) d.scope 1 (ef.getD c []) d.body && Nat.ble (ef.getD c []).length 100)))
/-- what the table alone must be -/
def Tb.okT (t : Tb) : Bool := decide (t.slots.length = t.fns.length) && (decide (t.defs.length = t.fns.length) && (decide (t.ini.length = t.exs.length) && (decide (t.ef.length = t.exs.length) && ((t.slots.zip t.defs).all defB && (t.ini.zipIdx.all fun p => iniB t.ef p.2 p.1)))))
theorem zipIdx_mem {α : Type} {l : List α} {i : Nat} {x : α} (h : l[i]? = some x) : (x, i) ∈ l.zipIdx := by
  rw [List.mem_zipIdx_iff_getElem?]
  exact h
theorem all_at {α : Type} {l : List α} {f : α → Bool} (h : l.all f = true) {x : α} (hx : x ∈ l) : f x = true := List.all_eq_true.mp h x hx
theorem lookup_mem {x : Str} {d : D} : ∀ {l : List (Str × D)}, l.lookup x = some d → (x, d) ∈ l
  | [], h => by simp at h
  | (y, e) :: l, h => by
    rw [List.lookup_cons] at h
    cases q : (x == y) with
    | true =>
      rw [q] at h
      cases h
      rw [beq_iff_eq.mp q]
      exact List.mem_cons_self ..
    | false =>
      rw [q] at h
      exact List.mem_cons_of_mem _ (lookup_mem h)
theorem md0_of (t : Tb) {P : Program} {w : World} {K : PySem.W.Frag} {mg : Str → Option Value} {base : Heap} (hT : t.okT = true) (hsub : ∀ c j b, t.sub c j = some b → (c, j, b) ∈ t.subs) (X : K.In base) (G : base.Ns mainGlobals mg) (hK : t.okK K = true) (ho : t.obs K = t.val w) :
    Md0 P w K mg base (t.pl K) t.T t.np t.ef t.cds t.sub t.tb t.tbh := by
  obtain ⟨a1, hT⟩ := He.ba hT
  obtain ⟨a2, hT⟩ := He.ba hT
  obtain ⟨a3, hT⟩ := He.ba hT
  obtain ⟨a4, hT⟩ := He.ba hT
  obtain ⟨a5, a6⟩ := He.ba hT
  have a1 := of_decide_eq_true a1
  have a2 := of_decide_eq_true a2
  have a3 := of_decide_eq_true a3
  have a4 := of_decide_eq_true a4
  obtain ⟨hN, hK⟩ := He.ba hK
  obtain ⟨hD, hE⟩ := He.ba hK
  obtain ⟨b1, hN⟩ := He.ba hN
  obtain ⟨b2, hN⟩ := He.ba hN
  obtain ⟨b3, hN⟩ := He.ba hN
  obtain ⟨b4, b7⟩ := He.ba hN
  obtain ⟨b5, b6⟩ := He.ba hD
  obtain ⟨b8, b9⟩ := He.ba hE
  have o1 : t.defs.map (fun d => fnWA K d.a) = t.defs.map Da.val := congrArg (fun z : (List He.FnW × List He.FnW) × List (Option (List (Option (Str × Int)))) => z.1.1) ho
  have o2 : (t.ini.zipIdx.map fun p => if (t.ef.getD p.2 []).isEmpty then none else fnWA K p.1.a) = t.ini.zipIdx.map fun p => if (t.ef.getD p.2 []).isEmpty then none else p.1.val := congrArg (fun z : (List He.FnW × List He.FnW) × List (Option (List (Option (Str × Int)))) => z.1.2) ho
  have o3 : (t.cdl.zipIdx.map fun p => He.dicW K (t.cdA p.2)) = t.cdl.map fun kvs => some (He.keysIn w.params (kvs.map fun p => mkS p.1)) := congrArg (fun z : (List He.FnW × List He.FnW) × List (Option (List (Option (Str × Int)))) => z.2) ho
  have cls : ∀ c x, t.exs[c]? = some x → (t.ef.getD c []) ≠ [] → ∃ d, t.ini[c]? = some d ∧ (t.ef.getD c []).isEmpty = false := fun c x hx hne => by
    have hc : c < t.ini.length := by rw [a3]; exact (List.getElem?_eq_some_iff.mp hx).1
    exact ⟨_, List.getElem?_eq_getElem hc, by cases q : t.ef.getD c [] with | nil => exact absurd q hne | cons _ _ => rfl⟩
  refine ⟨rfl, rfl, rfl, fun x d h => ?_, fun i x h => ?_, fun x h => ?_, ?_, fun i kvs h => ?_, fun i hi => ?_, fun i hi => ?_, fun c x h => ?_, fun c x h hne => ?_, fun c j b h => ?_, fun c x h hne => ?_, fun c hc => ?_⟩
  · obtain ⟨u, hu, r⟩ := gloB_ok X G (all_at b1 (lookup_mem h))
    obtain ⟨v, rv, hr⟩ := repB_ok (g := t.pl K) d u r
    exact ⟨u, v, hu, rv, hr⟩
  · obtain ⟨u, hu, r⟩ := gloB_ok X G (all_at b2 (zipIdx_mem h))
    rw [hu, refB_ok r]
    rfl
  · exact PySem.W.mg_none_of X G (He.eqO_ok (all_at b3 h))
  · obtain ⟨u, hu, r⟩ := gloB_ok X G b4
    rw [hu, of_decide_eq_true r]
  · have h : t.cdl[i]? = some kvs := h
    have hz : t.cdl.zipIdx[i]? = some (kvs, i) := by rw [List.getElem?_zipIdx, h]; simp
    have e := congrArg (fun l : List (Option (List (Option (Str × Int)))) => l[i]?) o3
    simp only [List.getElem?_map, hz, Option.map_some, h, Option.some.injEq] at e
    exact cd_ok (g := t.pl K) e (all_at b5 (zipIdx_mem h))
  · have hd : i < t.defs.length := by rw [a2]; exact hi
    have hs : i < t.slots.length := by rw [a1]; exact hi
    have h1 : t.defs[i]? = some t.defs[i] := List.getElem?_eq_getElem hd
    have h2 : t.slots[i]? = some t.slots[i] := List.getElem?_eq_getElem hs
    generalize t.defs[i] = d at h1
    generalize t.slots[i] = sl at h2
    have hz : (t.slots.zip t.defs)[i]? = some (sl, d) := by rw [List.getElem?_zip_eq_some]; exact ⟨h2, h1⟩
    have hb : defB (sl, d) = true := all_at a5 (List.mem_of_getElem? hz)
    obtain ⟨c1, hb⟩ := He.ba hb
    obtain ⟨c2, c3⟩ := He.ba hb
    have c1 := Nat.le_of_ble_eq_true c1
    have e := congrArg (fun l : List He.FnW => l[i]?) o1
    simp only [List.getElem?_map, h1, Option.map_some, Option.some.injEq] at e
    obtain ⟨fd, F⟩ := Da.funD e (all_at b6 (List.mem_of_getElem? h1))
    have ef : (t.pl K).fnA i = d.a := by show t.fnA i = _; unfold Tb.fnA; rw [h1]
    have lp : (sl.2.take sl.1).length = sl.1 := by rw [List.length_take]; exact Nat.min_eq_left c1
    refine ⟨sl.2, sl.2.take sl.1, d.qual, d.params, d.body, d.scope, fd, d.name, by rw [ef]; exact F, scopeB_ok c2, (plainB_ok F c3).1, ?_, by rw [lp]; exact c1, ?_, ?_⟩
    · rw [lp]
      show t.np i = _
      unfold Tb.np
      rw [h2]
    · show t.fl[i]? = _
      unfold Tb.fl
      rw [List.getElem?_map, hz, lp]
      rfl
    · show t.flh[i]? = _
      unfold Tb.flh
      rw [List.getElem?_map, hz, lp]
      rfl
  · show t.fl[i]? = none
    refine List.getElem?_eq_none ?_
    unfold Tb.fl
    rw [List.length_map, List.length_zip, a1, a2, Nat.min_self]
    exact hi
  · obtain ⟨u, hu, r⟩ := gloB_ok X G (all_at b7 (zipIdx_mem h))
    rw [hu, refB_ok r]
    rfl
  · obtain ⟨d, hd, hemp⟩ := cls c x h hne
    have hm := zipIdx_mem hd
    have k := all_at b8 hm
    simp only [hemp, Bool.false_or] at k
    obtain ⟨k1, k⟩ := He.ba k
    obtain ⟨k2, k⟩ := He.ba k
    obtain ⟨k3, k⟩ := He.ba k
    obtain ⟨k4, k⟩ := He.ba k
    obtain ⟨k5, k6⟩ := He.ba k
    have tb := all_at a6 hm
    unfold iniB at tb
    simp only [hemp, Bool.false_or] at tb
    obtain ⟨t1, tb⟩ := He.ba tb
    obtain ⟨t2, tb⟩ := He.ba tb
    obtain ⟨t3, t4⟩ := He.ba tb
    have hz : t.ini.zipIdx[c]? = some (d, c) := by rw [List.getElem?_zipIdx, hd]; simp
    have e := congrArg (fun l : List He.FnW => l[c]?) o2
    simp only [List.getElem?_map, hz, Option.map_some, hemp, Bool.false_eq_true, if_false, Option.some.injEq] at e
    obtain ⟨fd, F⟩ := Da.funD e k1
    refine ⟨d.a, fd, _, oexB_ok k2, He.eqO_ok k4, of_decide_eq_true k5, init_ok F t1 t3 (oexB_ok k2) (fun f hf => He.eqO_ok (all_at k6 hf)) hne t4, (plainB_ok F t2).1⟩
  · exact of_decide_eq_true (all_at b9 (hsub c j b h))
  · obtain ⟨d, hd, hemp⟩ := cls c x h hne
    have k := all_at b8 (zipIdx_mem hd)
    simp only [hemp, Bool.false_or] at k
    obtain ⟨k1, k⟩ := He.ba k
    obtain ⟨k2, k⟩ := He.ba k
    obtain ⟨k3, k⟩ := He.ba k
    obtain ⟨k4, k⟩ := He.ba k
    obtain ⟨k5, k6⟩ := He.ba k
    exact ⟨xfB_ok k3, fun f hf => He.eqO_ok (all_at k6 hf)⟩
  · show t.ef.getD c [] = []
    rw [List.getD_eq_getElem?_getD, List.getElem?_eq_none (by rw [a4]; exact hc)]
    rfl
end Ev
end
section
set_option Elab.async false
set_option linter.all false
set_option maxRecDepth 100000
set_option autoImplicit false
/-! Defs called where an exception is being handled: their bodies without loops, calls, raises. -/
namespace Ev
open PySem PySem.Spec PyProof.Rows L2
/-- what such a def answers -/
def runH (cds : Cds) (sub : Sub) (tbh : Nat → Option Fn) : CF := run cds (fun _ _ _ => none) sub tbh 1
section
variable {P : Program} {w : World} {K : PySem.W.Frag} {mg : Str → Option Value} {base : Heap} {g : Pl} {T : TC} {np : Nat → Nat} {ef : List (List Str)} {cds : Cds} {sub : Sub} {tb tbh : Nat → Option Fn}
theorem ct_hot (M : Md0 P w K mg base g T np ef cds sub tb tbh) {N ps : List Str} {qual : Str} {sc : Scope} {f : Addr} {cdv : Value} {A : Around} {outer : List PySem.Env} {s : Shared} {H : Hp} {E : XK} {p : Addr × Obj} (S : FnScope N ps sc) (hr : L2H.RoomH 1 (A.deeper (envOfC qual sc s.heap.objs.size f cdv))) :
    Cd g { hotT T with N := N } (fun _ _ _ => none) np ef cds (fun _ _ _ => none) sub E 0 sc (L2H.cxH (L2N.CX P w) P w K mg base N qual sc f cdv A outer s H E p) := by
  have tk : L2N.Takes (L2H.cxH (L2N.CX P w) P w K mg base N qual sc f cdv A outer s H E p) (fun cls d _ H => E cls d H) := L2N.takes_of rfl rfl rfl rfl
  refine ⟨⟨M.hK, fun h => Bool.noConfusion (show false = true from h), fun h => Bool.noConfusion (show false = true from h), rfl, S.nd, fun x h => ?_, fun x h => ?_, fun x h => .inl rfl, fun x h => ?_, fun scope own h => blkOk_by h, hr, M.cons, M.nf, M.fns, fun i hi => ?_, fun i ds S h => (by cases h), L2N.passes_call tk fun _ _ _ _ h => h, M.blt, M.gcd, M.cd⟩, rfl, S.kind, passes_of rfl, rfl, rfl, tk, ?_⟩
  · unfold isLoc at h
    show sc.names.lookup x = _ ∨ sc.names.lookup x = _ ∨ sc.names.lookup x = _
    split at h
    · exact .inl (by assumption)
    · exact .inr (.inl (by assumption))
    · exact .inr (.inr (by assumption))
    · cases h
  · unfold isSto at h
    show sc.names.lookup x = _ ∨ sc.names.lookup x = _
    split at h
    · exact .inl (by assumption)
    · exact .inr (by assumption)
    · cases h
  · unfold isGlb at h
    show sc.names.lookup x = _
    split at h
    · assumption
    · cases h
  · obtain ⟨N, ps, qual, params, body, sc, fd, x, F, S, hb, h1, h2, h3, _⟩ := M.df i hi
    refine ⟨fd, ps, F.kp, hb, ⟨fun vs H Q E h => by rw [h.1, h1], fun A outer s H args us vs Q E hr e0 bd rv h => ?_⟩⟩
    obtain ⟨_, ρ, S, ds, _, _, p⟩ := h
    exact p.elim
  · refine ⟨M.exm, fun h => Bool.noConfusion (show false = true from h), M.exm2, M.xf, M.lo, fun i hi => absurd hi (by simp [hotT]), fun i ds S h => (by cases h)⟩
theorem hot_fn (M : Md0 P w K mg base g T np ef cds sub tb tbh) {i : Nat} (hi : i < T.fns.length) : ∃ fd ps, PySem.W.keepIn K (.ref (g.fnA i)) = true ∧ Binds K fd ps [] ∧ L2H.FnH P w K mg base (L2N.CX P w) 2 (g.fnA i) fd ps (spF g ef (runH cds sub tbh) (np i) i) := by
  obtain ⟨N, ps, qual, params, body, sc, fd, x, F, S, hb, h1, h2, _, h3⟩ := M.df i hi
  obtain ⟨⟨oc, od, dV, kV, doc, pm, an, cdv, ct, osl, rfl, lk, hcd, _, _⟩, kp⟩ := F
  refine ⟨_, ps, kp, hb, L2H.fn_ofH (k := 1) lk hcd S (fun vs H Q E h => by rw [h.1, h1]) fun A outer s H vs Q E p hot hr hsp => ?_⟩
  have C := ct_hot (E := E) (outer := outer) (H := H) (p := p) M S hr
  refine ⟨_, (st_main 100 C).2 body, ?_⟩
  obtain ⟨hl, ρ, St, ds, sm, rv, p⟩ := hsp
  have e1 : ps.length = ds.length := by rw [← h1, ← hl, repL_length rv]
  refine ⟨ρ, St, ds.map some ++ List.replicate (N.length - ps.length) none, sm, env_start rv e1, ?_⟩
  unfold runH run at p
  rw [h3] at p
  simp only [← e1, decide_true] at p
  have er : run cds (fun _ _ _ => none) sub tbh 0 = fun _ _ _ => none := rfl
  rw [er] at p
  cases hq : evSs cds (fun _ _ _ => none) (fun _ _ _ => none) sub (trSs { hotT T with N := N } ef 100 sc body) (ds.map some ++ List.replicate (N.length - ps.length) none) St with
  | none => rw [hq] at p; exact p.elim
  | some r =>
    rw [hq] at p
    cases r with
    | exc c fs S1 => exact p
    | ok f S1 =>
      cases f with
      | nx env =>
        intro ρ' H' v xx ss ⟨σ1, hv, _⟩
        subst hv
        exact p ρ' H' .non xx ss (by simp only [rep])
      | rt dd =>
        intro ρ' H' v xx ss ⟨v1, hv, rv1⟩
        subst hv
        exact p ρ' H' v1 xx ss rv1
      | bk env => exact p.elim
      | ct env => exact p.elim
theorem hot_ar (M : Md0 P w K mg base g T np ef cds sub tb tbh) (tbn : ∀ i, T.fns.length ≤ i → tbh i = none) : ∀ i ds S, (runH cds sub tbh i ds S).isSome = true → ds.length = np i := by
  intro i ds S h
  unfold runH run at h
  cases ht : tbh i with
  | none => rw [ht] at h; cases h
  | some t =>
    have hi : i < T.fns.length := by
      by_cases hi : i < T.fns.length
      · exact hi
      · rw [tbn i (Nat.le_of_not_lt hi)] at ht
        cases ht
    rw [ht] at h
    simp only at h
    split at h
    · rename_i hd
      have hd := of_decide_eq_true hd
      obtain ⟨N, ps, qual, params, body, sc, fd, x, _, _, _, h1, _, _, h2⟩ := M.df i hi
      rw [ht] at h2
      cases h2
      rw [hd, h1]
    · cases h
/-- with the hot defs -/
theorem md_hot (M : Md0 P w K mg base g T np ef cds sub tb tbh) (tbn : ∀ i, T.fns.length ≤ i → tbh i = none) (hl : ∀ i ∈ T.hots, i < T.fns.length) : Md P w K mg base g T np ef cds (runH cds sub tbh) sub tb tbh :=
  ⟨M, fun i hi => hot_fn M (hl i hi), hot_ar M tbn⟩
end
end Ev
end
section
set_option Elab.async false
set_option linter.all false
set_option maxRecDepth 100000
set_option autoImplicit false
/-! The end: from what the evaluator answers to the law's row. -/
namespace Ev
open PySem PySem.Spec PyProof.Rows L2
section
variable {P : Program} {w : World} {K : PySem.W.Frag} {mg : Str → Option Value} {base : Heap} {g : Pl} {T : TC} {np : Nat → Nat} {ef : List (List Str)} {cds : Cds} {hot : CF} {sub : Sub} {tb tbh : Nat → Option Fn}
/-- one def, its object and parameters named -/
theorem fn_at (M : Md P w K mg base g T np ef cds hot sub tb tbh) (d : Nat) {i : Nat} {N ps : List Str} {qual x : Str} {params : Arguments} {body : List Stmt} {sc : Scope} {fd : FuncData} (F : FunD K x qual params body sc [] [] (g.fnA i) fd) (S : FnScope N ps sc) (h1 : np i = ps.length) (h2 : ps.length ≤ N.length) (h3 : tb i = some ⟨ps.length, N.length, trSs { T with N := N } ef 100 sc body⟩) :
    FnOk P w K mg base (L2N.CX P w) (2 * (d + 1) + 2) (g.fnA i) fd ps (spF g ef (run cds hot sub tb (d + 1)) (np i) i) := by
  refine F.ok (k := 2 * d + 3) S (fun vs H Q E h => by rw [h.1, h1]) fun cdv A outer s H vs Q E hr hsp => ?_
  have C := ct_of (E := E) (outer := outer) (H := H) M (fun i hi => fn_all M d i hi) S hr
  refine ⟨_, (st_main 100 C).2 body, ?_⟩
  obtain ⟨hl, ρ, St, ds, sm, rv, p⟩ := hsp
  have e1 : ps.length = ds.length := by rw [← h1, ← hl, repL_length rv]
  refine ⟨ρ, St, ds.map some ++ List.replicate (N.length - ps.length) none, sm, env_start rv e1, ?_⟩
  unfold run at p
  rw [h3] at p
  simp only [← e1, decide_true] at p
  cases hq : evSs cds (run cds hot sub tb d) hot sub (trSs { T with N := N } ef 100 sc body) (ds.map some ++ List.replicate (N.length - ps.length) none) St with
  | none => rw [hq] at p; exact p.elim
  | some r =>
    rw [hq] at p
    cases r with
    | exc c fs S1 => exact p
    | ok f S1 =>
      cases f with
      | nx env =>
        intro ρ' H' v xx ss ⟨σ1, hv, _⟩
        subst hv
        exact p ρ' H' .non xx ss (by simp only [rep])
      | rt dd =>
        intro ρ' H' v xx ss ⟨v1, hv, rv1⟩
        subst hv
        exact p ρ' H' v1 xx ss rv1
      | bk env => exact p.elim
      | ct env => exact p.elim
end
/-- the def at a place of the table -/
theorem def_at (t : Tb) {K : PySem.W.Frag} {w : World} (hT : t.okT = true) (hK : t.okK K = true) (ho : t.obs K = t.val w) {i : Nat} {sl : Nat × List Str} {d : Da} (h2 : t.slots[i]? = some sl) (h1 : t.defs[i]? = some d) :
    ∃ fd, FunD K d.name d.qual d.params d.body d.scope [] [] (t.fnA i) fd ∧ FnScope sl.2 (sl.2.take sl.1) d.scope ∧ (∀ (s : Shared) (us : List Value), us.length = (sl.2.take sl.1).length → BindsTo s fd ⟨us, []⟩ ((sl.2.take sl.1).zip us)) ∧ t.np i = (sl.2.take sl.1).length ∧ (sl.2.take sl.1).length ≤ sl.2.length ∧
      t.tb i = some ⟨(sl.2.take sl.1).length, sl.2.length, trSs { t.T with N := sl.2 } t.ef 100 d.scope d.body⟩ := by
  obtain ⟨a1, hT⟩ := He.ba hT
  obtain ⟨a2, hT⟩ := He.ba hT
  obtain ⟨a3, hT⟩ := He.ba hT
  obtain ⟨a4, hT⟩ := He.ba hT
  obtain ⟨a5, a6⟩ := He.ba hT
  obtain ⟨_, hK⟩ := He.ba hK
  obtain ⟨hD, _⟩ := He.ba hK
  obtain ⟨_, b6⟩ := He.ba hD
  have o1 : t.defs.map (fun d => fnWA K d.a) = t.defs.map Da.val := congrArg (fun z : (List He.FnW × List He.FnW) × List (Option (List (Option (Str × Int)))) => z.1.1) ho
  have hz : (t.slots.zip t.defs)[i]? = some (sl, d) := by rw [List.getElem?_zip_eq_some]; exact ⟨h2, h1⟩
  have hb : defB (sl, d) = true := all_at a5 (List.mem_of_getElem? hz)
  obtain ⟨c1, hb⟩ := He.ba hb
  obtain ⟨c2, c3⟩ := He.ba hb
  have c1 := Nat.le_of_ble_eq_true c1
  have e := congrArg (fun l : List He.FnW => l[i]?) o1
  simp only [List.getElem?_map, h1, Option.map_some, Option.some.injEq] at e
  obtain ⟨fd, F⟩ := Da.funD e (all_at b6 (List.mem_of_getElem? h1))
  have efn : t.fnA i = d.a := by unfold Tb.fnA; rw [h1]
  have lp : (sl.2.take sl.1).length = sl.1 := by rw [List.length_take]; exact Nat.min_eq_left c1
  refine ⟨fd, by rw [efn]; exact F, scopeB_ok c2, (plainB_ok F c3).2, ?_, by rw [lp]; exact c1, ?_⟩
  · rw [lp]
    unfold Tb.np
    rw [h2]
  · show t.fl[i]? = _
    unfold Tb.fl
    rw [List.getElem?_map, hz, lp]
    rfl
theorem repL_ints {g : Pl} {ρ : List Addr} {H : Hp} : ∀ ns : List Int, repL g ρ H (ns.map D.int) (ns.map V.int)
  | [] => by simp only [List.map_nil, repL]
  | n :: ns => by
    simp only [List.map_cons, repL]
    exact ⟨_, _, rfl, by simp only [rep], repL_ints ns⟩
theorem fz_of {K : PySem.W.Frag} {H : Hp} {a : Addr} {vs : List V} (hO : Only H) (h : SqL K H a vs) : FzL K H a vs := by
  rcases h with h | h
  · rcases h with h | h
    · rcases hO a with e | ⟨o, xs, e⟩
      · rw [e] at h; cases h
      · rw [e] at h; cases h
    · exact .inl h
  · exact .inr h
theorem sim_nul {g : Pl} {H : Hp} : Sim g [] [] H := ⟨List.nodup_nil, rfl, fun n o h => by simp at h⟩
/-- a law's end, what its exceptions are may hang on the world -/
theorem walk_w {l : PySem.W.OpenLaw} {top k : Nat} {q : Program} {loose : List Str} {XP : (Str → Option Value) → Heap → Prop} {YP : World → Heap → Prop} {d : DefRec} {CW : World → CXT} {x : Str} (h1 : l.most = some top) (h2 : top ≤ sizeLine) (h3 : d.params.defaults = []) (h4 : Room k callerA)
    (F : ∀ (w : World) (mg : Str → Option Value) (f : Addr) (h : Heap), YP w h → h.Ns mainGlobals mg → mg d.name = some (.ref f) → ∃ (K : PySem.W.Frag) (fd : FuncData) (sp : Sp), K.In h ∧ (∀ (s : Shared) (u : Value), BindsTo s fd ⟨[u], []⟩ [(x, u)]) ∧
      (∀ (H : Hp) (b : Addr) (js : List Int), js.length ≤ top → Only H → SqL K H b (js.map V.int) → sp [.ref b] H (fun v _ => v = .bl true) fun _ _ _ => False) ∧ ∀ base : Heap, K.In base → base.Ns mainGlobals mg → FnOk l.prog w K mg base (CW w) k f fd [x] sp)
    (h5 : ∀ (w : World) (H : Hp) (s : Shared) (e : Value) (s' : Shared), CW w [] H s (fun _ _ _ => False) e s' → False) : PySem.W.WalkO q loose XP YP l.row.toRowW d [] (fun f vs => PySem.call f vs) := by
  refine Att.attach_call h1 h3 fun w sA sB mg mb f ob pm cd doc b vs js Gd Yy ho hd hcd hmg hobj hints hlen hg => ?_
  obtain ⟨K, fd, sp, kin, bnd, prm, fok⟩ := F w mg f _ Yy Gd.T.g hmg
  exact law_call (CX := CW w) kin Gd.T.g Gd.T.b Gd.T.builtins Gd.T.nolimit hg hobj hints (Nat.le_trans hlen h2) h4 fok bnd (fun H only sq => prm H b js hlen only sq) fun H e s' => h5 w H sB e s'
/-- the law's end: the table t, the law's def at i, its row l -/
theorem law_end {l : PySem.W.OpenLaw} {q : Program} {loose : List Str} {XP : (Str → Option Value) → Heap → Prop} {d : DefRec} (t : Tb) (as : List Addr) (i : Nat) (sl : Nat × List Str) (da : Da) (x : Str)
    (hn : l.most = some 63) (hdf : d.params.defaults = []) (hT : t.okT = true) (hsub : ∀ c j b, t.sub c j = some b → (c, j, b) ∈ t.subs) (hh : ∀ j ∈ t.hots, j < t.fns.length) (hlen : t.flh.length ≤ t.fns.length)
    (h2 : t.slots[i]? = some sl) (h1 : t.defs[i]? = some da) (hx : sl.2.take sl.1 = [x]) (hnm : t.fns[i]? = some d.name)
    (hlaw : ∀ script : List Int, ∃ s', run t.cds (runH t.cds t.sub t.tbh) t.sub t.tb 20 i [.frz false (script.map .int)] [] = ok (.bl true) s') :
    PySem.W.WalkO q loose XP (hookB t as).says l.row.toRowW d [] (fun f vs => PySem.call f vs) := by
  refine walk_w (l := l) (top := 63) (k := 42) (x := x) (CW := fun w => L2N.CX l.prog w) hn (by decide) hdf ⟨rfl, by decide, by decide⟩ ?_ (fun _ _ _ _ _ ⟨_, _, _, _, _, _, _, _, _, _, _, _, h⟩ => h.elim)
  intro w mg f h Y G hmg
  obtain ⟨K, KX, ho, hK⟩ := Y
  obtain ⟨fd, F, S, B, c1, c2, c3⟩ := def_at t hT hK ho h2 h1
  rw [hx] at S B c1 c2 c3
  have M0 : ∀ base : Heap, K.In base → base.Ns mainGlobals mg → Md0 l.prog w K mg base (t.pl K) t.T t.np t.ef t.cds t.sub t.tb t.tbh := fun base kb nb => md0_of t hT hsub kb nb hK ho
  have M : ∀ base : Heap, K.In base → base.Ns mainGlobals mg → Md l.prog w K mg base (t.pl K) t.T t.np t.ef t.cds (runH t.cds t.sub t.tbh) t.sub t.tb t.tbh := fun base kb nb => md_hot (M0 base kb nb) (fun j hj => List.getElem?_eq_none (Nat.le_trans hlen hj)) hh
  have ef : f = t.fnA i := by
    have e := (M h KX G).fns i d.name hnm
    rw [hmg] at e
    cases e
    rfl
  subst ef
  refine ⟨K, fd, spF (t.pl K) t.ef (run t.cds (runH t.cds t.sub t.tbh) t.sub t.tb 20) (t.np i) i, KX, fun s u => B s [u] rfl, fun H b js _ only sq => ?_, fun base kb nb => fn_at (M base kb nb) 19 F S c1 c2 c3⟩
  refine ⟨by rw [c1]; rfl, [], [], [.frz false (js.map .int)], sim_nul, ?_, ?_⟩
  · simp only [repL, rep]
    exact ⟨_, _, rfl, ⟨b, js.map V.int, rfl, fz_of only sq, repL_ints js⟩, rfl⟩
  · obtain ⟨s', e⟩ := hlaw js
    rw [e]
    intro ρ' H' v _ _ rv
    simpa only [rep] using rv
end Ev
end
section
set_option Elab.async false
set_option linter.all false
set_option maxRecDepth 100000
set_option autoImplicit false
namespace K91
open PySem PySem.Spec PyProof.Rows L2 Ev
theorem tab_ok : tab.okT = true := by decide +kernel
end K91
end
section
set_option Elab.async false
set_option linter.all false
set_option maxRecDepth 100000
set_option autoImplicit false
/-! The evaluator's laws: how a def's answer is worked out by hand. -/
namespace Ev
theorem bind_ok {α β : Type} {a : α} {s : Sto} {f : α → Sto → O β} : (ok a s).bind f = f a s := rfl
theorem bind_some {α β : Type} {a : α} {s : Sto} {f : α → Sto → O β} : O.bind (some (.ok a s)) f = f a s := rfl
theorem bind_exc {α β : Type} {c : Nat} {fs : List D} {s : Sto} {f : α → Sto → O β} : O.bind (some (.exc c fs s)) f = some (.exc c fs s) := rfl
theorem bind_none {α β : Type} {f : α → Sto → O β} : O.bind (none : O α) f = none := rfl
theorem bind_cg {α β : Type} {x y : O α} {f : α → Sto → O β} (h : x = y) : x.bind f = y.bind f := by rw [h]
theorem pr_some {d : D} {s : Sto} : pr (some (d, s)) = ok d s := rfl
theorem va_some {d : D} {s : Sto} : va (some d) s = ok d s := rfl
theorem bo_some {b : Bool} {s : Sto} : bo (some b) s = ok (.bl b) s := rfl
/-- a def's end -/
def fin : O Fl → O D
  | some (.ok (.nx _) s') => ok .non s'
  | some (.ok (.rt d) s') => ok d s'
  | some (.ok _ _) => none
  | some (.exc c fs s') => some (.exc c fs s')
  | none => none
theorem fin_rt {d : D} {s : Sto} : fin (ok (.rt d) s) = ok d s := rfl
theorem fin_nx {e : Env} {s : Sto} : fin (ok (.nx e) s) = ok .non s := rfl
theorem fin_exc {c : Nat} {fs : List D} {s : Sto} : fin (some (.exc c fs s)) = some (.exc c fs s) := rfl
section
variable {cds : Cds} {hot : CF} {sub : Sub} {tb : Nat → Option Fn}
theorem run_at {f : Nat} {t : Fn} (h : tb f = some t) {d : Nat} {ds : List D} {s : Sto} (hl : ds.length = t.np) :
    run cds hot sub tb (d + 1) f ds s = fin (evSs cds (run cds hot sub tb d) hot sub t.body (ds.map some ++ List.replicate (t.nl - t.np) none) s) := by
  show (match tb f with
    | some t => match decide (ds.length = t.np) with
      | true => match evSs cds (run cds hot sub tb d) hot sub t.body (ds.map some ++ List.replicate (t.nl - t.np) none) s with
        | some (.ok (.nx _) s') => ok D.non s'
        | some (.ok (.rt d) s') => ok d s'
        | some (.ok _ _) => none
        | some (.exc c fs s') => some (.exc c fs s')
        | none => none
      | false => none
    | none => none) = _
  rw [h]
  simp only [hl, decide_true]
  rfl
end
/-- a def called with plain data -/
theorem call_pure {cf : CF} {f : Nat} {ds : List D} {d : D} {s s' : Sto} (h : pureL ds = true) (hc : cf f ds [] = ok d s') (hd : d.pure = true) : callF cf f ds s = ok d s := by
  unfold callF
  rw [h, hc]
  simp only [ok, hd]
theorem call_pureS {cf : CF} {f : Nat} {ds : List D} {d : D} {s s' : Sto} (h : pureL ds = true) (hc : cf f ds [] = ok d s') (hd : d.pure = false) : callF cf f ds s = ok (d.sh s.length) (s ++ s'.map (Ob.sh s.length)) := by
  unfold callF
  rw [h, hc]
  simp only [ok, hd]
theorem call_exc {cf : CF} {f : Nat} {ds : List D} {c : Nat} {fs : List D} {s s' : Sto} (h : pureL ds = true) (hc : cf f ds [] = some (.exc c fs s')) (hd : pureL fs = true) : callF cf f ds s = some (.exc c fs s) := by
  unfold callF
  rw [h, hc]
  simp only [hd]
theorem call_ref {cf : CF} {f : Nat} {ds : List D} {s : Sto} (h : pureL ds = false) : callF cf f ds s = cf f ds s := by
  unfold callF
  rw [h]
/-! ### loops -/
/-- what follows a loop's turn -/
def nextL (k : Env → Sto → O Fl) : Fl → Sto → O Fl
  | .nx e, s => k e s
  | .ct e, s => k e s
  | .bk e, s => ok (.nx e) s
  | .rt d, s => ok (.rt d) s
/-- a loop over items -/
def loopL (g : D → Env → Sto → O Fl) : List D → Env → Sto → O Fl
  | [], env, s => ok (.nx env) s
  | x :: xs, env, s => (g x env s).bind (nextL (loopL g xs))
theorem lGo_items {g : D → Env → Sto → O Fl} : ∀ {xs : List D} {n : Nat} {env : Env} {s : Sto}, n = xs.length → lGo g n (.items xs) env s = loopL g xs env s
  | [], n, env, s, h => by
    subst h
    rfl
  | x :: xs, n, env, s, h => by
    subst h
    show lGo g (xs.length + 1) (.items (x :: xs)) env s = _
    unfold lGo loopL
    simp only [nxt]
    congr 1
    funext f s
    cases f <;> simp only [nextL]
    · exact lGo_items rfl
    · exact lGo_items rfl
/-- numbers from lo on -/
def upto (lo : Int) : Nat → List D
  | 0 => []
  | n + 1 => .int lo :: upto (lo + 1) n
theorem lGo_rng {g : D → Env → Sto → O Fl} : ∀ {n : Nat} {lo : Int} {env : Env} {s : Sto}, lGo g n (.rng lo n) env s = loopL g (upto lo n) env s
  | 0, lo, env, s => rfl
  | n + 1, lo, env, s => by
    unfold lGo upto loopL
    simp only [nxt]
    congr 1
    funext f s
    cases f <;> simp only [nextL]
    · exact lGo_rng
    · exact lGo_rng
theorem upto_length : ∀ {n : Nat} {lo : Int}, (upto lo n).length = n
  | 0, lo => rfl
  | n + 1, lo => by
    show (upto (lo + 1) n).length + 1 = n + 1
    rw [upto_length]
/-- a loop over a list of the store that no turn changes, from its i-th item on: P the turns' states -/
theorem lGo_lst {g : D → Env → Sto → O Fl} {a : Nat} {xs : List D} : ∀ {n i : Nat} {env : Env} {s : Sto}, xs.length ≤ n + i → s[a]? = some (.lst xs) → (∀ (j : Nat) (x : D) (env : Env) (s : Sto), i ≤ j → xs[j]? = some x → s[a]? = some (.lst xs) → ∀ f s', g x env s = ok f s' → s'[a]? = some (.lst xs)) →
    lGo g n (.lst a i) env s = loopL g (xs.drop i) env s
  | n, i, env, s, hn, hs, hk => by
    cases hx : xs[i]? with
    | none =>
      have hl : xs.length ≤ i := List.getElem?_eq_none_iff.mp hx
      rw [List.drop_eq_nil_of_le hl]
      unfold lGo
      simp only [nxt, hs, hx]
      rfl
    | some x =>
      obtain ⟨hl, e⟩ := List.getElem?_eq_some_iff.mp hx
      have hd : xs.drop i = x :: xs.drop (i + 1) := by rw [List.drop_eq_getElem_cons hl, e]
      rw [hd]
      cases n with
      | zero => omega
      | succ n =>
        unfold lGo loopL
        simp only [nxt, hs, hx]
        cases hg : g x env s with
        | none => rfl
        | some r =>
          cases r with
          | exc c fs s' => rfl
          | ok f s' =>
            have hs' : s'[a]? = some (.lst xs) := hk i x env s (Nat.le_refl _) hx hs f s' hg
            cases f with
            | nx e => exact lGo_lst (n := n) (i := i + 1) (by omega) hs' fun j x env s h => hk j x env s (by omega)
            | ct e => exact lGo_lst (n := n) (i := i + 1) (by omega) hs' fun j x env s h => hk j x env s (by omega)
            | bk e => rfl
            | rt d => rfl
/-- a loop that looks at each item: one name changes -/
theorem loop_chk {g : D → Env → Sto → O Fl} {E : Option D → Env} {p : D → Bool} {bad : D} {s : Sto} : ∀ {xs : List D} {o : Option D}, (∀ x ∈ xs, ∀ o, g x (E o) s = if p x then ok (.nx (E (some x))) s else ok (.rt bad) s) →
    ∃ o', loopL g xs (E o) s = if xs.all p then ok (.nx (E o')) s else ok (.rt bad) s
  | [], o, h => ⟨o, rfl⟩
  | x :: xs, o, h => by
    obtain ⟨o', e⟩ := loop_chk (xs := xs) (o := some x) fun y hy => h y (List.mem_cons_of_mem _ hy)
    unfold loopL
    rw [h x (List.mem_cons_self ..)]
    cases hp : p x with
    | true =>
      refine ⟨o', ?_⟩
      simp only [if_true, bind_ok, nextL, List.all_cons, hp, Bool.true_and]
      exact e
    | false =>
      refine ⟨none, ?_⟩
      simp only [Bool.false_eq_true, if_false, bind_ok, nextL, List.all_cons, hp, Bool.false_and]
/-- a loop that only goes forth: an invariant -/
theorem loop_inv {g : D → Env → Sto → O Fl} (P : List D → Env → Sto → Prop) (hstep : ∀ x xs env s, P (x :: xs) env s → ∃ env' s', (g x env s = ok (.nx env') s' ∨ g x env s = ok (.ct env') s') ∧ P xs env' s') :
    ∀ {xs : List D} {env : Env} {s : Sto}, P xs env s → ∃ env' s', loopL g xs env s = ok (.nx env') s' ∧ P [] env' s'
  | [], env, s, h => ⟨env, s, rfl, h⟩
  | x :: xs, env, s, h => by
    obtain ⟨e1, s1, h1, h2⟩ := hstep x xs env s h
    obtain ⟨e2, s2, h3, h4⟩ := loop_inv P hstep h2
    refine ⟨e2, s2, ?_, h4⟩
    unfold loopL
    rcases h1 with h1 | h1
    · rw [h1]
      exact h3
    · rw [h1]
      exact h3
end Ev
end
section
set_option Elab.async false
set_option linter.all false
set_option maxRecDepth 100000
set_option autoImplicit false
/-! The evaluator's steps, as simp takes them: what follows is named. -/
namespace Ev
/-- an equation as a step of its own -/
theorem asEq {α : Type} {a b : α} (h : a = b) : a = b := h
section
variable {cds : Cds} {cf hot : CF} {sub : Sub} {env : Env} {s : Sto} {i j n : Nat} {d x y z : D} {ds : List D} {a b c e : E} {es : Es} {lo hi : Eo} {st : S} {ss : Ss} {op : BOp} {o1 o2 : COp} {it : It} {t : Tg}
@[simp] theorem bind_okS {α β : Type} {a : α} {s : Sto} {f : α → Sto → O β} : (ok a s).bind f = f a s := asEq rfl
@[simp] theorem bind_excS {α β : Type} {c : Nat} {fs : List D} {s : Sto} {f : α → Sto → O β} : O.bind (some (.exc c fs s)) f = some (.exc c fs s) := asEq rfl
@[simp] theorem pr_someS {d : D} {s : Sto} : pr (some (d, s)) = ok d s := asEq rfl
@[simp] theorem va_someS {d : D} {s : Sto} : va (some d) s = ok d s := asEq rfl
@[simp] theorem bo_someS {b : Bool} {s : Sto} : bo (some b) s = ok (.bl b) s := asEq rfl
/-! ### expressions -/
def varK (s : Sto) : Option (Option D) → O D
  | some (some d) => ok d s
  | _ => none
@[simp] theorem varK_some : varK s (some (some d)) = ok d s := asEq rfl
@[simp] theorem e_var : evE cds cf (.var i) env s = varK s env[i]? := by simp only [evE]; rfl
@[simp] theorem e_cst : evE cds cf (.cst d) env s = ok d s := by simp only [evE]
@[simp] theorem e_dnew : evE cds cf .dnew env s = ok (.ref s.length) (s ++ [.dK []]) := by simp only [evE]; rfl
def tupK (ds : List D) (s : Sto) : O D := if small ds.length then ok (.tup ds) s else none
@[simp] theorem e_tup : evE cds cf (.tup es) env s = (evEs cds cf es env s).bind tupK := by simp only [evE]; rfl
@[simp] theorem tupK_ok (h : small ds.length = true) : tupK ds s = ok (.tup ds) s := by unfold tupK; rw [if_pos h]
def lstK (ds : List D) (s : Sto) : O D := if small ds.length then pr (some (new (.lst ds) s)) else none
@[simp] theorem e_lst : evE cds cf (.lst es) env s = (evEs cds cf es env s).bind lstK := by simp only [evE]; rfl
@[simp] theorem lstK_ok (h : small ds.length = true) : lstK ds s = ok (.ref s.length) (s ++ [.lst ds]) := by unfold lstK; rw [if_pos h]; rfl
@[simp] theorem tupK_0 : tupK [] s = ok (.tup []) s := tupK_ok (show small 0 = true by decide)
@[simp] theorem tupK_1 {d0 : D} : tupK [d0] s = ok (.tup [d0]) s := tupK_ok (show small 1 = true by decide)
@[simp] theorem tupK_2 {d0 d1 : D} : tupK [d0, d1] s = ok (.tup [d0, d1]) s := tupK_ok (show small 2 = true by decide)
@[simp] theorem tupK_3 {d0 d1 d2 : D} : tupK [d0, d1, d2] s = ok (.tup [d0, d1, d2]) s := tupK_ok (show small 3 = true by decide)
@[simp] theorem tupK_4 {d0 d1 d2 d3 : D} : tupK [d0, d1, d2, d3] s = ok (.tup [d0, d1, d2, d3]) s := tupK_ok (show small 4 = true by decide)
@[simp] theorem tupK_5 {d0 d1 d2 d3 d4 : D} : tupK [d0, d1, d2, d3, d4] s = ok (.tup [d0, d1, d2, d3, d4]) s := tupK_ok (show small 5 = true by decide)
@[simp] theorem tupK_6 {d0 d1 d2 d3 d4 d5 : D} : tupK [d0, d1, d2, d3, d4, d5] s = ok (.tup [d0, d1, d2, d3, d4, d5]) s := tupK_ok (show small 6 = true by decide)
@[simp] theorem tupK_7 {d0 d1 d2 d3 d4 d5 d6 : D} : tupK [d0, d1, d2, d3, d4, d5, d6] s = ok (.tup [d0, d1, d2, d3, d4, d5, d6]) s := tupK_ok (show small 7 = true by decide)
@[simp] theorem tupK_8 {d0 d1 d2 d3 d4 d5 d6 d7 : D} : tupK [d0, d1, d2, d3, d4, d5, d6, d7] s = ok (.tup [d0, d1, d2, d3, d4, d5, d6, d7]) s := tupK_ok (show small 8 = true by decide)
@[simp] theorem lstK_0 : lstK [] s = ok (.ref s.length) (s ++ [.lst []]) := lstK_ok (show small 0 = true by decide)
@[simp] theorem lstK_1 {d0 : D} : lstK [d0] s = ok (.ref s.length) (s ++ [.lst [d0]]) := lstK_ok (show small 1 = true by decide)
@[simp] theorem lstK_2 {d0 d1 : D} : lstK [d0, d1] s = ok (.ref s.length) (s ++ [.lst [d0, d1]]) := lstK_ok (show small 2 = true by decide)
@[simp] theorem lstK_3 {d0 d1 d2 : D} : lstK [d0, d1, d2] s = ok (.ref s.length) (s ++ [.lst [d0, d1, d2]]) := lstK_ok (show small 3 = true by decide)
@[simp] theorem lstK_4 {d0 d1 d2 d3 : D} : lstK [d0, d1, d2, d3] s = ok (.ref s.length) (s ++ [.lst [d0, d1, d2, d3]]) := lstK_ok (show small 4 = true by decide)
@[simp] theorem lstK_5 {d0 d1 d2 d3 d4 : D} : lstK [d0, d1, d2, d3, d4] s = ok (.ref s.length) (s ++ [.lst [d0, d1, d2, d3, d4]]) := lstK_ok (show small 5 = true by decide)
@[simp] theorem lstK_6 {d0 d1 d2 d3 d4 d5 : D} : lstK [d0, d1, d2, d3, d4, d5] s = ok (.ref s.length) (s ++ [.lst [d0, d1, d2, d3, d4, d5]]) := lstK_ok (show small 6 = true by decide)
@[simp] theorem lstK_7 {d0 d1 d2 d3 d4 d5 d6 : D} : lstK [d0, d1, d2, d3, d4, d5, d6] s = ok (.ref s.length) (s ++ [.lst [d0, d1, d2, d3, d4, d5, d6]]) := lstK_ok (show small 7 = true by decide)
@[simp] theorem lstK_8 {d0 d1 d2 d3 d4 d5 d6 d7 : D} : lstK [d0, d1, d2, d3, d4, d5, d6, d7] s = ok (.ref s.length) (s ++ [.lst [d0, d1, d2, d3, d4, d5, d6, d7]]) := lstK_ok (show small 8 = true by decide)
@[simp] theorem lstK_9 {d0 d1 d2 d3 d4 d5 d6 d7 d8 : D} : lstK [d0, d1, d2, d3, d4, d5, d6, d7, d8] s = ok (.ref s.length) (s ++ [.lst [d0, d1, d2, d3, d4, d5, d6, d7, d8]]) := lstK_ok (show small 9 = true by decide)
@[simp] theorem lstK_10 {d0 d1 d2 d3 d4 d5 d6 d7 d8 d9 : D} : lstK [d0, d1, d2, d3, d4, d5, d6, d7, d8, d9] s = ok (.ref s.length) (s ++ [.lst [d0, d1, d2, d3, d4, d5, d6, d7, d8, d9]]) := lstK_ok (show small 10 = true by decide)
@[simp] theorem lstK_11 {d0 d1 d2 d3 d4 d5 d6 d7 d8 d9 d10 : D} : lstK [d0, d1, d2, d3, d4, d5, d6, d7, d8, d9, d10] s = ok (.ref s.length) (s ++ [.lst [d0, d1, d2, d3, d4, d5, d6, d7, d8, d9, d10]]) := lstK_ok (show small 11 = true by decide)
@[simp] theorem lstK_12 {d0 d1 d2 d3 d4 d5 d6 d7 d8 d9 d10 d11 : D} : lstK [d0, d1, d2, d3, d4, d5, d6, d7, d8, d9, d10, d11] s = ok (.ref s.length) (s ++ [.lst [d0, d1, d2, d3, d4, d5, d6, d7, d8, d9, d10, d11]]) := lstK_ok (show small 12 = true by decide)
@[simp] theorem lstK_13 {d0 d1 d2 d3 d4 d5 d6 d7 d8 d9 d10 d11 d12 : D} : lstK [d0, d1, d2, d3, d4, d5, d6, d7, d8, d9, d10, d11, d12] s = ok (.ref s.length) (s ++ [.lst [d0, d1, d2, d3, d4, d5, d6, d7, d8, d9, d10, d11, d12]]) := lstK_ok (show small 13 = true by decide)
@[simp] theorem lstK_14 {d0 d1 d2 d3 d4 d5 d6 d7 d8 d9 d10 d11 d12 d13 : D} : lstK [d0, d1, d2, d3, d4, d5, d6, d7, d8, d9, d10, d11, d12, d13] s = ok (.ref s.length) (s ++ [.lst [d0, d1, d2, d3, d4, d5, d6, d7, d8, d9, d10, d11, d12, d13]]) := lstK_ok (show small 14 = true by decide)
@[simp] theorem lstK_15 {d0 d1 d2 d3 d4 d5 d6 d7 d8 d9 d10 d11 d12 d13 d14 : D} : lstK [d0, d1, d2, d3, d4, d5, d6, d7, d8, d9, d10, d11, d12, d13, d14] s = ok (.ref s.length) (s ++ [.lst [d0, d1, d2, d3, d4, d5, d6, d7, d8, d9, d10, d11, d12, d13, d14]]) := lstK_ok (show small 15 = true by decide)
def binK2 (op : BOp) (x : D) (y : D) (s : Sto) : O D := pr (binF op x y s)
def binK (cds : Cds) (cf : CF) (op : BOp) (b : E) (env : Env) (x : D) (s : Sto) : O D := (evE cds cf b env s).bind (binK2 op x)
@[simp] theorem e_bin : evE cds cf (.bin op a b) env s = (evE cds cf a env s).bind (binK cds cf op b env) := by simp only [evE]; rfl
@[simp] theorem binK_eq : binK cds cf op b env x s = (evE cds cf b env s).bind (binK2 op x) := asEq rfl
@[simp] theorem binK2_eq : binK2 op x y s = pr (binF op x y s) := asEq rfl
def negK : D → Sto → O D
  | .int i, s => ok (.int (-i)) s
  | _, _ => none
@[simp] theorem e_neg : evE cds cf (.neg a) env s = (evE cds cf a env s).bind negK := by
  simp only [evE]; congr 1; funext x s; cases x <;> rfl
@[simp] theorem negK_int {i : Int} : negK (.int i) s = ok (.int (-i)) s := asEq rfl
def notK : D → Sto → O D
  | .bl b, s => ok (.bl (!b)) s
  | _, _ => none
@[simp] theorem e_not : evE cds cf (.not a) env s = (evE cds cf a env s).bind notK := by
  simp only [evE]; congr 1; funext x s; cases x <;> rfl
@[simp] theorem notK_bl {b : Bool} : notK (.bl b) s = ok (.bl (!b)) s := asEq rfl
def boolK : D → Sto → O D
  | .bl c, s => ok (.bl c) s
  | _, _ => none
@[simp] theorem boolK_bl {b : Bool} : boolK (.bl b) s = ok (.bl b) s := asEq rfl
def andK (cds : Cds) (cf : CF) (b : E) (env : Env) : D → Sto → O D
  | .bl true, s => (evE cds cf b env s).bind boolK
  | .bl false, s => ok (.bl false) s
  | _, _ => none
@[simp] theorem e_and : evE cds cf (.and a b) env s = (evE cds cf a env s).bind (andK cds cf b env) := by
  simp only [evE]; congr 1; funext x s
  cases x with
  | bl c =>
    cases c with
    | true => show _ = (evE cds cf b env s).bind boolK; simp only []; congr 1; funext y s; cases y <;> rfl
    | false => rfl
  | _ => rfl
@[simp] theorem andK_t : andK cds cf b env (.bl true) s = (evE cds cf b env s).bind boolK := asEq rfl
@[simp] theorem andK_f : andK cds cf b env (.bl false) s = ok (.bl false) s := asEq rfl
def orK (cds : Cds) (cf : CF) (b : E) (env : Env) : D → Sto → O D
  | .bl false, s => (evE cds cf b env s).bind boolK
  | .bl true, s => ok (.bl true) s
  | _, _ => none
@[simp] theorem e_or : evE cds cf (.or a b) env s = (evE cds cf a env s).bind (orK cds cf b env) := by
  simp only [evE]; congr 1; funext x s
  cases x with
  | bl c =>
    cases c with
    | false => show _ = (evE cds cf b env s).bind boolK; simp only []; congr 1; funext y s; cases y <;> rfl
    | true => rfl
  | _ => rfl
@[simp] theorem orK_f : orK cds cf b env (.bl false) s = (evE cds cf b env s).bind boolK := asEq rfl
@[simp] theorem orK_t : orK cds cf b env (.bl true) s = ok (.bl true) s := asEq rfl
def cmpK2 (cds : Cds) (op : COp) (x y : D) (s : Sto) : O D := bo (cmpF cds op x y s) s
def cmpK (cds : Cds) (cf : CF) (op : COp) (b : E) (env : Env) (x : D) (s : Sto) : O D := (evE cds cf b env s).bind (cmpK2 cds op x)
@[simp] theorem e_cmp : evE cds cf (.cmp o1 a b) env s = (evE cds cf a env s).bind (cmpK cds cf o1 b env) := by simp only [evE]; rfl
@[simp] theorem cmpK_eq : cmpK cds cf o1 b env x s = (evE cds cf b env s).bind (cmpK2 cds o1 x) := asEq rfl
@[simp] theorem cmpK2_eq : cmpK2 cds o1 x y s = bo (cmpF cds o1 x y s) s := asEq rfl
def isNon : D → Bool
  | .non => true
  | _ => false
@[simp] theorem e_isN {ng : Bool} : evE cds cf (.isN ng a) env s = (evE cds cf a env s).bind (fun x s => ok (.bl (ng != isNon x)) s) := by
  simp only [evE]; congr 1; funext x s; cases ng <;> cases x <;> rfl
@[simp] theorem isNon_non : isNon .non = true := asEq rfl
@[simp] theorem isNon_int {i : Int} : isNon (.int i) = false := asEq rfl
@[simp] theorem isNon_bl {b : Bool} : isNon (.bl b) = false := asEq rfl
@[simp] theorem isNon_str {x : Txt} : isNon (.str x) = false := asEq rfl
@[simp] theorem isNon_tup {xs : List D} : isNon (.tup xs) = false := asEq rfl
@[simp] theorem isNon_ref {n : Nat} : isNon (.ref n) = false := asEq rfl
def isBK (ng k : Bool) : D → Sto → O D
  | .bl b, s => ok (.bl (if ng then !(b == k) else b == k)) s
  | _, _ => none
@[simp] theorem e_isB {ng k : Bool} : evE cds cf (.isB ng k a) env s = (evE cds cf a env s).bind (isBK ng k) := by
  simp only [evE]; congr 1; funext x s; cases x <;> rfl
@[simp] theorem isBK_bl {ng k b : Bool} : isBK ng k (.bl b) s = ok (.bl (if ng then !(b == k) else b == k)) s := asEq rfl
def chnK3 (cds : Cds) (o2 : COp) (y z : D) (s : Sto) : O D := bo (cmpF cds o2 y z s) s
def chnK2 (cds : Cds) (cf : CF) (o1 o2 : COp) (c : E) (env : Env) (x y : D) (s : Sto) : O D := match cmpF cds o1 x y s with
  | some true => (evE cds cf c env s).bind (chnK3 cds o2 y)
  | some false => ok (.bl false) s
  | none => none
def chnK (cds : Cds) (cf : CF) (o1 o2 : COp) (b c : E) (env : Env) (x : D) (s : Sto) : O D := (evE cds cf b env s).bind (chnK2 cds cf o1 o2 c env x)
@[simp] theorem e_chn : evE cds cf (.chn o1 o2 a b c) env s = (evE cds cf a env s).bind (chnK cds cf o1 o2 b c env) := by simp only [evE]; rfl
@[simp] theorem chnK_eq : chnK cds cf o1 o2 b c env x s = (evE cds cf b env s).bind (chnK2 cds cf o1 o2 c env x) := asEq rfl
theorem chnK2_t (h : cmpF cds o1 x y s = some true) : chnK2 cds cf o1 o2 c env x y s = (evE cds cf c env s).bind (chnK3 cds o2 y) := by unfold chnK2; rw [h]
theorem chnK2_f (h : cmpF cds o1 x y s = some false) : chnK2 cds cf o1 o2 c env x y s = ok (.bl false) s := by unfold chnK2; rw [h]
@[simp] theorem chnK3_eq : chnK3 cds o2 y z s = bo (cmpF cds o2 y z s) s := asEq rfl
def ifeK (cds : Cds) (cf : CF) (a b : E) (env : Env) : D → Sto → O D
  | .bl true, s => evE cds cf a env s
  | .bl false, s => evE cds cf b env s
  | _, _ => none
@[simp] theorem e_ife : evE cds cf (.ife c a b) env s = (evE cds cf c env s).bind (ifeK cds cf a b env) := by
  simp only [evE]; congr 1; funext x s
  cases x with
  | bl c => cases c <;> rfl
  | _ => rfl
@[simp] theorem ifeK_t : ifeK cds cf a b env (.bl true) s = evE cds cf a env s := asEq rfl
@[simp] theorem ifeK_f : ifeK cds cf a b env (.bl false) s = evE cds cf b env s := asEq rfl
def ixK2 (cds : Cds) (x y : D) (s : Sto) : O D := va (ixF cds x y s) s
def ixK (cds : Cds) (cf : CF) (b : E) (env : Env) (x : D) (s : Sto) : O D := (evE cds cf b env s).bind (ixK2 cds x)
@[simp] theorem e_ix : evE cds cf (.ix a b) env s = (evE cds cf a env s).bind (ixK cds cf b env) := by simp only [evE]; rfl
@[simp] theorem ixK_eq : ixK cds cf b env x s = (evE cds cf b env s).bind (ixK2 cds x) := asEq rfl
@[simp] theorem ixK2_eq : ixK2 cds x y s = va (ixF cds x y s) s := asEq rfl
def slK3 (hi : Eo) (x : D) (l : Option Int) (h : D) (s : Sto) : O D := match endF hi h with
  | some h => pr (slF x l h s)
  | none => none
def slK2 (cds : Cds) (cf : CF) (lo hi : Eo) (env : Env) (x : D) (l : D) (s : Sto) : O D := match endF lo l with
  | some l => (evO cds cf hi env s).bind (slK3 hi x l)
  | none => none
def slK (cds : Cds) (cf : CF) (lo hi : Eo) (env : Env) (x : D) (s : Sto) : O D := (evO cds cf lo env s).bind (slK2 cds cf lo hi env x)
@[simp] theorem e_sl : evE cds cf (.sl a lo hi) env s = (evE cds cf a env s).bind (slK cds cf lo hi env) := by simp only [evE]; rfl
@[simp] theorem slK_eq : slK cds cf lo hi env x s = (evO cds cf lo env s).bind (slK2 cds cf lo hi env x) := asEq rfl
@[simp] theorem slK2_n : slK2 cds cf .none hi env x y s = (evO cds cf hi env s).bind (slK3 hi x none) := asEq rfl
@[simp] theorem slK2_i {i : Int} : slK2 cds cf (.some e) hi env x (.int i) s = (evO cds cf hi env s).bind (slK3 hi x (some i)) := asEq rfl
@[simp] theorem slK3_n {l : Option Int} : slK3 .none x l y s = pr (slF x l none s) := asEq rfl
@[simp] theorem slK3_i {l : Option Int} {i : Int} : slK3 (.some e) x l (.int i) s = pr (slF x l (some i) s) := asEq rfl
@[simp] theorem o_none : evO cds cf .none env s = ok .non s := by simp only [evO]
@[simp] theorem o_some : evO cds cf (.some e) env s = evE cds cf e env s := by simp only [evO]
@[simp] theorem e_call {f : Nat} : evE cds cf (.call f es) env s = (evEs cds cf es env s).bind (callF cf f) := by simp only [evE]
@[simp] theorem e_cvar {f : Nat} (h : env[i]? = some (some (.fn f))) : evE cds cf (.cvar i es) env s = (evEs cds cf es env s).bind (callF cf f) := by simp only [evE, h]
def biK (b : Bi) (ds : List D) (s : Sto) : O D := pr (biF b ds s)
@[simp] theorem e_bi {b : Bi} : evE cds cf (.bi b es) env s = (evEs cds cf es env s).bind (biK b) := by simp only [evE]; rfl
@[simp] theorem biK_eq {b : Bi} : biK b ds s = pr (biF b ds s) := asEq rfl
def instK (ty : Ty) (x : D) (s : Sto) : O D := bo (isTy ty x s) s
@[simp] theorem e_inst {ty : Ty} : evE cds cf (.inst ty a) env s = (evE cds cf a env s).bind (instK ty) := by simp only [evE]; rfl
@[simp] theorem instK_eq {ty : Ty} : instK ty x s = bo (isTy ty x s) s := asEq rfl
def metK2 (m : Mt) (x : D) (ds : List D) (s : Sto) : O D := pr (metF m x ds s)
def metK (cds : Cds) (cf : CF) (m : Mt) (es : Es) (env : Env) (x : D) (s : Sto) : O D := match recv m x s with
  | true => (evEs cds cf es env s).bind (metK2 m x)
  | false => none
@[simp] theorem e_met {m : Mt} : evE cds cf (.met m a es) env s = (evE cds cf a env s).bind (metK cds cf m es env) := by simp only [evE]; rfl
theorem metK_t {m : Mt} (h : recv m x s = true) : metK cds cf m es env x s = (evEs cds cf es env s).bind (metK2 m x) := by unfold metK; rw [h]
@[simp] theorem metK_join {x : Txt} : metK cds cf .join es env (.str x) s = (evEs cds cf es env s).bind (metK2 .join (.str x)) := asEq rfl
@[simp] theorem metK_split {x : Txt} : metK cds cf .split es env (.str x) s = (evEs cds cf es env s).bind (metK2 .split (.str x)) := asEq rfl
@[simp] theorem metK_part {x : Txt} : metK cds cf .partition es env (.str x) s = (evEs cds cf es env s).bind (metK2 .partition (.str x)) := asEq rfl
@[simp] theorem metK2_eq {m : Mt} : metK2 m x ds s = pr (metF m x ds s) := asEq rfl
@[simp] theorem es_nil : evEs cds cf .nil env s = ok [] s := by simp only [evEs]
def consK2 (d : D) (ds : List D) (s : Sto) : O (List D) := ok (d :: ds) s
def consK (cds : Cds) (cf : CF) (es : Es) (env : Env) (d : D) (s : Sto) : O (List D) := (evEs cds cf es env s).bind (consK2 d)
@[simp] theorem es_cons : evEs cds cf (.cons e es) env s = (evE cds cf e env s).bind (consK cds cf es env) := by simp only [evEs]; rfl
@[simp] theorem consK_eq : consK cds cf es env d s = (evEs cds cf es env s).bind (consK2 d) := asEq rfl
@[simp] theorem consK2_eq : consK2 d ds s = ok (d :: ds) s := asEq rfl
/-! ### what a loop goes over -/
def seqK (d : D) (s : Sto) : O Src := match srcOf d s with
  | some x => ok x s
  | none => none
@[simp] theorem i_seq : evI cds cf (.seq e) env s = (evE cds cf e env s).bind seqK := by simp only [evI]; rfl
@[simp] theorem seqK_tup {xs : List D} : seqK (.tup xs) s = ok (.items xs) s := asEq rfl
@[simp] theorem seqK_frz {b : Bool} {xs : List D} : seqK (.frz b xs) s = ok (.items xs) s := asEq rfl
@[simp] theorem seqK_str {x : Txt} : seqK (.str x) s = ok (.items (x.map fun c => .str [c])) s := asEq rfl
theorem seqK_ref {a : Nat} {xs : List D} (h : s[a]? = some (.lst xs)) : seqK (.ref a) s = ok (.lst a 0) s := by simp only [seqK, srcOf, h]
def rngK (ds : List D) (s : Sto) : O Src := match rngOf ds with
  | some x => ok x s
  | none => none
@[simp] theorem i_rng : evI cds cf (.rng es) env s = (evEs cds cf es env s).bind rngK := by simp only [evI]; rfl
theorem rngK_1 {k : Int} (h : -1000000 < k ∧ k < 1000000) : rngK [.int k] s = ok (.rng 0 k.toNat) s := by simp only [rngK, rngOf, if_pos h]
theorem rngK_2 {a b : Int} (h : -1000000 < a ∧ a < 1000000 ∧ -1000000 < b ∧ b < 1000000) : rngK [.int a, .int b] s = ok (.rng a (b - a).toNat) s := by simp only [rngK, rngOf, if_pos h]
/-! ### statements -/
@[simp] theorem s_nil : evSs cds cf hot sub .nil env s = ok (.nx env) s := by simp only [evSs]
def seqS (cds : Cds) (cf hot : CF) (sub : Sub) (ss : Ss) : Fl → Sto → O Fl
  | .nx e, s => evSs cds cf hot sub ss e s
  | f, s => ok f s
@[simp] theorem s_cons : evSs cds cf hot sub (.cons st ss) env s = (evS cds cf hot sub st env s).bind (seqS cds cf hot sub ss) := by
  simp only [evSs]; congr 1; funext f s; cases f <;> rfl
@[simp] theorem seqS_nx : seqS cds cf hot sub ss (.nx env) s = evSs cds cf hot sub ss env s := asEq rfl
@[simp] theorem seqS_rt : seqS cds cf hot sub ss (.rt d) s = ok (.rt d) s := asEq rfl
@[simp] theorem seqS_bk : seqS cds cf hot sub ss (.bk env) s = ok (.bk env) s := asEq rfl
@[simp] theorem seqS_ct : seqS cds cf hot sub ss (.ct env) s = ok (.ct env) s := asEq rfl
@[simp] theorem s_pass : evS cds cf hot sub .pass env s = ok (.nx env) s := by simp only [evS]
@[simp] theorem s_brk : evS cds cf hot sub .brk env s = ok (.bk env) s := by simp only [evS]
@[simp] theorem s_cnt : evS cds cf hot sub .cnt env s = ok (.ct env) s := by simp only [evS]
@[simp] theorem s_retN : evS cds cf hot sub .retN env s = ok (.rt .non) s := by simp only [evS]
def retK (d : D) (s : Sto) : O Fl := ok (.rt d) s
@[simp] theorem s_ret : evS cds cf hot sub (.ret e) env s = (evE cds cf e env s).bind retK := by simp only [evS]; rfl
@[simp] theorem retK_eq : retK d s = ok (.rt d) s := asEq rfl
def asgK (t : Tg) (env : Env) (d : D) (s : Sto) : O Fl := match t.set d env with
  | some env => ok (.nx env) s
  | none => none
@[simp] theorem s_asg : evS cds cf hot sub (.asg t e) env s = (evE cds cf e env s).bind (asgK t env) := by simp only [evS]; rfl
@[simp] theorem asgK_nm : asgK (.nm i) env d s = ok (.nx (env.set i (some d))) s := asEq rfl
theorem asgK_tp {is : List Nat} {xs : List D} (h : is.length = xs.length) : asgK (.tp is) env (.tup xs) s = ok (.nx (setAll env is xs)) s := by simp only [asgK, Tg.set, if_pos h]
def parK2 (i j : Nat) (env : Env) (x y : D) (s : Sto) : O Fl := ok (.nx ((env.set i (some x)).set j (some y))) s
def parK (cds : Cds) (cf : CF) (i j : Nat) (b : E) (env : Env) (x : D) (s : Sto) : O Fl := (evE cds cf b env s).bind (parK2 i j env x)
@[simp] theorem s_par : evS cds cf hot sub (.par i j a b) env s = (evE cds cf a env s).bind (parK cds cf i j b env) := by simp only [evS]; rfl
@[simp] theorem parK_eq : parK cds cf i j b env x s = (evE cds cf b env s).bind (parK2 i j env x) := asEq rfl
@[simp] theorem parK2_eq : parK2 i j env x y s = ok (.nx ((env.set i (some x)).set j (some y))) s := asEq rfl
def putK3 (env : Env) (v d y : D) (s : Sto) : O Fl := match putF d y v s with
  | some s' => ok (.nx env) s'
  | none => none
def putK2 (cds : Cds) (cf : CF) (i : E) (env : Env) (v d : D) (s : Sto) : O Fl := (evE cds cf i env s).bind (putK3 env v d)
def putK (cds : Cds) (cf : CF) (o i : E) (env : Env) (v : D) (s : Sto) : O Fl := (evE cds cf o env s).bind (putK2 cds cf i env v)
@[simp] theorem s_put : evS cds cf hot sub (.put a b e) env s = (evE cds cf e env s).bind (putK cds cf a b env) := by simp only [evS]; rfl
@[simp] theorem putK_eq : putK cds cf a b env x s = (evE cds cf a env s).bind (putK2 cds cf b env x) := asEq rfl
@[simp] theorem putK2_eq : putK2 cds cf b env x y s = (evE cds cf b env s).bind (putK3 env x y) := asEq rfl
theorem putK3_some {s' : Sto} (h : putF y z x s = some s') : putK3 env x y z s = ok (.nx env) s' := by unfold putK3; rw [h]
def expK (env : Env) (_ : D) (s : Sto) : O Fl := ok (.nx env) s
@[simp] theorem s_exp : evS cds cf hot sub (.exp e) env s = (evE cds cf e env s).bind (expK env) := by simp only [evS]; rfl
@[simp] theorem expK_eq : expK env d s = ok (.nx env) s := asEq rfl
def iteK (cds : Cds) (cf hot : CF) (sub : Sub) (a b : Ss) (env : Env) : D → Sto → O Fl
  | .bl true, s => evSs cds cf hot sub a env s
  | .bl false, s => evSs cds cf hot sub b env s
  | _, _ => none
@[simp] theorem s_ite {p q : Ss} : evS cds cf hot sub (.ite c p q) env s = (evE cds cf c env s).bind (iteK cds cf hot sub p q env) := by
  simp only [evS]; congr 1; funext x s
  cases x with
  | bl c => cases c <;> rfl
  | _ => rfl
@[simp] theorem iteK_t {p q : Ss} : iteK cds cf hot sub p q env (.bl true) s = evSs cds cf hot sub p env s := asEq rfl
@[simp] theorem iteK_f {p q : Ss} : iteK cds cf hot sub p q env (.bl false) s = evSs cds cf hot sub q env s := asEq rfl
/-- a loop's turn -/
def turn (cds : Cds) (cf hot : CF) (sub : Sub) (t : Tg) (b : Ss) (x : D) (env : Env) (s : Sto) : O Fl := match t.set x env with
  | some env => evSs cds cf hot sub b env s
  | none => none
@[simp] theorem turn_nm {b : Ss} : turn cds cf hot sub (.nm i) b x env s = evSs cds cf hot sub b (env.set i (some x)) s := asEq rfl
theorem turn_tp {b : Ss} {is : List Nat} {xs : List D} (h : is.length = xs.length) : turn cds cf hot sub (.tp is) b (.tup xs) env s = evSs cds cf hot sub b (setAll env is xs) s := by simp only [turn, Tg.set, if_pos h]
def forK (cds : Cds) (cf hot : CF) (sub : Sub) (t : Tg) (b : Ss) (env : Env) (w : Src) (s : Sto) : O Fl := lGo (turn cds cf hot sub t b) (w.fuel s) w env s
@[simp] theorem s_for {b : Ss} : evS cds cf hot sub (.for t it b) env s = (evI cds cf it env s).bind (forK cds cf hot sub t b env) := by simp only [evS]; rfl
@[simp] theorem forK_items {b : Ss} {xs : List D} : forK cds cf hot sub t b env (.items xs) s = loopL (turn cds cf hot sub t b) xs env s := lGo_items rfl
@[simp] theorem forK_rng {b : Ss} {lo : Int} {n : Nat} : forK cds cf hot sub t b env (.rng lo n) s = loopL (turn cds cf hot sub t b) (upto lo n) env s := lGo_rng
/-- over a list of the store: I holds at each turn and keeps the list -/
theorem forK_lst {b : Ss} {a : Nat} {xs : List D} (I : Nat → Env → Sto → Prop) (h0 : I 0 env s) (hI : ∀ i env s, I i env s → s[a]? = some (.lst xs))
    (hk : ∀ (i : Nat) (x : D) (env : Env) (s : Sto), xs[i]? = some x → I i env s → ∀ f s', turn cds cf hot sub t b x env s = ok f s' → (∀ e, f = .nx e → I (i + 1) e s') ∧ ∀ e, f = .ct e → I (i + 1) e s') : forK cds cf hot sub t b env (.lst a 0) s = loopL (turn cds cf hot sub t b) xs env s := by
  have main : ∀ (n i : Nat) (env : Env) (s : Sto), xs.length ≤ n + i → I i env s → lGo (turn cds cf hot sub t b) n (.lst a i) env s = loopL (turn cds cf hot sub t b) (xs.drop i) env s := by
    intro n
    induction n with
    | zero =>
      intro i env s hn hs
      have hl : xs.length ≤ i := by omega
      rw [List.drop_eq_nil_of_le hl]
      unfold lGo
      simp only [nxt, hI _ _ _ hs, List.getElem?_eq_none hl]
      rfl
    | succ n ih =>
      intro i env s hn hs
      cases hx : xs[i]? with
      | none =>
        have hl : xs.length ≤ i := List.getElem?_eq_none_iff.mp hx
        rw [List.drop_eq_nil_of_le hl]
        unfold lGo
        simp only [nxt, hI _ _ _ hs, hx]
        rfl
      | some x =>
        obtain ⟨hl, e⟩ := List.getElem?_eq_some_iff.mp hx
        have hd : xs.drop i = x :: xs.drop (i + 1) := by rw [List.drop_eq_getElem_cons hl, e]
        rw [hd]
        unfold lGo loopL
        simp only [nxt, hI _ _ _ hs, hx]
        cases hg : turn cds cf hot sub t b x env s with
        | none => rfl
        | some r =>
          cases r with
          | exc c fs s' => rfl
          | ok f s' =>
            obtain ⟨k1, k2⟩ := hk i x env s hx hs f s' hg
            cases f with
            | nx e => exact ih (i + 1) e s' (by omega) (k1 e rfl)
            | ct e => exact ih (i + 1) e s' (by omega) (k2 e rfl)
            | bk e => rfl
            | rt d => rfl
  have hf : Src.fuel (.lst a 0) s = xs.length := by simp only [Src.fuel, hI _ _ _ h0]
  unfold forK
  rw [hf, main _ 0 env s (by omega) h0, List.drop_zero]
/-- each item is looked at, one name changes -/
theorem forK_chk {b : Ss} {a : Nat} {xs : List D} {E : Option D → Env} {p : D → Bool} {bad : D} {o : Option D} (h : s[a]? = some (.lst xs)) (ht : ∀ x ∈ xs, ∀ o, turn cds cf hot sub t b x (E o) s = if p x then ok (.nx (E (some x))) s else ok (.rt bad) s) :
    ∃ o', forK cds cf hot sub t b (E o) (.lst a 0) s = if xs.all p then ok (.nx (E o')) s else ok (.rt bad) s := by
  obtain ⟨o', e⟩ := loop_chk (g := turn cds cf hot sub t b) (E := E) (p := p) (bad := bad) (s := s) (xs := xs) (o := o) ht
  refine ⟨o', ?_⟩
  rw [← e]
  refine forK_lst (fun _ env s' => (∃ o, env = E o) ∧ s' = s) ⟨⟨o, rfl⟩, rfl⟩ (fun _ env s' hi => by rw [hi.2]; exact h) fun _ x env s' hx hi f s2 hg => ?_
  obtain ⟨⟨o1, rfl⟩, rfl⟩ := hi
  rw [ht x (List.mem_of_getElem? hx)] at hg
  split at hg
  · cases hg
    exact ⟨fun e h => by cases h; exact ⟨⟨_, rfl⟩, rfl⟩, fun e h => by cases h⟩
  · cases hg
    exact ⟨fun e h => (by cases h), fun e h => (by cases h)⟩
theorem forK_all {b : Ss} {xs : List D} {E : Option D → Env} {p : D → Bool} {bad : D} {o : Option D} (ht : ∀ x ∈ xs, ∀ o, turn cds cf hot sub t b x (E o) s = if p x then ok (.nx (E (some x))) s else ok (.rt bad) s) :
    ∃ o', forK cds cf hot sub t b (E o) (.items xs) s = if xs.all p then ok (.nx (E o')) s else ok (.rt bad) s := by
  rw [forK_items]
  exact loop_chk ht
def rseK (c n : Nat) (ds : List D) (s : Sto) : O Fl := if ds.length = n then some (.exc c ds s) else none
@[simp] theorem s_rse {c n : Nat} : evS cds cf hot sub (.rse c n es) env s = (evEs cds cf es env s).bind (rseK c n) := by simp only [evS]; rfl
theorem rseK_ok {c n : Nat} (h : ds.length = n) : rseK c n ds s = some (.exc c ds s) := by unfold rseK; rw [if_pos h]
def tryK (hot : CF) (sub : Sub) (hs : Hs) : O Fl → O Fl
  | some (.exc c fs s) => evH hot sub hs c fs s
  | r => r
@[simp] theorem s_try {b : Ss} {hs : Hs} : evS cds cf hot sub (.try b hs) env s = tryK hot sub hs (evSs cds cf hot sub b env s) := by
  simp only [evS]
  cases evSs cds cf hot sub b env s with
  | none => rfl
  | some r => cases r <;> rfl
@[simp] theorem tryK_ok {hs : Hs} {f : Fl} : tryK hot sub hs (ok f s) = ok f s := asEq rfl
@[simp] theorem tryK_exc {hs : Hs} {c : Nat} {fs : List D} : tryK hot sub hs (some (.exc c fs s)) = evH hot sub hs c fs s := asEq rfl
@[simp] theorem fin_rtS : fin (ok (.rt d) s) = ok d s := asEq rfl
@[simp] theorem fin_nxS : fin (ok (.nx env) s) = ok .non s := asEq rfl
@[simp] theorem fin_excS {c : Nat} {fs : List D} : fin (some (.exc c fs s)) = some (.exc c fs s) := asEq rfl
/-! ### comprehensions -/
def someK (y : D) (s : Sto) : O (Option D) := ok (some y) s
@[simp] theorem someK_eq : someK d s = ok (some d) s := asEq rfl
def condK (cds : Cds) (cf : CF) (elt : E) (env : Env) : O D → O (Option D)
  | some (.ok (.bl true) s) => (evE cds cf elt env s).bind someK
  | some (.ok (.bl false) s) => ok none s
  | _ => none
@[simp] theorem condK_t : condK cds cf e env (ok (.bl true) s) = (evE cds cf e env s).bind someK := asEq rfl
@[simp] theorem condK_f : condK cds cf e env (ok (.bl false) s) = ok none s := asEq rfl
/-- an item's element -/
def compG (cds : Cds) (cf : CF) (elt : E) (tg : Tg) (cond : Eo) (own : List Nat) (env : Env) (x : D) (s : Sto) : O (Option D) := match tg.set x (wipeE env own) with
  | some env' => match cond with
    | .none => (evE cds cf elt env' s).bind someK
    | .some c => condK cds cf elt env' (evE cds cf c env' s)
  | none => none
theorem compG_n {own : List Nat} : compG cds cf e (.nm j) .none own env x s = (evE cds cf e ((wipeE env own).set j (some x)) s).bind someK := rfl
theorem compG_c {own : List Nat} : compG cds cf e (.nm j) (.some c) own env x s = condK cds cf e ((wipeE env own).set j (some x)) (evE cds cf c ((wipeE env own).set j (some x)) s) := rfl
theorem compG_tn {own is : List Nat} {xs : List D} (h : is.length = xs.length) : compG cds cf e (.tp is) .none own env (.tup xs) s = (evE cds cf e (setAll (wipeE env own) is xs) s).bind someK := by simp only [compG, Tg.set, if_pos h]
def listK (ys : List D) (s : Sto) : O D := pr (some (new (.lst ys) s))
def compK (g : D → Sto → O (Option D)) (w : Src) (s : Sto) : O D := (cGo g (w.fuel s) w [] s).bind listK
theorem e_comp {src : It} {cond : Eo} {own : List Nat} (h : dictOf src env s = none) : evE cds cf (.comp e t src cond own) env s = (evI cds cf src env s).bind (compK (compG cds cf e t cond own env)) := by
  simp only [evE, h]
  congr 1
  funext w s1
  have main : ∀ x s, (match t.set x (wipeE env own) with
    | some env' => match cond, evO cds cf cond env' s with
      | .none, _ => (evE cds cf e env' s).bind fun y s => ok (some y) s
      | .some _, some (.ok (.bl true) s) => (evE cds cf e env' s).bind fun y s => ok (some y) s
      | .some _, some (.ok (.bl false) s) => ok none s
      | _, _ => none
    | none => none) = compG cds cf e t cond own env x s := by
    intro x s
    unfold compG
    cases t.set x (wipeE env own) with
    | none => rfl
    | some env' =>
      cases cond with
      | none => rfl
      | some c =>
        simp only [evO]
        cases evE cds cf c env' s with
        | none => rfl
        | some r =>
          cases r with
          | exc _ _ _ => rfl
          | ok d s =>
            cases d with
            | bl b => cases b <;> rfl
            | _ => rfl
  unfold compK
  show (cGo _ (w.fuel s1) w [] s1).bind listK = _
  congr 2
  funext x s
  exact main x s
theorem cGo_items {g : D → Sto → O (Option D)} {f : D → Option D} : ∀ {xs acc : List D} {n : Nat}, (∀ x ∈ xs, g x s = ok (f x) s) → xs.length ≤ n → acc.length + xs.length ≤ 1000000 → cGo g n (.items xs) acc s = ok (acc ++ xs.filterMap f) s
  | [], acc, n, _, _, _ => by
    unfold cGo
    simp only [nxt, List.filterMap_nil, List.append_nil]
  | x :: xs, acc, n, h, hn, hl => by
    cases n with
    | zero => simp at hn
    | succ n =>
      have hx := h x (List.mem_cons_self ..)
      have ih := fun acc => cGo_items (g := g) (f := f) (xs := xs) (acc := acc) (n := n) (fun y hy => h y (List.mem_cons_of_mem _ hy)) (by simpa using hn)
      simp only [List.length_cons] at hl
      have hsm : small acc.length = true := Nat.ble_eq_true_of_le (by omega)
      unfold cGo
      simp only [nxt, hx]
      cases hf : f x with
      | none =>
        simp only [ok]
        rw [ih acc (by omega), List.filterMap_cons, hf]
        rfl
      | some y =>
        simp only [ok, hsm, if_true]
        rw [ih (acc ++ [y]) (by simp; omega), List.filterMap_cons, hf, List.append_assoc]
        rfl
theorem cGo_lst {g : D → Sto → O (Option D)} {f : D → Option D} {a : Nat} {xs : List D} (hs : s[a]? = some (.lst xs)) (h : ∀ x ∈ xs, g x s = ok (f x) s) : ∀ {n i : Nat} {acc : List D}, xs.length ≤ n + i → acc.length + xs.length ≤ 1000000 + i → cGo g n (.lst a i) acc s = ok (acc ++ (xs.drop i).filterMap f) s
  | n, i, acc, hn, hl => by
    cases hx : xs[i]? with
    | none =>
      have hle : xs.length ≤ i := List.getElem?_eq_none_iff.mp hx
      rw [List.drop_eq_nil_of_le hle]
      unfold cGo
      simp only [nxt, hs, hx, List.filterMap_nil, List.append_nil]
    | some x =>
      obtain ⟨hlt, e⟩ := List.getElem?_eq_some_iff.mp hx
      have hd : xs.drop i = x :: xs.drop (i + 1) := by rw [List.drop_eq_getElem_cons hlt, e]
      rw [hd]
      cases n with
      | zero => omega
      | succ n =>
        have hg := h x (List.mem_of_getElem? hx)
        have hsm : small acc.length = true := Nat.ble_eq_true_of_le (by omega)
        unfold cGo
        simp only [nxt, hs, hx, hg]
        cases hf : f x with
        | none =>
          simp only [ok]
          rw [cGo_lst hs h (n := n) (i := i + 1) (acc := acc) (by omega) (by omega), List.filterMap_cons, hf]
          rfl
        | some y =>
          simp only [ok, hsm, if_true]
          rw [cGo_lst hs h (n := n) (i := i + 1) (acc := acc ++ [y]) (by omega) (by simp; omega), List.filterMap_cons, hf, List.append_assoc]
          rfl
/-- over a list of the store -/
theorem compK_lst {g : D → Sto → O (Option D)} {f : D → Option D} {a : Nat} {xs : List D} (hs : s[a]? = some (.lst xs)) (h : ∀ x ∈ xs, g x s = ok (f x) s) (hl : xs.length ≤ 1000000) : compK g (.lst a 0) s = ok (.ref s.length) (s ++ [.lst (xs.filterMap f)]) := by
  unfold compK
  rw [cGo_lst hs h (i := 0) (by simp only [Src.fuel, hs]; omega) (by simp; omega)]
  rfl
theorem compK_items {g : D → Sto → O (Option D)} {f : D → Option D} {xs : List D} (h : ∀ x ∈ xs, g x s = ok (f x) s) (hl : xs.length ≤ 1000000) : compK g (.items xs) s = ok (.ref s.length) (s ++ [.lst (xs.filterMap f)]) := by
  unfold compK
  rw [show Src.fuel (.items xs) s = xs.length from rfl, cGo_items h (Nat.le_refl _) (by simp; omega)]
  rfl
theorem dictOf_lst {a : Nat} {xs : List D} (hv : env[i]? = some (some (.ref a))) (hs : s[a]? = some (.lst xs)) : dictOf (.seq (.var i)) env s = none := by
  simp only [dictOf, hv, hs, keysOf, Option.map_none]
/-- over a dict: its keys -/
theorem e_compD {src : It} {cond : Eo} {own : List Nat} {a : Nat} {o : Ob} {ks : List D} {f : D → Option D} (h : dictOf src env s = some (a, o, ks)) (hs : s[a]? = some o) (hg : ∀ x ∈ ks, compG cds cf e t cond own env x (s.set a (.lk o)) = ok (f x) (s.set a (.lk o))) (hl : ks.length ≤ 1000000) :
    evE cds cf (.comp e t src cond own) env s = ok (.ref s.length) (s ++ [.lst (ks.filterMap f)]) := by
  have main : ∀ g : D → Sto → O (Option D), (∀ x s, g x s = compG cds cf e t cond own env x s) → (match cGo g ks.length (.items ks) [] (s.set a (.lk o)) with
      | some (.ok ys s') => match s'[a]? with
        | some (.lk o') => pr (some (new (.lst ys) (s'.set a o')))
        | _ => none
      | _ => none) = ok (.ref s.length) (s ++ [.lst (ks.filterMap f)]) := by
    intro g hgg
    have ha := (List.getElem?_eq_some_iff.mp hs).1
    rw [cGo_items (f := f) (s := s.set a (.lk o)) (fun x hx => by rw [hgg]; exact hg x hx) (Nat.le_refl _) (by simp; omega)]
    simp only [ok, List.getElem?_set_self ha, List.nil_append]
    have e2 : (s.set a (.lk o)).set a o = s := by
      rw [List.set_set]
      have e3 := (List.getElem?_eq_some_iff.mp hs).2
      rw [← e3]
      exact List.set_getElem_self ha
    rw [e2]
    rfl
  simp only [evE, h]
  refine main _ fun x s => ?_
  unfold compG
  cases t.set x (wipeE env own) with
  | none => rfl
  | some env' =>
    cases cond with
    | none => rfl
    | some c =>
      simp only [evO]
      cases evE cds cf c env' s with
      | none => rfl
      | some r =>
        cases r with
        | exc _ _ _ => rfl
        | ok d s =>
          cases d with
          | bl b => cases b <;> rfl
          | _ => rfl
def srtK (cf : CF) (f : Nat) (x : D) (s : Sto) : O D := match lstOf x s with
  | some xs => match keysF cf f xs with
    | some ks => match sortOk ks with
      | true => pr (some (new (.lst ((isort (fun p q => dle p.1 q.1) (ks.zip xs)).map (·.2))) s))
      | false => none
    | none => none
  | none => none
@[simp] theorem e_srt {f : Nat} : evE cds cf (.srt f a) env s = (evE cds cf a env s).bind (srtK cf f) := by simp only [evE]; rfl
theorem srtK_ok {f a : Nat} {xs ks : List D} (hs : s[a]? = some (.lst xs)) (hk : keysF cf f xs = some ks) (ho : sortOk ks = true) : srtK cf f (.ref a) s = ok (.ref s.length) (s ++ [.lst ((isort (fun p q => dle p.1 q.1) (ks.zip xs)).map (·.2))]) := by
  simp only [srtK, lstOf, hs, hk, ho]
  rfl
/-! ### operators -/
@[simp] theorem zc_lt {i j : Int} : cmpF cds .lt (.int i) (.int j) s = some (decide (i < j)) := asEq rfl
@[simp] theorem zc_le {i j : Int} : cmpF cds .le (.int i) (.int j) s = some (decide (i ≤ j)) := asEq rfl
@[simp] theorem zc_gt {i j : Int} : cmpF cds .gt (.int i) (.int j) s = some (decide (j < i)) := asEq rfl
@[simp] theorem zc_ge {i j : Int} : cmpF cds .ge (.int i) (.int j) s = some (decide (j ≤ i)) := asEq rfl
@[simp] theorem zc_in : cmpF cds .isin x y s = inF cds x y s := asEq rfl
@[simp] theorem zc_nin : cmpF cds .notin x y s = (inF cds x y s).map not := asEq rfl
@[simp] theorem zc_eqi {i j : Int} : cmpF cds .eq (.int i) (.int j) s = some (i == j) := asEq rfl
@[simp] theorem zc_nei {i j : Int} : cmpF cds .ne (.int i) (.int j) s = some (!(i == j)) := asEq rfl
@[simp] theorem zc_eqb {i j : Bool} : cmpF cds .eq (.bl i) (.bl j) s = some (i == j) := asEq rfl
@[simp] theorem zb_addi {i j : Int} : binF .add (.int i) (.int j) s = some (.int (i + j), s) := asEq rfl
@[simp] theorem zb_subi {i j : Int} : binF .sub (.int i) (.int j) s = some (.int (i - j), s) := asEq rfl
@[simp] theorem zi_int {i : Int} : biF .int [.int i] s = some (.int i, s) := asEq rfl
@[simp] theorem zi_lent {xs : List D} : biF .len [.tup xs] s = some (.int xs.length, s) := asEq rfl
@[simp] theorem zi_tupt {xs : List D} : biF .tuple [.tup xs] s = some (.tup xs, s) := asEq rfl
theorem zi_lenl {a : Nat} {xs : List D} (h : s[a]? = some (.lst xs)) : biF .len [.ref a] s = some (.int xs.length, s) := by simp only [biF, h]
theorem zi_tupl {a : Nat} {xs : List D} (h : s[a]? = some (.lst xs)) : biF .tuple [.ref a] s = some (.tup xs, s) := by simp only [biF, h]
theorem zi_lens {x : Txt} (h : small x.length = true) : biF .len [.str x] s = some (.int x.length, s) := by simp only [biF, h, if_true]
@[simp] theorem zt_str_non : isTy .str .non s = some false := asEq rfl
@[simp] theorem zt_str_bl {b : Bool} : isTy .str (.bl b) s = some false := asEq rfl
@[simp] theorem zt_str_int {i : Int} : isTy .str (.int i) s = some false := asEq rfl
@[simp] theorem zt_str_str {x : Txt} : isTy .str (.str x) s = some true := asEq rfl
@[simp] theorem zt_str_tup {xs : List D} : isTy .str (.tup xs) s = some false := asEq rfl
theorem zt_str_ref {a : Nat} {xs : List D} (h : s[a]? = some (.lst xs)) : isTy .str (.ref a) s = some false := by simp only [isTy, h]
@[simp] theorem zt_int_non : isTy .int .non s = some false := asEq rfl
@[simp] theorem zt_int_bl {b : Bool} : isTy .int (.bl b) s = some true := asEq rfl
@[simp] theorem zt_int_int {i : Int} : isTy .int (.int i) s = some true := asEq rfl
@[simp] theorem zt_int_str {x : Txt} : isTy .int (.str x) s = some false := asEq rfl
@[simp] theorem zt_int_tup {xs : List D} : isTy .int (.tup xs) s = some false := asEq rfl
theorem zt_int_ref {a : Nat} {xs : List D} (h : s[a]? = some (.lst xs)) : isTy .int (.ref a) s = some false := by simp only [isTy, h]
@[simp] theorem zt_bool_non : isTy .bool .non s = some false := asEq rfl
@[simp] theorem zt_bool_bl {b : Bool} : isTy .bool (.bl b) s = some true := asEq rfl
@[simp] theorem zt_bool_int {i : Int} : isTy .bool (.int i) s = some false := asEq rfl
@[simp] theorem zt_bool_str {x : Txt} : isTy .bool (.str x) s = some false := asEq rfl
@[simp] theorem zt_bool_tup {xs : List D} : isTy .bool (.tup xs) s = some false := asEq rfl
theorem zt_bool_ref {a : Nat} {xs : List D} (h : s[a]? = some (.lst xs)) : isTy .bool (.ref a) s = some false := by simp only [isTy, h]
@[simp] theorem zt_tuple_non : isTy .tuple .non s = some false := asEq rfl
@[simp] theorem zt_tuple_bl {b : Bool} : isTy .tuple (.bl b) s = some false := asEq rfl
@[simp] theorem zt_tuple_int {i : Int} : isTy .tuple (.int i) s = some false := asEq rfl
@[simp] theorem zt_tuple_str {x : Txt} : isTy .tuple (.str x) s = some false := asEq rfl
@[simp] theorem zt_tuple_tup {xs : List D} : isTy .tuple (.tup xs) s = some true := asEq rfl
theorem zt_tuple_ref {a : Nat} {xs : List D} (h : s[a]? = some (.lst xs)) : isTy .tuple (.ref a) s = some false := by simp only [isTy, h]
@[simp] theorem zt_list_non : isTy .list .non s = some false := asEq rfl
@[simp] theorem zt_list_bl {b : Bool} : isTy .list (.bl b) s = some false := asEq rfl
@[simp] theorem zt_list_int {i : Int} : isTy .list (.int i) s = some false := asEq rfl
@[simp] theorem zt_list_str {x : Txt} : isTy .list (.str x) s = some false := asEq rfl
@[simp] theorem zt_list_tup {xs : List D} : isTy .list (.tup xs) s = some false := asEq rfl
theorem zt_list_ref {a : Nat} {xs : List D} (h : s[a]? = some (.lst xs)) : isTy .list (.ref a) s = some true := by simp only [isTy, h]
/-! ### one statement after the other -/
theorem step {env' : Env} {s' : Sto} (h : evS cds cf hot sub st env s = ok (.nx env') s') : evSs cds cf hot sub (.cons st ss) env s = evSs cds cf hot sub ss env' s' := by
  rw [s_cons, h, bind_okS, seqS_nx]
theorem last {s' : Sto} (h : evS cds cf hot sub st env s = ok (.rt d) s') : evSs cds cf hot sub (.cons st ss) env s = ok (.rt d) s' := by
  rw [s_cons, h, bind_okS, seqS_rt]
end
/-- the store has grown -/
def Pre (s s' : Sto) : Prop := ∃ t, s' = s ++ t
theorem Pre.refl {s : Sto} : Pre s s := ⟨[], (List.append_nil s).symm⟩
theorem Pre.trans {s s' s'' : Sto} (h : Pre s s') (k : Pre s' s'') : Pre s s'' := by
  obtain ⟨t, rfl⟩ := h
  obtain ⟨u, rfl⟩ := k
  exact ⟨t ++ u, List.append_assoc ..⟩
theorem Pre.app {s t : Sto} : Pre s (s ++ t) := ⟨t, rfl⟩
theorem Pre.get {s s' : Sto} (h : Pre s s') {a : Nat} {o : Ob} (e : s[a]? = some o) : s'[a]? = some o := by
  obtain ⟨t, rfl⟩ := h
  rw [List.getElem?_append_left (List.getElem?_eq_some_iff.mp e).1]
  exact e
end Ev
end
section
set_option Elab.async false
set_option linter.all false
set_option maxRecDepth 100000
set_option autoImplicit false
/-! The defs as the evaluator reads them (printed by PrT). -/
namespace K91
open Ev
/-- is_name -/
def b0 : Ss := (.cons (.ite (.not (.inst .str (.var 0))) (.cons (.ret (.cst (.bl false))) .nil) .nil) (.cons (.ite (.or (.cmp .lt (.bi .len (.cons (.var 0) .nil)) (.cst (.int 1))) (.cmp .gt (.bi .len (.cons (.var 0) .nil)) (.cst (.int 12)))) (.cons (.ret (.cst (.bl false))) .nil) .nil) (.cons (.ite (.cmp .notin (.ix (.var 0) (.cst (.int 0))) (.cst (.str [97, 98, 99, 100, 101, 102, 103, 104, 105, 106, 107, 108, 109, 110, 111, 112, 113, 114, 115, 116, 117, 118, 119, 120, 121, 122]))) (.cons (.ret (.cst (.bl false))) .nil) .nil) (.cons (.for (.nm 1) (.seq (.var 0)) (.cons (.ite (.cmp .notin (.var 1) (.cst (.str [97, 98, 99, 100, 101, 102, 103, 104, 105, 106, 107, 108, 109, 110, 111, 112, 113, 114, 115, 116, 117, 118, 119, 120, 121, 122, 48, 49, 50, 51, 52, 53, 54, 55, 56, 57]))) (.cons (.ret (.cst (.bl false))) .nil) .nil) .nil)) (.cons (.ret (.cst (.bl true))) .nil)))))
def f0 : Fn := ⟨1, 2, b0⟩
/-- check_name -/
def b1 : Ss := (.cons (.ite (.not (.call 0 (.cons (.var 0) .nil))) (.cons (.rse 1 1 (.cons (.var 0) .nil)) .nil) .nil) (.cons (.ret (.var 0)) .nil))
def f1 : Fn := ⟨1, 1, b1⟩
/-- is_place -/
def b2 : Ss := (.cons (.ite (.not (.inst .str (.var 0))) (.cons (.ret (.cst (.bl false))) .nil) .nil) (.cons (.asg (.nm 1) (.met .split (.var 0) (.cons (.cst (.str [46])) .nil))) (.cons (.ite (.cmp .gt (.bi .len (.cons (.var 1) .nil)) (.cst (.int 4))) (.cons (.ret (.cst (.bl false))) .nil) .nil) (.cons (.for (.nm 2) (.seq (.var 1)) (.cons (.ite (.not (.call 0 (.cons (.var 2) .nil))) (.cons (.ret (.cst (.bl false))) .nil) .nil) .nil)) (.cons (.ret (.cst (.bl true))) .nil)))))
def f2 : Fn := ⟨1, 3, b2⟩
/-- place_parts -/
def b3 : Ss := (.cons (.ite (.not (.call 2 (.cons (.var 0) .nil))) (.cons (.rse 1 1 (.cons (.var 0) .nil)) .nil) .nil) (.cons (.asg (.nm 1) (.met .split (.var 0) (.cons (.cst (.str [46])) .nil))) (.cons (.ret (.tup (.cons (.bi .tuple (.cons (.sl (.var 1) .none (.some (.neg (.cst (.int 1))))) .nil)) (.cons (.ix (.var 1) (.neg (.cst (.int 1)))) .nil)))) .nil)))
def f3 : Fn := ⟨1, 2, b3⟩
/-- join_place -/
def b4 : Ss := (.cons (.ret (.bin .add (.bin .add (.var 0) (.cst (.str [46]))) (.var 1))) .nil)
def f4 : Fn := ⟨2, 2, b4⟩
/-- first_duplicate -/
def b5 : Ss := (.cons (.asg (.nm 1) .dnew) (.cons (.for (.nm 2) (.seq (.var 0)) (.cons (.ite (.cmp .isin (.var 2) (.var 1)) (.cons (.ret (.var 2)) .nil) .nil) (.cons (.put (.var 1) (.var 2) (.cst (.bl true))) .nil))) (.cons (.ret (.cst .non)) .nil)))
def f5 : Fn := ⟨1, 3, b5⟩
/-- is_whole -/
def b6 : Ss := (.cons (.ret (.and (.inst .int (.var 0)) (.not (.inst .bool (.var 0))))) .nil)
def f6 : Fn := ⟨1, 1, b6⟩
/-- is_fraction -/
def b7 : Ss := (.cons (.ite (.or (.not (.inst .tuple (.var 0))) (.cmp .ne (.bi .len (.cons (.var 0) .nil)) (.cst (.int 2)))) (.cons (.ret (.cst (.bl false))) .nil) .nil) (.cons (.ite (.or (.not (.call 6 (.cons (.ix (.var 0) (.cst (.int 0))) .nil))) (.not (.call 6 (.cons (.ix (.var 0) (.cst (.int 1))) .nil)))) (.cons (.ret (.cst (.bl false))) .nil) .nil) (.cons (.ret (.and (.cmp .gt (.ix (.var 0) (.cst (.int 1))) (.cst (.int 0))) (.cmp .eq (.bi .gcd (.cons (.ix (.var 0) (.cst (.int 0))) (.cons (.ix (.var 0) (.cst (.int 1))) .nil))) (.cst (.int 1))))) .nil)))
def f7 : Fn := ⟨1, 1, b7⟩
/-- is_range -/
def b8 : Ss := (.cons (.ite (.or (.not (.inst .tuple (.var 0))) (.cmp .ne (.bi .len (.cons (.var 0) .nil)) (.cst (.int 2)))) (.cons (.ret (.cst (.bl false))) .nil) .nil) (.cons (.ite (.or (.not (.call 7 (.cons (.ix (.var 0) (.cst (.int 0))) .nil))) (.not (.call 7 (.cons (.ix (.var 0) (.cst (.int 1))) .nil)))) (.cons (.ret (.cst (.bl false))) .nil) .nil) (.cons (.ret (.cmp .le (.call 12 (.cons (.ix (.var 0) (.cst (.int 0))) (.cons (.ix (.var 0) (.cst (.int 1))) .nil))) (.cst (.int 0)))) .nil)))
def f8 : Fn := ⟨1, 1, b8⟩
/-- fraction -/
def b9 : Ss := (.cons (.ite (.cmp .eq (.var 1) (.cst (.int 0))) (.cons (.rse 4 1 (.cons (.var 0) .nil)) .nil) .nil) (.cons (.ite (.cmp .lt (.var 1) (.cst (.int 0))) (.cons (.asg (.nm 0) (.neg (.var 0))) (.cons (.asg (.nm 1) (.neg (.var 1))) .nil)) .nil) (.cons (.asg (.nm 2) (.bi .gcd (.cons (.var 0) (.cons (.var 1) .nil)))) (.cons (.ret (.tup (.cons (.bin .fdiv (.var 0) (.var 2)) (.cons (.bin .fdiv (.var 1) (.var 2)) .nil)))) .nil))))
def f9 : Fn := ⟨2, 3, b9⟩
/-- plus -/
def b10 : Ss := (.cons (.ret (.call 9 (.cons (.bin .add (.bin .mul (.ix (.var 0) (.cst (.int 0))) (.ix (.var 1) (.cst (.int 1)))) (.bin .mul (.ix (.var 1) (.cst (.int 0))) (.ix (.var 0) (.cst (.int 1))))) (.cons (.bin .mul (.ix (.var 0) (.cst (.int 1))) (.ix (.var 1) (.cst (.int 1)))) .nil)))) .nil)
def f10 : Fn := ⟨2, 2, b10⟩
/-- minus -/
def b11 : Ss := (.cons (.ret (.call 9 (.cons (.bin .sub (.bin .mul (.ix (.var 0) (.cst (.int 0))) (.ix (.var 1) (.cst (.int 1)))) (.bin .mul (.ix (.var 1) (.cst (.int 0))) (.ix (.var 0) (.cst (.int 1))))) (.cons (.bin .mul (.ix (.var 0) (.cst (.int 1))) (.ix (.var 1) (.cst (.int 1)))) .nil)))) .nil)
def f11 : Fn := ⟨2, 2, b11⟩
/-- compare -/
def b12 : Ss := (.cons (.asg (.nm 2) (.bin .mul (.ix (.var 0) (.cst (.int 0))) (.ix (.var 1) (.cst (.int 1))))) (.cons (.asg (.nm 3) (.bin .mul (.ix (.var 1) (.cst (.int 0))) (.ix (.var 0) (.cst (.int 1))))) (.cons (.ite (.cmp .lt (.var 2) (.var 3)) (.cons (.ret (.neg (.cst (.int 1)))) .nil) .nil) (.cons (.ite (.cmp .gt (.var 2) (.var 3)) (.cons (.ret (.cst (.int 1))) .nil) .nil) (.cons (.ret (.cst (.int 0))) .nil)))))
def f12 : Fn := ⟨2, 4, b12⟩
/-- write_whole -/
def b13 : Ss := (.cons (.ite (.or (.cmp .ge (.var 0) (.cst (.int 1000000000000000000000000000000000000000000000000000000000000000000000000000000000000000000000000000000000000000000000000000000000000000000000000000000000000000000000000000000000000000000000000000000000000000000000000000000000000000000000000000000000000000000000000000000000000000000000000000000000000000000000000000000000000000000000000000000000000000000000000000000000000000000000000000000000000000000000000000000000000000000000000000000000000000000000000000000000000000000000000000000000000000000000000000000000000000000000000000000000000000000000000000000000000000000000000000000000000000000000000))) (.cmp .le (.var 0) (.neg (.cst (.int 1000000000000000000000000000000000000000000000000000000000000000000000000000000000000000000000000000000000000000000000000000000000000000000000000000000000000000000000000000000000000000000000000000000000000000000000000000000000000000000000000000000000000000000000000000000000000000000000000000000000000000000000000000000000000000000000000000000000000000000000000000000000000000000000000000000000000000000000000000000000000000000000000000000000000000000000000000000000000000000000000000000000000000000000000000000000000000000000000000000000000000000000000000000000000000000000000000000000000000000000000))))) (.cons (.rse 5 2 (.cons (.cst (.str [100, 105, 103, 105, 116, 115])) (.cons (.cst (.int 600)) .nil))) .nil) .nil) (.cons (.ret (.bi .str (.cons (.var 0) .nil))) .nil))
def f13 : Fn := ⟨1, 1, b13⟩
/-- write_fraction -/
def b14 : Ss := (.cons (.asg (.nm 1) (.call 13 (.cons (.ix (.var 0) (.cst (.int 0))) .nil))) (.cons (.ite (.cmp .eq (.ix (.var 0) (.cst (.int 1))) (.cst (.int 1))) (.cons (.ret (.var 1)) .nil) .nil) (.cons (.ret (.bin .add (.bin .add (.var 1) (.cst (.str [47]))) (.call 13 (.cons (.ix (.var 0) (.cst (.int 1))) .nil)))) .nil)))
def f14 : Fn := ⟨1, 2, b14⟩
/-- are_digits -/
def b15 : Ss := (.cons (.ite (.or (.cmp .lt (.bi .len (.cons (.var 0) .nil)) (.cst (.int 1))) (.cmp .gt (.bi .len (.cons (.var 0) .nil)) (.cst (.int 600)))) (.cons (.ret (.cst (.bl false))) .nil) .nil) (.cons (.for (.nm 1) (.seq (.var 0)) (.cons (.ite (.cmp .notin (.var 1) (.cst (.str [48, 49, 50, 51, 52, 53, 54, 55, 56, 57]))) (.cons (.ret (.cst (.bl false))) .nil) .nil) .nil)) (.cons (.ret (.or (.cmp .ne (.ix (.var 0) (.cst (.int 0))) (.cst (.str [48]))) (.cmp .eq (.bi .len (.cons (.var 0) .nil)) (.cst (.int 1))))) .nil)))
def f15 : Fn := ⟨1, 2, b15⟩
/-- is_written_whole -/
def b16 : Ss := (.cons (.ite (.cmp .eq (.sl (.var 0) .none (.some (.cst (.int 1)))) (.cst (.str [45]))) (.cons (.ret (.and (.call 15 (.cons (.sl (.var 0) (.some (.cst (.int 1))) .none) .nil)) (.cmp .ne (.ix (.var 0) (.cst (.int 1))) (.cst (.str [48]))))) .nil) .nil) (.cons (.ret (.call 15 (.cons (.var 0) .nil))) .nil))
def f16 : Fn := ⟨1, 1, b16⟩
/-- read_whole -/
def b17 : Ss := (.cons (.ite (.not (.call 16 (.cons (.var 0) .nil))) (.cons (.rse 2 1 (.cons (.var 0) .nil)) .nil) .nil) (.cons (.ret (.bi .int (.cons (.var 0) .nil))) .nil))
def f17 : Fn := ⟨1, 1, b17⟩
/-- read_fraction -/
def b18 : Ss := (.cons (.asg (.tp [2, 3, 4]) (.met .partition (.var 0) (.cons (.cst (.str [47])) .nil))) (.cons (.ite (.not (.call 16 (.cons (.var 2) .nil))) (.cons (.rse 3 1 (.cons (.var 0) .nil)) .nil) .nil) (.cons (.ite (.cmp .eq (.var 3) (.cst (.str []))) (.cons (.ret (.tup (.cons (.bi .int (.cons (.var 2) .nil)) (.cons (.cst (.int 1)) .nil)))) .nil) .nil) (.cons (.ite (.not (.call 15 (.cons (.var 4) .nil))) (.cons (.rse 3 1 (.cons (.var 0) .nil)) .nil) .nil) (.cons (.asg (.nm 1) (.tup (.cons (.bi .int (.cons (.var 2) .nil)) (.cons (.bi .int (.cons (.var 4) .nil)) .nil)))) (.cons (.ite (.or (.cmp .lt (.ix (.var 1) (.cst (.int 1))) (.cst (.int 2))) (.not (.call 7 (.cons (.var 1) .nil)))) (.cons (.rse 3 1 (.cons (.var 0) .nil)) .nil) .nil) (.cons (.ret (.var 1)) .nil)))))))
def f18 : Fn := ⟨1, 5, b18⟩
/-- is_between -/
def b19 : Ss := (.cons (.ret (.and (.call 6 (.cons (.var 0) .nil)) (.chn .le .le (.var 1) (.var 0) (.var 2)))) .nil)
def f19 : Fn := ⟨3, 3, b19⟩
/-- is_measure -/
def b20 : Ss := (.cons (.ite (.not (.call 7 (.cons (.var 0) .nil))) (.cons (.ret (.cst (.bl false))) .nil) .nil) (.cons (.ret (.and (.chn .le .le (.neg (.cst (.int 1000000))) (.ix (.var 0) (.cst (.int 0))) (.cst (.int 1000000))) (.cmp .le (.ix (.var 0) (.cst (.int 1))) (.cst (.int 1000))))) .nil))
def f20 : Fn := ⟨1, 1, b20⟩
/-- is_rate -/
def b21 : Ss := (.cons (.ret (.and (.call 20 (.cons (.var 0) .nil)) (.cmp .ge (.ix (.var 0) (.cst (.int 0))) (.cst (.int 0))))) .nil)
def f21 : Fn := ⟨1, 1, b21⟩
/-- is_measured_range -/
def b22 : Ss := (.cons (.ret (.and (.call 8 (.cons (.var 0) .nil)) (.and (.call 20 (.cons (.ix (.var 0) (.cst (.int 0))) .nil)) (.call 20 (.cons (.ix (.var 0) (.cst (.int 1))) .nil))))) .nil)
def f22 : Fn := ⟨1, 1, b22⟩
/-- is_row -/
def b23 : Ss := (.cons (.ret (.and (.inst .tuple (.var 0)) (.cmp .eq (.bi .len (.cons (.var 0) .nil)) (.var 1)))) .nil)
def f23 : Fn := ⟨2, 2, b23⟩
/-- are_rows -/
def b24 : Ss := (.cons (.ret (.and (.inst .tuple (.var 0)) (.chn .le .le (.var 1) (.bi .len (.cons (.var 0) .nil)) (.var 2)))) .nil)
def f24 : Fn := ⟨3, 3, b24⟩
/-- are_names -/
def b25 : Ss := (.cons (.ite (.not (.call 24 (.cons (.var 0) (.cons (.var 1) (.cons (.var 2) .nil))))) (.cons (.ret (.cst (.bl false))) .nil) .nil) (.cons (.for (.nm 3) (.seq (.var 0)) (.cons (.ite (.not (.call 0 (.cons (.var 3) .nil))) (.cons (.ret (.cst (.bl false))) .nil) .nil) .nil)) (.cons (.ret (.isN false (.call 5 (.cons (.var 0) .nil)))) .nil)))
def f25 : Fn := ⟨3, 4, b25⟩
/-- is_key -/
def b26 : Ss := (.cons (.ite (.not (.call 23 (.cons (.var 0) (.cons (.cst (.int 3)) .nil)))) (.cons (.ret (.cst (.bl false))) .nil) .nil) (.cons (.asg (.tp [1, 2, 3]) (.var 0)) (.cons (.ite (.or (.not (.inst .str (.var 1))) (.or (.cmp .notin (.var 1) (.cst (.frz true [(.str [100, 114, 97, 119, 105, 110, 103]), (.str [98, 105, 108, 108]), (.str [114, 111, 117, 116, 105, 110, 103]), (.str [109, 97, 99, 104, 105, 110, 101]), (.str [116, 111, 111, 108]), (.str [112, 101, 114, 115, 111, 110]), (.str [103, 97, 117, 103, 101]), (.str [112, 114, 105, 99, 101]), (.str [99, 104, 97, 110, 103, 101])]))) (.not (.call 0 (.cons (.var 2) .nil))))) (.cons (.ret (.cst (.bl false))) .nil) .nil) (.cons (.ite (.cmp .isin (.var 1) (.cst (.frz true [(.str [100, 114, 97, 119, 105, 110, 103]), (.str [98, 105, 108, 108]), (.str [114, 111, 117, 116, 105, 110, 103])]))) (.cons (.ret (.call 19 (.cons (.var 3) (.cons (.cst (.int 1)) (.cons (.cst (.int 9999)) .nil))))) .nil) .nil) (.cons (.ret (.call 19 (.cons (.var 3) (.cons (.cst (.int 0)) (.cons (.cst (.int 0)) .nil))))) .nil)))))
def f26 : Fn := ⟨1, 4, b26⟩
/-- is_end -/
def b27 : Ss := (.cons (.ite (.not (.call 2 (.cons (.var 0) .nil))) (.cons (.ret (.cst (.bl false))) .nil) .nil) (.cons (.ret (.or (.cmp .isin (.cst (.str [46])) (.var 0)) (.cmp .isin (.var 0) (.var 1)))) .nil))
def f27 : Fn := ⟨2, 2, b27⟩
/-- is_span -/
def b28 : Ss := (.cons (.ite (.not (.call 23 (.cons (.var 0) (.cons (.cst (.int 5)) .nil)))) (.cons (.ret (.cst (.bl false))) .nil) .nil) (.cons (.asg (.tp [2, 3, 4, 5, 6]) (.var 0)) (.cons (.ite (.or (.not (.call 0 (.cons (.var 2) .nil))) (.or (.not (.call 27 (.cons (.var 3) (.cons (.var 1) .nil)))) (.not (.call 27 (.cons (.var 4) (.cons (.var 1) .nil)))))) (.cons (.ret (.cst (.bl false))) .nil) .nil) (.cons (.ret (.and (.cmp .ne (.var 3) (.var 4)) (.call 22 (.cons (.tup (.cons (.var 5) (.cons (.var 6) .nil))) .nil)))) .nil))))
def f28 : Fn := ⟨2, 7, b28⟩
/-- are_spans -/
def b29 : Ss := (.cons (.ite (.not (.call 24 (.cons (.var 0) (.cons (.cst (.int 0)) (.cons (.var 1) .nil))))) (.cons (.ret (.cst (.bl false))) .nil) .nil) (.cons (.for (.nm 3) (.seq (.var 0)) (.cons (.ite (.not (.call 28 (.cons (.var 3) (.cons (.var 2) .nil)))) (.cons (.ret (.cst (.bl false))) .nil) .nil) .nil)) (.cons (.ret (.isN false (.call 5 (.cons (.comp (.ix (.var 3) (.cst (.int 0))) (.nm 3) (.seq (.var 0)) .none [3]) .nil)))) .nil)))
def f29 : Fn := ⟨3, 4, b29⟩
/-- is_drawing -/
def b30 : Ss := (.cons (.ite (.or (.not (.call 23 (.cons (.var 0) (.cons (.cst (.int 3)) .nil)))) (.not (.call 25 (.cons (.ix (.var 0) (.cst (.int 0))) (.cons (.cst (.int 1)) (.cons (.cst (.int 12)) .nil)))))) (.cons (.ret (.cst (.bl false))) .nil) .nil) (.cons (.ret (.and (.call 29 (.cons (.ix (.var 0) (.cst (.int 1))) (.cons (.cst (.int 24)) (.cons (.ix (.var 0) (.cst (.int 0))) .nil)))) (.call 29 (.cons (.ix (.var 0) (.cst (.int 2))) (.cons (.cst (.int 8)) (.cons (.ix (.var 0) (.cst (.int 0))) .nil)))))) .nil))
def f30 : Fn := ⟨1, 1, b30⟩
/-- is_use -/
def b31 : Ss := (.cons (.ite (.not (.call 23 (.cons (.var 0) (.cons (.cst (.int 3)) .nil)))) (.cons (.ret (.cst (.bl false))) .nil) .nil) (.cons (.ret (.and (.call 0 (.cons (.ix (.var 0) (.cst (.int 0))) .nil)) (.and (.call 19 (.cons (.ix (.var 0) (.cst (.int 1))) (.cons (.cst (.int 1)) (.cons (.cst (.int 1000)) .nil)))) (.call 25 (.cons (.ix (.var 0) (.cst (.int 2))) (.cons (.cst (.int 1)) (.cons (.cst (.int 3)) .nil))))))) .nil))
def f31 : Fn := ⟨1, 1, b31⟩
/-- is_bill -/
def b32 : Ss := (.cons (.ite (.not (.call 24 (.cons (.var 0) (.cons (.cst (.int 1)) (.cons (.cst (.int 6)) .nil))))) (.cons (.ret (.cst (.bl false))) .nil) .nil) (.cons (.for (.nm 1) (.seq (.var 0)) (.cons (.ite (.not (.call 31 (.cons (.var 1) .nil))) (.cons (.ret (.cst (.bl false))) .nil) .nil) .nil)) (.cons (.ret (.isN false (.call 5 (.cons (.comp (.ix (.var 1) (.cst (.int 0))) (.nm 1) (.seq (.var 0)) .none [1]) .nil)))) .nil)))
def f32 : Fn := ⟨1, 2, b32⟩
/-- is_wear -/
def b33 : Ss := (.cons (.ite (.and (.inst .str (.var 0)) (.cmp .eq (.var 0) (.cst (.str [])))) (.cons (.ret (.call 19 (.cons (.var 1) (.cons (.cst (.int 0)) (.cons (.cst (.int 0)) .nil))))) .nil) .nil) (.cons (.ret (.and (.call 0 (.cons (.var 0) .nil)) (.call 19 (.cons (.var 1) (.cons (.cst (.int 1)) (.cons (.cst (.int 1000)) .nil)))))) .nil))
def f33 : Fn := ⟨2, 2, b33⟩
/-- is_job -/
def b34 : Ss := (.cons (.ite (.not (.call 23 (.cons (.var 0) (.cons (.cst (.int 7)) .nil)))) (.cons (.ret (.cst (.bl false))) .nil) .nil) (.cons (.asg (.tp [1, 2, 3, 4, 5, 6, 7]) (.var 0)) (.cons (.ite (.or (.not (.call 0 (.cons (.var 1) .nil))) (.or (.not (.call 0 (.cons (.var 2) .nil))) (.not (.call 25 (.cons (.var 3) (.cons (.cst (.int 1)) (.cons (.cst (.int 3)) .nil))))))) (.cons (.ret (.cst (.bl false))) .nil) .nil) (.cons (.ret (.and (.call 33 (.cons (.var 4) (.cons (.var 5) .nil))) (.and (.call 19 (.cons (.var 6) (.cons (.cst (.int 0)) (.cons (.cst (.int 1000)) .nil)))) (.call 19 (.cons (.var 7) (.cons (.cst (.int 1)) (.cons (.cst (.int 1000)) .nil))))))) .nil))))
def f34 : Fn := ⟨1, 8, b34⟩
/-- is_routing -/
def b35 : Ss := (.cons (.ite (.not (.call 24 (.cons (.var 0) (.cons (.cst (.int 1)) (.cons (.cst (.int 6)) .nil))))) (.cons (.ret (.cst (.bl false))) .nil) .nil) (.cons (.for (.nm 1) (.seq (.var 0)) (.cons (.ite (.not (.call 34 (.cons (.var 1) .nil))) (.cons (.ret (.cst (.bl false))) .nil) .nil) .nil)) (.cons (.ret (.isN false (.call 5 (.cons (.comp (.ix (.var 1) (.cst (.int 0))) (.nm 1) (.seq (.var 0)) .none [1]) .nil)))) .nil)))
def f35 : Fn := ⟨1, 2, b35⟩
/-- is_window -/
def b36 : Ss := (.cons (.ite (.or (.not (.call 23 (.cons (.var 0) (.cons (.cst (.int 2)) .nil)))) (.not (.call 19 (.cons (.ix (.var 0) (.cst (.int 0))) (.cons (.var 1) (.cons (.cst (.int 100000)) .nil)))))) (.cons (.ret (.cst (.bl false))) .nil) .nil) (.cons (.ret (.call 19 (.cons (.ix (.var 0) (.cst (.int 1))) (.cons (.bin .add (.ix (.var 0) (.cst (.int 0))) (.cst (.int 1))) (.cons (.cst (.int 100000)) .nil))))) .nil))
def f36 : Fn := ⟨2, 2, b36⟩
/-- is_machine -/
def b37 : Ss := (.cons (.ite (.or (.not (.call 23 (.cons (.var 0) (.cons (.cst (.int 2)) .nil)))) (.or (.not (.call 21 (.cons (.ix (.var 0) (.cst (.int 0))) .nil))) (.not (.call 24 (.cons (.ix (.var 0) (.cst (.int 1))) (.cons (.cst (.int 0)) (.cons (.cst (.int 12)) .nil))))))) (.cons (.ret (.cst (.bl false))) .nil) .nil) (.cons (.asg (.nm 1) (.cst (.int 0))) (.cons (.for (.nm 2) (.seq (.ix (.var 0) (.cst (.int 1)))) (.cons (.ite (.not (.call 36 (.cons (.var 2) (.cons (.var 1) .nil)))) (.cons (.ret (.cst (.bl false))) .nil) .nil) (.cons (.asg (.nm 1) (.bin .add (.ix (.var 2) (.cst (.int 1))) (.cst (.int 1)))) .nil))) (.cons (.ret (.cst (.bl true))) .nil))))
def f37 : Fn := ⟨1, 3, b37⟩
/-- is_tool -/
def b38 : Ss := (.cons (.ret (.and (.call 23 (.cons (.var 0) (.cons (.cst (.int 2)) .nil))) (.and (.call 0 (.cons (.ix (.var 0) (.cst (.int 0))) .nil)) (.call 19 (.cons (.ix (.var 0) (.cst (.int 1))) (.cons (.cst (.int 0)) (.cons (.cst (.int 100000)) .nil))))))) .nil)
def f38 : Fn := ⟨1, 1, b38⟩
/-- is_person -/
def b39 : Ss := (.cons (.ite (.or (.not (.call 23 (.cons (.var 0) (.cons (.cst (.int 2)) .nil)))) (.or (.not (.call 21 (.cons (.ix (.var 0) (.cst (.int 0))) .nil))) (.not (.call 25 (.cons (.ix (.var 0) (.cst (.int 1))) (.cons (.cst (.int 0)) (.cons (.cst (.int 8)) .nil))))))) (.cons (.ret (.cst (.bl false))) .nil) .nil) (.cons (.ret (.cmp .eq (.ix (.var 0) (.cst (.int 1))) (.bi .tuple (.cons (.bi .sorted (.cons (.ix (.var 0) (.cst (.int 1))) .nil)) .nil)))) .nil))
def f39 : Fn := ⟨1, 1, b39⟩
/-- is_break -/
def b40 : Ss := (.cons (.ret (.and (.call 23 (.cons (.var 0) (.cons (.cst (.int 2)) .nil))) (.and (.call 19 (.cons (.ix (.var 0) (.cst (.int 0))) (.cons (.var 1) (.cons (.cst (.int 1000000)) .nil)))) (.call 21 (.cons (.ix (.var 0) (.cst (.int 1))) .nil))))) .nil)
def f40 : Fn := ⟨2, 2, b40⟩
/-- is_price -/
def b41 : Ss := (.cons (.ite (.or (.not (.call 23 (.cons (.var 0) (.cons (.cst (.int 2)) .nil)))) (.or (.not (.call 19 (.cons (.ix (.var 0) (.cst (.int 0))) (.cons (.cst (.int 0)) (.cons (.cst (.int 100000)) .nil))))) (.not (.call 24 (.cons (.ix (.var 0) (.cst (.int 1))) (.cons (.cst (.int 1)) (.cons (.cst (.int 6)) .nil))))))) (.cons (.ret (.cst (.bl false))) .nil) .nil) (.cons (.asg (.nm 1) (.cst (.int 1))) (.cons (.for (.nm 2) (.seq (.ix (.var 0) (.cst (.int 1)))) (.cons (.ite (.not (.call 40 (.cons (.var 2) (.cons (.var 1) .nil)))) (.cons (.ret (.cst (.bl false))) .nil) .nil) (.cons (.asg (.nm 1) (.bin .add (.ix (.var 2) (.cst (.int 0))) (.cst (.int 1)))) .nil))) (.cons (.ret (.cmp .eq (.ix (.ix (.ix (.var 0) (.cst (.int 1))) (.cst (.int 0))) (.cst (.int 0))) (.cst (.int 1)))) .nil))))
def f41 : Fn := ⟨1, 3, b41⟩
/-- is_swap -/
def b42 : Ss := (.cons (.ite (.or (.not (.call 23 (.cons (.var 0) (.cons (.cst (.int 3)) .nil)))) (.or (.not (.call 0 (.cons (.ix (.var 0) (.cst (.int 0))) .nil))) (.not (.call 0 (.cons (.ix (.var 0) (.cst (.int 1))) .nil))))) (.cons (.ret (.cst (.bl false))) .nil) .nil) (.cons (.ret (.and (.cmp .ne (.ix (.var 0) (.cst (.int 0))) (.ix (.var 0) (.cst (.int 1)))) (.call 19 (.cons (.ix (.var 0) (.cst (.int 2))) (.cons (.cst (.int 0)) (.cons (.cst (.int 1000)) .nil)))))) .nil))
def f42 : Fn := ⟨1, 1, b42⟩
/-- is_change -/
def b43 : Ss := (.cons (.ite (.not (.call 24 (.cons (.var 0) (.cons (.cst (.int 0)) (.cons (.cst (.int 20)) .nil))))) (.cons (.ret (.cst (.bl false))) .nil) .nil) (.cons (.for (.nm 1) (.seq (.var 0)) (.cons (.ite (.not (.call 42 (.cons (.var 1) .nil))) (.cons (.ret (.cst (.bl false))) .nil) .nil) .nil)) (.cons (.ret (.isN false (.call 5 (.cons (.comp (.tup (.cons (.ix (.var 1) (.cst (.int 0))) (.cons (.ix (.var 1) (.cst (.int 1))) .nil))) (.nm 1) (.seq (.var 0)) .none [1]) .nil)))) .nil)))
def f43 : Fn := ⟨1, 2, b43⟩
/-- is_record -/
def b44 : Ss := (.cons (.ite (.not (.call 26 (.cons (.var 0) .nil))) (.cons (.ret (.cst (.bl false))) .nil) .nil) (.cons (.asg (.nm 2) (.ix (.cst (.cd 0)) (.ix (.var 0) (.cst (.int 0))))) (.cons (.ret (.cvar 2 (.cons (.var 1) .nil))) .nil)))
def f44 : Fn := ⟨2, 3, b44⟩
/-- is_order -/
def b45 : Ss := (.cons (.ite (.or (.not (.call 23 (.cons (.var 0) (.cons (.cst (.int 5)) .nil)))) (.or (.not (.call 0 (.cons (.ix (.var 0) (.cst (.int 0))) .nil))) (.not (.call 0 (.cons (.ix (.var 0) (.cst (.int 1))) .nil))))) (.cons (.ret (.cst (.bl false))) .nil) .nil) (.cons (.ite (.or (.not (.call 19 (.cons (.ix (.var 0) (.cst (.int 2))) (.cons (.cst (.int 1)) (.cons (.cst (.int 1000)) .nil))))) (.not (.call 19 (.cons (.ix (.var 0) (.cst (.int 3))) (.cons (.cst (.int 1)) (.cons (.cst (.int 9999)) .nil)))))) (.cons (.ret (.cst (.bl false))) .nil) .nil) (.cons (.ret (.call 19 (.cons (.ix (.var 0) (.cst (.int 4))) (.cons (.cst (.int 0)) (.cons (.cst (.int 100000)) .nil))))) .nil)))
def f45 : Fn := ⟨1, 1, b45⟩
/-- key_rank -/
def b46 : Ss := (.cons (.ret (.tup (.cons (.met .index (.cst (.frz true [(.str [100, 114, 97, 119, 105, 110, 103]), (.str [98, 105, 108, 108]), (.str [114, 111, 117, 116, 105, 110, 103]), (.str [109, 97, 99, 104, 105, 110, 101]), (.str [116, 111, 111, 108]), (.str [112, 101, 114, 115, 111, 110]), (.str [103, 97, 117, 103, 101]), (.str [112, 114, 105, 99, 101]), (.str [99, 104, 97, 110, 103, 101])])) (.cons (.ix (.var 0) (.cst (.int 0))) .nil)) (.cons (.ix (.var 0) (.cst (.int 1))) (.cons (.ix (.var 0) (.cst (.int 2))) .nil))))) .nil)
def f46 : Fn := ⟨1, 1, b46⟩
/-- sorted_keys -/
def b47 : Ss := (.cons (.ret (.srt 46 (.comp (.var 1) (.nm 1) (.seq (.var 0)) .none [1]))) .nil)
def f47 : Fn := ⟨1, 2, b47⟩
/-- records_named -/
def b48 : Ss := (.cons (.asg (.nm 3) (.bi .sorted (.cons (.comp (.ix (.var 5) (.cst (.int 2))) (.nm 5) (.seq (.var 0)) (.some (.and (.cmp .eq (.ix (.var 5) (.cst (.int 0))) (.var 1)) (.cmp .eq (.ix (.var 5) (.cst (.int 1))) (.var 2)))) [5]) .nil))) (.cons (.ret (.comp (.tup (.cons (.var 4) (.cons (.ix (.var 0) (.tup (.cons (.var 1) (.cons (.var 2) (.cons (.var 4) .nil))))) .nil))) (.nm 4) (.seq (.var 3)) .none [4])) .nil))
def f48 : Fn := ⟨3, 6, b48⟩
/-- need_form -/
def b49 : Ss := (.cons (.ite (.not (.var 1)) (.cons (.rse 9 1 (.cons (.var 0) .nil)) .nil) .nil) .nil)
def f49 : Fn := ⟨2, 2, b49⟩
/-- name_word -/
def b50 : Ss := (.cons (.ite (.not (.call 0 (.cons (.var 1) .nil))) (.cons (.rse 9 1 (.cons (.var 0) .nil)) .nil) .nil) (.cons (.ret (.var 1)) .nil))
def f50 : Fn := ⟨2, 2, b50⟩
/-- name_words -/
def b51 : Ss := (.cons (.ret (.bi .tuple (.cons (.comp (.call 50 (.cons (.var 0) (.cons (.var 2) .nil))) (.nm 2) (.seq (.var 1)) .none [2]) .nil))) .nil)
def f51 : Fn := ⟨2, 3, b51⟩
/-- place_word -/
def b52 : Ss := (.cons (.ite (.not (.call 2 (.cons (.var 1) .nil))) (.cons (.rse 9 1 (.cons (.var 0) .nil)) .nil) .nil) (.cons (.ret (.var 1)) .nil))
def f52 : Fn := ⟨2, 2, b52⟩
/-- whole_word -/
def b53 : Ss := (.cons (.try (.cons (.ret (.call 17 (.cons (.var 1) .nil))) .nil) (.cons 2 .bad .nil)) .nil)
def f53 : Fn := ⟨2, 2, b53⟩
/-- fraction_word -/
def b54 : Ss := (.cons (.try (.cons (.ret (.call 18 (.cons (.var 1) .nil))) .nil) (.cons 3 .bad .nil)) .nil)
def f54 : Fn := ⟨2, 2, b54⟩
/-- range_words -/
def b55 : Ss := (.cons (.ite (.cmp .eq (.bi .len (.cons (.var 1) .nil)) (.cst (.int 1))) (.cons (.asg (.nm 2) (.call 54 (.cons (.var 0) (.cons (.ix (.var 1) (.cst (.int 0))) .nil)))) (.cons (.ret (.tup (.cons (.var 2) (.cons (.var 2) .nil)))) .nil)) .nil) (.cons (.ite (.and (.cmp .eq (.bi .len (.cons (.var 1) .nil)) (.cst (.int 3))) (.cmp .eq (.ix (.var 1) (.cst (.int 1))) (.cst (.str [116, 111])))) (.cons (.ret (.tup (.cons (.call 54 (.cons (.var 0) (.cons (.ix (.var 1) (.cst (.int 0))) .nil))) (.cons (.call 54 (.cons (.var 0) (.cons (.ix (.var 1) (.cst (.int 2))) .nil))) .nil)))) .nil) .nil) (.cons (.exp (.call 49 (.cons (.var 0) (.cons (.and (.cmp .eq (.bi .len (.cons (.var 1) .nil)) (.cst (.int 5))) (.and (.cmp .eq (.ix (.var 1) (.cst (.int 1))) (.cst (.str [112, 108, 117, 115]))) (.cmp .eq (.ix (.var 1) (.cst (.int 3))) (.cst (.str [109, 105, 110, 117, 115]))))) .nil)))) (.cons (.asg (.nm 2) (.call 54 (.cons (.var 0) (.cons (.ix (.var 1) (.cst (.int 0))) .nil)))) (.cons (.asg (.nm 3) (.call 54 (.cons (.var 0) (.cons (.ix (.var 1) (.cst (.int 2))) .nil)))) (.cons (.asg (.nm 4) (.call 54 (.cons (.var 0) (.cons (.ix (.var 1) (.cst (.int 4))) .nil)))) (.cons (.ret (.tup (.cons (.call 11 (.cons (.var 2) (.cons (.var 4) .nil))) (.cons (.call 10 (.cons (.var 2) (.cons (.var 3) .nil))) .nil)))) .nil)))))))
def f55 : Fn := ⟨2, 5, b55⟩
/-- written_range -/
def b56 : Ss := (.cons (.ret (.bin .add (.bin .add (.call 14 (.cons (.var 0) .nil)) (.cst (.str [32, 116, 111, 32]))) (.call 14 (.cons (.var 1) .nil)))) .nil)
def f56 : Fn := ⟨2, 2, b56⟩
/-- choice_words -/
def b57 : Ss := (.cons (.exp (.call 49 (.cons (.var 0) (.cons (.cmp .lt (.var 2) (.bi .len (.cons (.var 1) .nil))) .nil)))) (.cons (.asg (.nm 3) (.lst (.cons (.call 50 (.cons (.var 0) (.cons (.ix (.var 1) (.var 2)) .nil))) .nil))) (.cons (.aug 2 .add (.cst (.int 1))) (.cons (.whl (.cmp .eq (.sl (.var 1) (.some (.var 2)) (.some (.bin .add (.var 2) (.cst (.int 1))))) (.tup (.cons (.cst (.str [111, 114])) .nil))) (.cons (.exp (.call 49 (.cons (.var 0) (.cons (.cmp .lt (.bin .add (.var 2) (.cst (.int 1))) (.bi .len (.cons (.var 1) .nil))) .nil)))) (.cons (.exp (.met .append (.var 3) (.cons (.call 50 (.cons (.var 0) (.cons (.ix (.var 1) (.bin .add (.var 2) (.cst (.int 1)))) .nil))) .nil))) (.cons (.aug 2 .add (.cst (.int 2))) .nil)))) (.cons (.ret (.tup (.cons (.bi .tuple (.cons (.var 3) .nil)) (.cons (.var 2) .nil)))) .nil)))))
def f57 : Fn := ⟨3, 4, b57⟩
/-- written_choice -/
def b58 : Ss := (.cons (.ret (.met .join (.cst (.str [32, 111, 114, 32])) (.cons (.var 0) .nil))) .nil)
def f58 : Fn := ⟨1, 1, b58⟩
/-- read_points -/
def b59 : Ss := (.cons (.exp (.call 49 (.cons (.var 0) (.cons (.cmp .gt (.bi .len (.cons (.var 1) .nil)) (.cst (.int 1))) .nil)))) (.cons (.ret (.call 51 (.cons (.var 0) (.cons (.sl (.var 1) (.some (.cst (.int 1))) .none) .nil)))) .nil))
def f59 : Fn := ⟨2, 2, b59⟩
/-- read_span -/
def b60 : Ss := (.cons (.exp (.call 49 (.cons (.var 0) (.cons (.cmp .gt (.bi .len (.cons (.var 1) .nil)) (.cst (.int 4))) .nil)))) (.cons (.asg (.tp [2, 3]) (.call 55 (.cons (.var 0) (.cons (.sl (.var 1) (.some (.cst (.int 4))) .none) .nil)))) (.cons (.ret (.tup (.cons (.call 50 (.cons (.var 0) (.cons (.ix (.var 1) (.cst (.int 1))) .nil))) (.cons (.call 52 (.cons (.var 0) (.cons (.ix (.var 1) (.cst (.int 2))) .nil))) (.cons (.call 52 (.cons (.var 0) (.cons (.ix (.var 1) (.cst (.int 3))) .nil))) (.cons (.var 2) (.cons (.var 3) .nil))))))) .nil)))
def f60 : Fn := ⟨2, 4, b60⟩
/-- read_drawing_line -/
def b61 : Ss := (.cons (.ite (.cmp .eq (.ix (.var 1) (.cst (.int 0))) (.cst (.str [112, 111, 105, 110, 116]))) (.cons (.ret (.call 59 (.cons (.var 0) (.cons (.var 1) .nil)))) .nil) .nil) (.cons (.ite (.or (.cmp .eq (.ix (.var 1) (.cst (.int 0))) (.cst (.str [100, 105, 109]))) (.cmp .eq (.ix (.var 1) (.cst (.int 0))) (.cst (.str [110, 101, 101, 100])))) (.cons (.ret (.call 60 (.cons (.var 0) (.cons (.var 1) .nil)))) .nil) .nil) (.cons (.rse 9 1 (.cons (.var 0) .nil)) .nil)))
def f61 : Fn := ⟨2, 2, b61⟩
/-- drawing_body -/
def b62 : Ss := (.cons (.asg (.nm 1) (.lst .nil)) (.cons (.asg (.nm 2) (.lst .nil)) (.cons (.asg (.nm 3) (.lst .nil)) (.cons (.for (.tp [4, 5]) (.seq (.var 0)) (.cons (.ite (.cmp .eq (.var 4) (.cst (.str [112, 111, 105, 110, 116]))) (.cons (.exp (.met .extend (.var 1) (.cons (.var 5) .nil))) .nil) (.cons (.ite (.cmp .eq (.var 4) (.cst (.str [100, 105, 109]))) (.cons (.exp (.met .append (.var 2) (.cons (.var 5) .nil))) .nil) (.cons (.exp (.met .append (.var 3) (.cons (.var 5) .nil))) .nil)) .nil)) .nil)) (.cons (.ret (.tup (.cons (.bi .tuple (.cons (.var 1) .nil)) (.cons (.bi .tuple (.cons (.var 2) .nil)) (.cons (.bi .tuple (.cons (.var 3) .nil)) .nil))))) .nil)))))
def f62 : Fn := ⟨1, 6, b62⟩
/-- write_span -/
def b63 : Ss := (.cons (.asg (.tp [2, 3, 4, 5, 6]) (.var 1)) (.cons (.ret (.met .join (.cst (.str [32])) (.cons (.lst (.cons (.var 0) (.cons (.var 2) (.cons (.var 3) (.cons (.var 4) (.cons (.call 56 (.cons (.var 5) (.cons (.var 6) .nil))) .nil)))))) .nil))) .nil))
def f63 : Fn := ⟨2, 7, b63⟩
/-- drawing_lines -/
def b64 : Ss := (.cons (.asg (.tp [3, 4, 5]) (.var 0)) (.cons (.asg (.nm 1) (.lst (.cons (.bin .add (.cst (.str [112, 111, 105, 110, 116, 32])) (.met .join (.cst (.str [32])) (.cons (.var 3) .nil))) .nil))) (.cons (.for (.nm 2) (.seq (.var 4)) (.cons (.exp (.met .append (.var 1) (.cons (.call 63 (.cons (.cst (.str [100, 105, 109])) (.cons (.var 2) .nil))) .nil))) .nil)) (.cons (.for (.nm 2) (.seq (.var 5)) (.cons (.exp (.met .append (.var 1) (.cons (.call 63 (.cons (.cst (.str [110, 101, 101, 100])) (.cons (.var 2) .nil))) .nil))) .nil)) (.cons (.ret (.var 1)) .nil)))))
def f64 : Fn := ⟨1, 6, b64⟩
/-- check_signs -/
def b65 : Ss := (.cons (.for (.nm 1) (.rng (.cons (.bi .len (.cons (.var 0) .nil)) .nil)) (.cons (.asg (.nm 2) (.ix (.var 0) (.var 1))) (.cons (.for (.nm 3) (.rng (.cons (.bi .len (.cons (.var 2) .nil)) .nil)) (.cons (.ite (.cmp .notin (.ix (.var 2) (.var 3)) (.cst (.str [32, 33, 34, 35, 36, 38, 39, 40, 41, 42, 43, 44, 45, 46, 47, 48, 49, 50, 51, 52, 53, 54, 55, 56, 57, 58, 59, 60, 61, 62, 63, 64, 65, 66, 67, 68, 69, 70, 71, 72, 73, 74, 75, 76, 77, 78, 79, 80, 81, 82, 83, 84, 85, 86, 87, 88, 89, 90, 91, 92, 93, 94, 95, 96, 97, 98, 99, 100, 101, 102, 103, 104, 105, 106, 107, 108, 109, 110, 111, 112, 113, 114, 115, 116, 117, 118, 119, 120, 121, 122, 123, 124, 125, 126]))) (.cons (.rse 6 2 (.cons (.bin .add (.var 1) (.cst (.int 1))) (.cons (.bin .add (.var 3) (.cst (.int 1))) .nil))) .nil) .nil) .nil)) .nil))) .nil)
def f65 : Fn := ⟨1, 4, b65⟩
/-- words_of -/
def b66 : Ss := (.cons (.asg (.nm 1) (.ix (.met .partition (.var 0) (.cons (.cst (.str [35])) .nil)) (.cst (.int 0)))) (.cons (.ret (.bi .tuple (.cons (.comp (.var 2) (.nm 2) (.seq (.met .split (.var 1) (.cons (.cst (.str [32])) .nil))) (.some (.cmp .ne (.var 2) (.cst (.str [])))) [2]) .nil))) .nil))
def f66 : Fn := ⟨1, 3, b66⟩
/-- split_lines -/
def b67 : Ss := (.cons (.asg (.nm 1) (.met .split (.var 0) (.cons (.cst (.str [10])) .nil))) (.cons (.exp (.call 65 (.cons (.var 1) .nil))) (.cons (.ite (.cmp .gt (.bi .len (.cons (.var 1) .nil)) (.cst (.int 5000))) (.cons (.rse 5 2 (.cons (.cst (.str [108, 105, 110, 101, 115])) (.cons (.cst (.int 5000)) .nil))) .nil) .nil) (.cons (.asg (.nm 2) (.lst .nil)) (.cons (.for (.nm 3) (.rng (.cons (.bi .len (.cons (.var 1) .nil)) .nil)) (.cons (.asg (.nm 4) (.call 66 (.cons (.ix (.var 1) (.var 3)) .nil))) (.cons (.ite (.cmp .gt (.bi .len (.cons (.var 4) .nil)) (.cst (.int 0))) (.cons (.exp (.met .append (.var 2) (.cons (.tup (.cons (.bin .add (.var 3) (.cst (.int 1))) (.cons (.var 4) .nil))) .nil))) .nil) .nil) .nil))) (.cons (.ret (.var 2)) .nil))))))
def f67 : Fn := ⟨1, 5, b67⟩
/-- read_use -/
def b68 : Ss := (.cons (.exp (.call 49 (.cons (.var 0) (.cons (.cmp .gt (.bi .len (.cons (.var 1) .nil)) (.cst (.int 3))) .nil)))) (.cons (.asg (.tp [2, 3]) (.call 57 (.cons (.var 0) (.cons (.var 1) (.cons (.cst (.int 3)) .nil))))) (.cons (.exp (.call 49 (.cons (.var 0) (.cons (.cmp .eq (.var 3) (.bi .len (.cons (.var 1) .nil))) .nil)))) (.cons (.ret (.tup (.cons (.call 50 (.cons (.var 0) (.cons (.ix (.var 1) (.cst (.int 1))) .nil))) (.cons (.call 53 (.cons (.var 0) (.cons (.ix (.var 1) (.cst (.int 2))) .nil))) (.cons (.var 2) .nil))))) .nil))))
def f68 : Fn := ⟨2, 4, b68⟩
/-- read_tool_words -/
def b69 : Ss := (.cons (.ite (.cmp .ne (.sl (.var 1) (.some (.var 2)) (.some (.bin .add (.var 2) (.cst (.int 1))))) (.tup (.cons (.cst (.str [116, 111, 111, 108])) .nil))) (.cons (.ret (.tup (.cons (.cst (.str [])) (.cons (.cst (.int 0)) (.cons (.var 2) .nil))))) .nil) .nil) (.cons (.exp (.call 49 (.cons (.var 0) (.cons (.cmp .lt (.bin .add (.var 2) (.cst (.int 2))) (.bi .len (.cons (.var 1) .nil))) .nil)))) (.cons (.ret (.tup (.cons (.call 50 (.cons (.var 0) (.cons (.ix (.var 1) (.bin .add (.var 2) (.cst (.int 1)))) .nil))) (.cons (.call 53 (.cons (.var 0) (.cons (.ix (.var 1) (.bin .add (.var 2) (.cst (.int 2)))) .nil))) (.cons (.bin .add (.var 2) (.cst (.int 3))) .nil))))) .nil)))
def f69 : Fn := ⟨3, 3, b69⟩
/-- read_step -/
def b70 : Ss := (.cons (.exp (.call 49 (.cons (.var 0) (.cons (.and (.cmp .gt (.bi .len (.cons (.var 1) .nil)) (.cst (.int 5))) (.and (.cmp .eq (.ix (.var 1) (.cst (.int 2))) (.cst (.str [115, 107, 105, 108, 108]))) (.cmp .eq (.ix (.var 1) (.cst (.int 4))) (.cst (.str [111, 110]))))) .nil)))) (.cons (.asg (.tp [5, 6]) (.call 57 (.cons (.var 0) (.cons (.var 1) (.cons (.cst (.int 5)) .nil))))) (.cons (.asg (.tp [7, 8, 6]) (.call 69 (.cons (.var 0) (.cons (.var 1) (.cons (.var 6) .nil))))) (.cons (.asg (.nm 2) (.sl (.var 1) (.some (.var 6)) .none)) (.cons (.exp (.call 49 (.cons (.var 0) (.cons (.and (.cmp .eq (.bi .len (.cons (.var 2) .nil)) (.cst (.int 4))) (.and (.cmp .eq (.ix (.var 2) (.cst (.int 0))) (.cst (.str [115, 101, 116, 117, 112]))) (.cmp .eq (.ix (.var 2) (.cst (.int 2))) (.cst (.str [114, 117, 110]))))) .nil)))) (.cons (.asg (.nm 3) (.call 50 (.cons (.var 0) (.cons (.ix (.var 1) (.cst (.int 1))) .nil)))) (.cons (.asg (.nm 4) (.call 50 (.cons (.var 0) (.cons (.ix (.var 1) (.cst (.int 3))) .nil)))) (.cons (.ret (.tup (.cons (.var 3) (.cons (.var 4) (.cons (.var 5) (.cons (.var 7) (.cons (.var 8) (.cons (.call 53 (.cons (.var 0) (.cons (.ix (.var 2) (.cst (.int 1))) .nil))) (.cons (.call 53 (.cons (.var 0) (.cons (.ix (.var 2) (.cst (.int 3))) .nil))) .nil))))))))) .nil))))))))
def f70 : Fn := ⟨2, 9, b70⟩
/-- read_window -/
def b71 : Ss := (.cons (.exp (.call 49 (.cons (.var 0) (.cons (.cmp .eq (.bi .len (.cons (.var 1) .nil)) (.cst (.int 3))) .nil)))) (.cons (.ret (.tup (.cons (.call 53 (.cons (.var 0) (.cons (.ix (.var 1) (.cst (.int 1))) .nil))) (.cons (.call 53 (.cons (.var 0) (.cons (.ix (.var 1) (.cst (.int 2))) .nil))) .nil)))) .nil))
def f71 : Fn := ⟨2, 2, b71⟩
/-- read_break -/
def b72 : Ss := (.cons (.exp (.call 49 (.cons (.var 0) (.cons (.cmp .eq (.bi .len (.cons (.var 1) .nil)) (.cst (.int 3))) .nil)))) (.cons (.ret (.tup (.cons (.call 53 (.cons (.var 0) (.cons (.ix (.var 1) (.cst (.int 1))) .nil))) (.cons (.call 54 (.cons (.var 0) (.cons (.ix (.var 1) (.cst (.int 2))) .nil))) .nil)))) .nil))
def f72 : Fn := ⟨2, 2, b72⟩
/-- read_swap -/
def b73 : Ss := (.cons (.exp (.call 49 (.cons (.var 0) (.cons (.cmp .eq (.bi .len (.cons (.var 1) .nil)) (.cst (.int 4))) .nil)))) (.cons (.ret (.tup (.cons (.call 50 (.cons (.var 0) (.cons (.ix (.var 1) (.cst (.int 1))) .nil))) (.cons (.call 50 (.cons (.var 0) (.cons (.ix (.var 1) (.cst (.int 2))) .nil))) (.cons (.call 53 (.cons (.var 0) (.cons (.ix (.var 1) (.cst (.int 3))) .nil))) .nil))))) .nil))
def f73 : Fn := ⟨2, 2, b73⟩
/-- read_work_line -/
def b74 : Ss := (.cons (.ite (.cmp .eq (.ix (.var 1) (.cst (.int 0))) (.cst (.str [117, 115, 101]))) (.cons (.ret (.call 68 (.cons (.var 0) (.cons (.var 1) .nil)))) .nil) .nil) (.cons (.ite (.cmp .eq (.ix (.var 1) (.cst (.int 0))) (.cst (.str [115, 116, 101, 112]))) (.cons (.ret (.call 70 (.cons (.var 0) (.cons (.var 1) .nil)))) .nil) .nil) (.cons (.ite (.cmp .eq (.ix (.var 1) (.cst (.int 0))) (.cst (.str [119, 105, 110, 100, 111, 119]))) (.cons (.ret (.call 71 (.cons (.var 0) (.cons (.var 1) .nil)))) .nil) .nil) (.cons (.ite (.cmp .eq (.ix (.var 1) (.cst (.int 0))) (.cst (.str [98, 114, 101, 97, 107]))) (.cons (.ret (.call 72 (.cons (.var 0) (.cons (.var 1) .nil)))) .nil) .nil) (.cons (.ite (.cmp .eq (.ix (.var 1) (.cst (.int 0))) (.cst (.str [115, 119, 97, 112]))) (.cons (.ret (.call 73 (.cons (.var 0) (.cons (.var 1) .nil)))) .nil) .nil) (.cons (.rse 9 1 (.cons (.var 0) .nil)) .nil))))))
def f74 : Fn := ⟨2, 2, b74⟩
/-- write_use -/
def b75 : Ss := (.cons (.asg (.tp [1, 2, 3]) (.var 0)) (.cons (.ret (.met .join (.cst (.str [32])) (.cons (.lst (.cons (.cst (.str [117, 115, 101])) (.cons (.var 1) (.cons (.call 13 (.cons (.var 2) .nil)) (.cons (.call 58 (.cons (.var 3) .nil)) .nil))))) .nil))) .nil))
def f75 : Fn := ⟨1, 4, b75⟩
/-- write_step -/
def b76 : Ss := (.cons (.asg (.tp [2, 3, 4, 5, 6, 7, 8]) (.var 0)) (.cons (.asg (.nm 1) (.lst (.cons (.cst (.str [115, 116, 101, 112])) (.cons (.var 2) (.cons (.cst (.str [115, 107, 105, 108, 108])) (.cons (.var 3) (.cons (.cst (.str [111, 110])) (.cons (.call 58 (.cons (.var 4) .nil)) .nil)))))))) (.cons (.ite (.cmp .ne (.var 5) (.cst (.str []))) (.cons (.exp (.met .extend (.var 1) (.cons (.lst (.cons (.cst (.str [116, 111, 111, 108])) (.cons (.var 5) (.cons (.call 13 (.cons (.var 6) .nil)) .nil)))) .nil))) .nil) .nil) (.cons (.exp (.met .extend (.var 1) (.cons (.lst (.cons (.cst (.str [115, 101, 116, 117, 112])) (.cons (.call 13 (.cons (.var 7) .nil)) (.cons (.cst (.str [114, 117, 110])) (.cons (.call 13 (.cons (.var 8) .nil)) .nil))))) .nil))) (.cons (.ret (.met .join (.cst (.str [32])) (.cons (.var 1) .nil))) .nil)))))
def f76 : Fn := ⟨1, 9, b76⟩
/-- write_window -/
def b77 : Ss := (.cons (.ret (.met .join (.cst (.str [32])) (.cons (.lst (.cons (.cst (.str [119, 105, 110, 100, 111, 119])) (.cons (.call 13 (.cons (.ix (.var 0) (.cst (.int 0))) .nil)) (.cons (.call 13 (.cons (.ix (.var 0) (.cst (.int 1))) .nil)) .nil)))) .nil))) .nil)
def f77 : Fn := ⟨1, 1, b77⟩
/-- write_break -/
def b78 : Ss := (.cons (.ret (.met .join (.cst (.str [32])) (.cons (.lst (.cons (.cst (.str [98, 114, 101, 97, 107])) (.cons (.call 13 (.cons (.ix (.var 0) (.cst (.int 0))) .nil)) (.cons (.call 14 (.cons (.ix (.var 0) (.cst (.int 1))) .nil)) .nil)))) .nil))) .nil)
def f78 : Fn := ⟨1, 1, b78⟩
/-- write_swap -/
def b79 : Ss := (.cons (.ret (.met .join (.cst (.str [32])) (.cons (.lst (.cons (.cst (.str [115, 119, 97, 112])) (.cons (.ix (.var 0) (.cst (.int 0))) (.cons (.ix (.var 0) (.cst (.int 1))) (.cons (.call 13 (.cons (.ix (.var 0) (.cst (.int 2))) .nil)) .nil))))) .nil))) .nil)
def f79 : Fn := ⟨1, 1, b79⟩
/-- work_lines -/
def b80 : Ss := (.cons (.ite (.cmp .eq (.var 0) (.cst (.str [98, 105, 108, 108]))) (.cons (.ret (.comp (.call 75 (.cons (.var 2) .nil)) (.nm 2) (.seq (.var 1)) .none [2])) .nil) .nil) (.cons (.ite (.cmp .eq (.var 0) (.cst (.str [114, 111, 117, 116, 105, 110, 103]))) (.cons (.ret (.comp (.call 76 (.cons (.var 3) .nil)) (.nm 3) (.seq (.var 1)) .none [3])) .nil) .nil) (.cons (.ite (.cmp .eq (.var 0) (.cst (.str [109, 97, 99, 104, 105, 110, 101]))) (.cons (.ret (.comp (.call 77 (.cons (.var 4) .nil)) (.nm 4) (.seq (.ix (.var 1) (.cst (.int 1)))) .none [4])) .nil) .nil) (.cons (.ite (.cmp .eq (.var 0) (.cst (.str [112, 114, 105, 99, 101]))) (.cons (.ret (.comp (.call 78 (.cons (.var 5) .nil)) (.nm 5) (.seq (.ix (.var 1) (.cst (.int 1)))) .none [5])) .nil) .nil) (.cons (.ite (.cmp .eq (.var 0) (.cst (.str [99, 104, 97, 110, 103, 101]))) (.cons (.ret (.comp (.call 79 (.cons (.var 6) .nil)) (.nm 6) (.seq (.var 1)) .none [6])) .nil) .nil) (.cons (.ret (.lst .nil)) .nil))))))
def f80 : Fn := ⟨2, 7, b80⟩
/-- check_word -/
def b81 : Ss := (.cons (.ite (.and (.cmp .notin (.var 1) (.cst (.frz true [(.str [100, 114, 97, 119, 105, 110, 103]), (.str [98, 105, 108, 108]), (.str [114, 111, 117, 116, 105, 110, 103]), (.str [109, 97, 99, 104, 105, 110, 101]), (.str [116, 111, 111, 108]), (.str [112, 101, 114, 115, 111, 110]), (.str [103, 97, 117, 103, 101]), (.str [112, 114, 105, 99, 101]), (.str [99, 104, 97, 110, 103, 101])]))) (.and (.cmp .notin (.var 1) (.cst (.frz true [(.str [112, 111, 105, 110, 116]), (.str [100, 105, 109]), (.str [110, 101, 101, 100]), (.str [117, 115, 101]), (.str [115, 116, 101, 112]), (.str [119, 105, 110, 100, 111, 119]), (.str [98, 114, 101, 97, 107]), (.str [115, 119, 97, 112])]))) (.cmp .ne (.var 1) (.cst (.str [101, 110, 100]))))) (.cons (.rse 7 2 (.cons (.var 0) (.cons (.var 1) .nil))) .nil) .nil) (.cons (.ite (.cmp .eq (.var 2) (.cst (.str []))) (.cons (.asg (.nm 3) (.cmp .notin (.var 1) (.cst (.frz true [(.str [100, 114, 97, 119, 105, 110, 103]), (.str [98, 105, 108, 108]), (.str [114, 111, 117, 116, 105, 110, 103]), (.str [109, 97, 99, 104, 105, 110, 101]), (.str [116, 111, 111, 108]), (.str [112, 101, 114, 115, 111, 110]), (.str [103, 97, 117, 103, 101]), (.str [112, 114, 105, 99, 101]), (.str [99, 104, 97, 110, 103, 101])])))) .nil) (.cons (.asg (.nm 3) (.and (.cmp .ne (.var 1) (.cst (.str [101, 110, 100]))) (.cmp .notin (.var 1) (.ix (.cst (.cd 1)) (.var 2))))) .nil)) (.cons (.ite (.var 3) (.cons (.rse 8 1 (.cons (.var 0) .nil)) .nil) .nil) .nil)))
def f81 : Fn := ⟨3, 4, b81⟩
/-- read_versioned -/
def b82 : Ss := (.cons (.exp (.call 49 (.cons (.var 0) (.cons (.and (.cmp .eq (.bi .len (.cons (.var 1) .nil)) (.cst (.int 4))) (.cmp .eq (.ix (.var 1) (.cst (.int 2))) (.cst (.str [102, 114, 111, 109])))) .nil)))) (.cons (.ret (.tup (.cons (.ix (.var 1) (.cst (.int 0))) (.cons (.call 50 (.cons (.var 0) (.cons (.ix (.var 1) (.cst (.int 1))) .nil))) (.cons (.call 53 (.cons (.var 0) (.cons (.ix (.var 1) (.cst (.int 3))) .nil))) .nil))))) .nil))
def f82 : Fn := ⟨2, 2, b82⟩
/-- read_rated -/
def b83 : Ss := (.cons (.exp (.call 49 (.cons (.var 0) (.cons (.and (.cmp .eq (.bi .len (.cons (.var 1) .nil)) (.cst (.int 4))) (.cmp .eq (.ix (.var 1) (.cst (.int 2))) (.cst (.str [114, 97, 116, 101])))) .nil)))) (.cons (.ret (.call 54 (.cons (.var 0) (.cons (.ix (.var 1) (.cst (.int 3))) .nil)))) .nil))
def f83 : Fn := ⟨2, 2, b83⟩
/-- read_lead -/
def b84 : Ss := (.cons (.exp (.call 49 (.cons (.var 0) (.cons (.and (.cmp .eq (.bi .len (.cons (.var 1) .nil)) (.cst (.int 4))) (.cmp .eq (.ix (.var 1) (.cst (.int 2))) (.cst (.str [108, 101, 97, 100])))) .nil)))) (.cons (.ret (.call 53 (.cons (.var 0) (.cons (.ix (.var 1) (.cst (.int 3))) .nil)))) .nil))
def f84 : Fn := ⟨2, 2, b84⟩
/-- read_tool -/
def b85 : Ss := (.cons (.exp (.call 49 (.cons (.var 0) (.cons (.and (.cmp .eq (.bi .len (.cons (.var 1) .nil)) (.cst (.int 6))) (.and (.cmp .eq (.ix (.var 1) (.cst (.int 2))) (.cst (.str [107, 105, 110, 100]))) (.cmp .eq (.ix (.var 1) (.cst (.int 4))) (.cst (.str [108, 105, 102, 101]))))) .nil)))) (.cons (.ret (.tup (.cons (.call 50 (.cons (.var 0) (.cons (.ix (.var 1) (.cst (.int 3))) .nil))) (.cons (.call 53 (.cons (.var 0) (.cons (.ix (.var 1) (.cst (.int 5))) .nil))) .nil)))) .nil))
def f85 : Fn := ⟨2, 2, b85⟩
/-- read_person -/
def b86 : Ss := (.cons (.exp (.call 49 (.cons (.var 0) (.cons (.and (.cmp .gt (.bi .len (.cons (.var 1) .nil)) (.cst (.int 3))) (.cmp .eq (.ix (.var 1) (.cst (.int 2))) (.cst (.str [114, 97, 116, 101])))) .nil)))) (.cons (.asg (.nm 2) (.call 54 (.cons (.var 0) (.cons (.ix (.var 1) (.cst (.int 3))) .nil)))) (.cons (.ite (.cmp .eq (.bi .len (.cons (.var 1) .nil)) (.cst (.int 4))) (.cons (.ret (.tup (.cons (.var 2) (.cons (.tup .nil) .nil)))) .nil) .nil) (.cons (.exp (.call 49 (.cons (.var 0) (.cons (.and (.cmp .gt (.bi .len (.cons (.var 1) .nil)) (.cst (.int 5))) (.cmp .eq (.ix (.var 1) (.cst (.int 4))) (.cst (.str [109, 97, 121])))) .nil)))) (.cons (.asg (.nm 3) (.bi .sorted (.cons (.call 51 (.cons (.var 0) (.cons (.sl (.var 1) (.some (.cst (.int 5))) .none) .nil))) .nil))) (.cons (.ret (.tup (.cons (.var 2) (.cons (.bi .tuple (.cons (.comp (.ix (.var 3) (.var 4)) (.nm 4) (.rng (.cons (.bi .len (.cons (.var 3) .nil)) .nil)) (.some (.or (.cmp .eq (.var 4) (.cst (.int 0))) (.cmp .ne (.ix (.var 3) (.var 4)) (.ix (.var 3) (.bin .sub (.var 4) (.cst (.int 1))))))) [4]) .nil)) .nil)))) .nil))))))
def f86 : Fn := ⟨2, 5, b86⟩
/-- read_head -/
def b87 : Ss := (.cons (.ite (.cmp .eq (.ix (.var 1) (.cst (.int 0))) (.cst (.str [109, 97, 99, 104, 105, 110, 101]))) (.cons (.ret (.call 83 (.cons (.var 0) (.cons (.var 1) .nil)))) .nil) .nil) (.cons (.ite (.cmp .eq (.ix (.var 1) (.cst (.int 0))) (.cst (.str [112, 114, 105, 99, 101]))) (.cons (.ret (.call 84 (.cons (.var 0) (.cons (.var 1) .nil)))) .nil) .nil) (.cons (.ite (.cmp .eq (.ix (.var 1) (.cst (.int 0))) (.cst (.str [116, 111, 111, 108]))) (.cons (.ret (.call 85 (.cons (.var 0) (.cons (.var 1) .nil)))) .nil) .nil) (.cons (.ite (.cmp .eq (.ix (.var 1) (.cst (.int 0))) (.cst (.str [112, 101, 114, 115, 111, 110]))) (.cons (.ret (.call 86 (.cons (.var 0) (.cons (.var 1) .nil)))) .nil) .nil) (.cons (.ite (.cmp .eq (.ix (.var 1) (.cst (.int 0))) (.cst (.str [103, 97, 117, 103, 101]))) (.cons (.ret (.call 55 (.cons (.var 0) (.cons (.sl (.var 1) (.some (.cst (.int 2))) .none) .nil)))) .nil) .nil) (.cons (.exp (.call 49 (.cons (.var 0) (.cons (.cmp .eq (.bi .len (.cons (.var 1) .nil)) (.cst (.int 2))) .nil)))) (.cons (.ret (.cst .non)) .nil)))))))
def f87 : Fn := ⟨2, 2, b87⟩
/-- read_first -/
def b88 : Ss := (.cons (.ite (.cmp .isin (.ix (.var 1) (.cst (.int 0))) (.cst (.frz true [(.str [100, 114, 97, 119, 105, 110, 103]), (.str [98, 105, 108, 108]), (.str [114, 111, 117, 116, 105, 110, 103])]))) (.cons (.ret (.tup (.cons (.call 82 (.cons (.var 0) (.cons (.var 1) .nil))) (.cons (.cst .non) .nil)))) .nil) .nil) (.cons (.exp (.call 49 (.cons (.var 0) (.cons (.cmp .gt (.bi .len (.cons (.var 1) .nil)) (.cst (.int 1))) .nil)))) (.cons (.asg (.nm 2) (.tup (.cons (.ix (.var 1) (.cst (.int 0))) (.cons (.call 50 (.cons (.var 0) (.cons (.ix (.var 1) (.cst (.int 1))) .nil))) (.cons (.cst (.int 0)) .nil))))) (.cons (.ret (.tup (.cons (.var 2) (.cons (.call 87 (.cons (.var 0) (.cons (.var 1) .nil))) .nil)))) .nil))))
def f88 : Fn := ⟨2, 3, b88⟩
/-- read_inner -/
def b89 : Ss := (.cons (.ite (.cmp .eq (.var 0) (.cst (.str [100, 114, 97, 119, 105, 110, 103]))) (.cons (.ret (.call 61 (.cons (.var 1) (.cons (.var 2) .nil)))) .nil) .nil) (.cons (.ret (.call 74 (.cons (.var 1) (.cons (.var 2) .nil)))) .nil))
def f89 : Fn := ⟨3, 3, b89⟩
/-- closed_body -/
def b90 : Ss := (.cons (.ite (.cmp .eq (.var 0) (.cst (.str [100, 114, 97, 119, 105, 110, 103]))) (.cons (.ret (.call 62 (.cons (.var 2) .nil))) .nil) .nil) (.cons (.asg (.nm 3) (.bi .tuple (.cons (.comp (.var 5) (.tp [4, 5]) (.seq (.var 2)) .none [4, 5]) .nil))) (.cons (.ite (.or (.cmp .eq (.var 0) (.cst (.str [109, 97, 99, 104, 105, 110, 101]))) (.cmp .eq (.var 0) (.cst (.str [112, 114, 105, 99, 101])))) (.cons (.ret (.tup (.cons (.var 1) (.cons (.var 3) .nil)))) .nil) .nil) (.cons (.ret (.var 3)) .nil))))
def f90 : Fn := ⟨3, 6, b90⟩
/-- put_record -/
def b91 : Ss := (.cons (.ite (.not (.call 44 (.cons (.var 2) (.cons (.var 3) .nil)))) (.cons (.rse 10 1 (.cons (.var 1) .nil)) .nil) .nil) (.cons (.ite (.cmp .isin (.var 2) (.var 0)) (.cons (.rse 11 1 (.cons (.var 1) .nil)) .nil) .nil) (.cons (.ite (.cmp .eq (.bi .len (.cons (.var 0) .nil)) (.cst (.int 120))) (.cons (.rse 5 2 (.cons (.cst (.str [114, 101, 99, 111, 114, 100, 115])) (.cons (.cst (.int 120)) .nil))) .nil) .nil) (.cons (.put (.var 0) (.var 2) (.var 3)) .nil))))
def f91 : Fn := ⟨4, 4, b91⟩
/-- read_shop -/
def b92 : Ss := (.cons (.asg (.nm 1) .dnew) (.cons (.asg (.nm 2) (.cst (.int 0))) (.cons (.asg (.nm 3) (.cst .non)) (.cons (.asg (.nm 4) (.cst .non)) (.cons (.asg (.nm 5) (.lst .nil)) (.cons (.for (.tp [6, 7]) (.seq (.call 67 (.cons (.var 0) .nil))) (.cons (.asg (.nm 8) (.cst (.str []))) (.cons (.ite (.cmp .gt (.var 2) (.cst (.int 0))) (.cons (.asg (.nm 8) (.ix (.var 3) (.cst (.int 0)))) .nil) .nil) (.cons (.exp (.call 81 (.cons (.var 6) (.cons (.ix (.var 7) (.cst (.int 0))) (.cons (.var 8) .nil))))) (.cons (.ite (.cmp .eq (.ix (.var 7) (.cst (.int 0))) (.cst (.str [101, 110, 100]))) (.cons (.exp (.call 49 (.cons (.var 6) (.cons (.cmp .eq (.bi .len (.cons (.var 7) .nil)) (.cst (.int 1))) .nil)))) (.cons (.exp (.call 91 (.cons (.var 1) (.cons (.var 2) (.cons (.var 3) (.cons (.call 90 (.cons (.var 8) (.cons (.var 4) (.cons (.var 5) .nil)))) .nil)))))) (.cons (.asg (.nm 2) (.cst (.int 0))) .nil))) (.cons (.ite (.cmp .ne (.var 8) (.cst (.str []))) (.cons (.exp (.met .append (.var 5) (.cons (.tup (.cons (.ix (.var 7) (.cst (.int 0))) (.cons (.call 89 (.cons (.var 8) (.cons (.var 6) (.cons (.var 7) .nil)))) .nil))) .nil))) .nil) (.cons (.asg (.tp [3, 4]) (.call 88 (.cons (.var 6) (.cons (.var 7) .nil)))) (.cons (.ite (.cmp .isin (.ix (.var 7) (.cst (.int 0))) (.cst (.cd 1))) (.cons (.asg (.nm 2) (.var 6)) (.cons (.asg (.nm 5) (.lst .nil)) .nil)) (.cons (.exp (.call 91 (.cons (.var 1) (.cons (.var 6) (.cons (.var 3) (.cons (.var 4) .nil)))))) .nil)) .nil))) .nil)) .nil))))) (.cons (.ite (.cmp .gt (.var 2) (.cst (.int 0))) (.cons (.rse 12 1 (.cons (.var 2) .nil)) .nil) .nil) (.cons (.ret (.var 1)) .nil))))))))
def f92 : Fn := ⟨1, 9, b92⟩
/-- read_record -/
def b93 : Ss := (.cons (.asg (.nm 1) (.call 92 (.cons (.var 0) .nil))) (.cons (.ite (.cmp .ne (.bi .len (.cons (.var 1) .nil)) (.cst (.int 1))) (.cons (.rse 9 1 (.cons (.cst (.int 1)) .nil)) .nil) .nil) (.cons (.asg (.nm 2) (.ix (.comp (.var 3) (.nm 3) (.seq (.var 1)) .none [3]) (.cst (.int 0)))) (.cons (.ret (.tup (.cons (.var 2) (.cons (.ix (.var 1) (.var 2)) .nil)))) .nil))))
def f93 : Fn := ⟨1, 4, b93⟩
/-- first_line -/
def b94 : Ss := (.cons (.asg (.tp [3, 4, 5]) (.var 0)) (.cons (.ite (.cmp .isin (.var 3) (.cst (.frz true [(.str [100, 114, 97, 119, 105, 110, 103]), (.str [98, 105, 108, 108]), (.str [114, 111, 117, 116, 105, 110, 103])]))) (.cons (.ret (.met .join (.cst (.str [32])) (.cons (.lst (.cons (.var 3) (.cons (.var 4) (.cons (.cst (.str [102, 114, 111, 109])) (.cons (.call 13 (.cons (.var 5) .nil)) .nil))))) .nil))) .nil) .nil) (.cons (.ite (.cmp .eq (.var 3) (.cst (.str [109, 97, 99, 104, 105, 110, 101]))) (.cons (.ret (.met .join (.cst (.str [32])) (.cons (.lst (.cons (.var 3) (.cons (.var 4) (.cons (.cst (.str [114, 97, 116, 101])) (.cons (.call 14 (.cons (.ix (.var 1) (.cst (.int 0))) .nil)) .nil))))) .nil))) .nil) .nil) (.cons (.ite (.cmp .eq (.var 3) (.cst (.str [112, 114, 105, 99, 101]))) (.cons (.ret (.met .join (.cst (.str [32])) (.cons (.lst (.cons (.var 3) (.cons (.var 4) (.cons (.cst (.str [108, 101, 97, 100])) (.cons (.call 13 (.cons (.ix (.var 1) (.cst (.int 0))) .nil)) .nil))))) .nil))) .nil) .nil) (.cons (.ite (.cmp .eq (.var 3) (.cst (.str [116, 111, 111, 108]))) (.cons (.ret (.met .join (.cst (.str [32])) (.cons (.lst (.cons (.var 3) (.cons (.var 4) (.cons (.cst (.str [107, 105, 110, 100])) (.cons (.ix (.var 1) (.cst (.int 0))) (.cons (.cst (.str [108, 105, 102, 101])) (.cons (.call 13 (.cons (.ix (.var 1) (.cst (.int 1))) .nil)) .nil))))))) .nil))) .nil) .nil) (.cons (.ite (.cmp .eq (.var 3) (.cst (.str [103, 97, 117, 103, 101]))) (.cons (.ret (.met .join (.cst (.str [32])) (.cons (.lst (.cons (.var 3) (.cons (.var 4) (.cons (.call 56 (.cons (.ix (.var 1) (.cst (.int 0))) (.cons (.ix (.var 1) (.cst (.int 1))) .nil))) .nil)))) .nil))) .nil) .nil) (.cons (.ite (.cmp .eq (.var 3) (.cst (.str [99, 104, 97, 110, 103, 101]))) (.cons (.ret (.bin .add (.bin .add (.var 3) (.cst (.str [32]))) (.var 4))) .nil) .nil) (.cons (.asg (.nm 2) (.lst (.cons (.var 3) (.cons (.var 4) (.cons (.cst (.str [114, 97, 116, 101])) (.cons (.call 14 (.cons (.ix (.var 1) (.cst (.int 0))) .nil)) .nil)))))) (.cons (.ite (.cmp .gt (.bi .len (.cons (.ix (.var 1) (.cst (.int 1))) .nil)) (.cst (.int 0))) (.cons (.exp (.met .append (.var 2) (.cons (.bin .add (.cst (.str [109, 97, 121, 32])) (.met .join (.cst (.str [32])) (.cons (.ix (.var 1) (.cst (.int 1))) .nil))) .nil))) .nil) .nil) (.cons (.ret (.met .join (.cst (.str [32])) (.cons (.var 2) .nil))) .nil))))))))))
def f94 : Fn := ⟨2, 6, b94⟩
/-- inner_lines -/
def b95 : Ss := (.cons (.ite (.cmp .eq (.var 0) (.cst (.str [100, 114, 97, 119, 105, 110, 103]))) (.cons (.ret (.call 64 (.cons (.var 1) .nil))) .nil) .nil) (.cons (.ret (.call 80 (.cons (.var 0) (.cons (.var 1) .nil)))) .nil))
def f95 : Fn := ⟨2, 2, b95⟩
/-- write_record -/
def b96 : Ss := (.cons (.asg (.nm 2) (.lst (.cons (.call 94 (.cons (.var 0) (.cons (.var 1) .nil))) .nil))) (.cons (.for (.nm 3) (.seq (.call 95 (.cons (.ix (.var 0) (.cst (.int 0))) (.cons (.var 1) .nil)))) (.cons (.exp (.met .append (.var 2) (.cons (.bin .add (.cst (.str [32, 32])) (.var 3)) .nil))) .nil)) (.cons (.ite (.cmp .isin (.ix (.var 0) (.cst (.int 0))) (.cst (.cd 1))) (.cons (.exp (.met .append (.var 2) (.cons (.cst (.str [101, 110, 100])) .nil))) .nil) .nil) (.cons (.ret (.met .join (.cst (.str [])) (.cons (.comp (.bin .add (.var 3) (.cst (.str [10]))) (.nm 3) (.seq (.var 2)) .none [3]) .nil))) .nil))))
def f96 : Fn := ⟨2, 4, b96⟩
/-- _law_stream -/
def b97 : Ss := (.cons (.asg (.nm 2) (.lst .nil)) (.cons (.asg (.nm 3) (.cst (.int 7))) (.cons (.for (.nm 4) (.seq (.sl (.var 0) .none (.some (.cst (.int 63))))) (.cons (.asg (.nm 6) (.bi .abs (.cons (.bi .int (.cons (.var 4) .nil)) .nil))) (.cons (.ite (.cmp .ge (.var 6) (.bin .pow (.cst (.int 10)) (.cst (.int 18)))) (.cons (.for (.nm 5) (.rng (.cons (.cst (.int 60)) .nil)) (.cons (.ite (.and (.cmp .gt (.var 6) (.cst (.int 0))) (.cmp .lt (.bi .len (.cons (.var 2) .nil)) (.var 1))) (.cons (.exp (.met .append (.var 2) (.cons (.bin .mod (.bi .int (.cons (.var 6) .nil)) (.cst (.int 1000))) .nil))) (.cons (.asg (.nm 6) (.bin .fdiv (.var 6) (.cst (.int 1000)))) .nil)) .nil) .nil)) .nil) (.cons (.ite (.cmp .lt (.bi .len (.cons (.var 2) .nil)) (.var 1)) (.cons (.exp (.met .append (.var 2) (.cons (.bin .mod (.bi .int (.cons (.var 6) .nil)) (.cst (.int 1000))) .nil))) .nil) .nil) .nil)) (.cons (.asg (.nm 3) (.bin .mod (.bi .int (.cons (.bin .add (.bin .add (.bin .mul (.var 3) (.cst (.int 31))) (.bin .mod (.bi .int (.cons (.var 4) .nil)) (.cst (.int 1000003)))) (.cst (.int 5))) .nil)) (.cst (.int 1000003)))) .nil)))) (.cons (.for (.nm 5) (.rng (.cons (.var 1) .nil)) (.cons (.ite (.cmp .lt (.bi .len (.cons (.var 2) .nil)) (.var 1)) (.cons (.asg (.nm 3) (.bin .mod (.bi .int (.cons (.bin .add (.bin .mul (.var 3) (.cst (.int 48271))) (.cst (.int 11))) .nil)) (.cst (.int 1000003)))) (.cons (.exp (.met .append (.var 2) (.cons (.bin .mod (.bi .int (.cons (.bin .fdiv (.var 3) (.cst (.int 7))) .nil)) (.cst (.int 1000))) .nil))) .nil)) .nil) .nil)) (.cons (.ret (.var 2)) .nil)))))
def f97 : Fn := ⟨2, 7, b97⟩
/-- _law_same -/
def b98 : Ss := (.cons (.ite (.inst .tuple (.var 1)) (.cons (.ite (.or (.not (.inst .tuple (.var 0))) (.cmp .ne (.bi .len (.cons (.var 0) .nil)) (.bi .len (.cons (.var 1) .nil)))) (.cons (.ret (.cst (.bl false))) .nil) .nil) (.cons (.for (.nm 2) (.rng (.cons (.bi .len (.cons (.var 1) .nil)) .nil)) (.cons (.ite (.not (.call 98 (.cons (.ix (.var 0) (.var 2)) (.cons (.ix (.var 1) (.var 2)) .nil)))) (.cons (.ret (.cst (.bl false))) .nil) .nil) .nil)) (.cons (.ret (.cst (.bl true))) .nil))) .nil) (.cons (.ite (.inst .list (.var 1)) (.cons (.ite (.or (.not (.inst .list (.var 0))) (.cmp .ne (.bi .len (.cons (.var 0) .nil)) (.bi .len (.cons (.var 1) .nil)))) (.cons (.ret (.cst (.bl false))) .nil) .nil) (.cons (.for (.nm 2) (.rng (.cons (.bi .len (.cons (.var 1) .nil)) .nil)) (.cons (.ite (.not (.call 98 (.cons (.ix (.var 0) (.var 2)) (.cons (.ix (.var 1) (.var 2)) .nil)))) (.cons (.ret (.cst (.bl false))) .nil) .nil) .nil)) (.cons (.ret (.cst (.bl true))) .nil))) .nil) (.cons (.ite (.isN false (.var 1)) (.cons (.ret (.isN false (.var 0))) .nil) .nil) (.cons (.ite (.inst .bool (.var 1)) (.cons (.ret (.and (.inst .bool (.var 0)) (.cmp .eq (.var 0) (.var 1)))) .nil) .nil) (.cons (.ite (.inst .int (.var 1)) (.cons (.ret (.and (.inst .int (.var 0)) (.and (.not (.inst .bool (.var 0))) (.cmp .eq (.var 0) (.var 1))))) .nil) .nil) (.cons (.ret (.and (.inst .str (.var 0)) (.cmp .eq (.var 0) (.var 1)))) .nil))))))
def f98 : Fn := ⟨2, 3, b98⟩
/-- _law_word -/
def b99 : Ss := (.cons (.asg (.nm 2) (.cst (.str [97, 98, 99, 122, 48, 53, 57, 46, 97, 98, 46, 99, 65, 95, 32, 45]))) (.cons (.asg (.nm 3) (.bin .mod (.bi .int (.cons (.ix (.var 0) (.var 1)) .nil)) (.cst (.int 15)))) (.cons (.asg (.nm 4) (.cst (.str []))) (.cons (.for (.nm 5) (.rng (.cons (.var 3) .nil)) (.cons (.asg (.nm 6) (.ix (.var 2) (.bin .mod (.bi .int (.cons (.ix (.var 0) (.bin .add (.bin .add (.var 1) (.cst (.int 1))) (.var 5))) .nil)) (.cst (.int 10))))) (.cons (.ite (.cmp .eq (.bin .mod (.bin .fdiv (.bi .int (.cons (.ix (.var 0) (.bin .add (.bin .add (.var 1) (.cst (.int 1))) (.var 5))) .nil)) (.cst (.int 16))) (.cst (.int 12))) (.cst (.int 0))) (.cons (.asg (.nm 6) (.ix (.var 2) (.bin .mod (.bi .int (.cons (.ix (.var 0) (.bin .add (.bin .add (.var 1) (.cst (.int 1))) (.var 5))) .nil)) (.cst (.int 16))))) .nil) .nil) (.cons (.asg (.nm 4) (.bin .add (.var 4) (.var 6))) .nil)))) (.cons (.ret (.var 4)) .nil)))))
def f99 : Fn := ⟨2, 7, b99⟩
/-- _law_is_name -/
def b100 : Ss := (.cons (.ite (.or (.cmp .lt (.bi .len (.cons (.var 0) .nil)) (.cst (.int 1))) (.or (.cmp .gt (.bi .len (.cons (.var 0) .nil)) (.cst (.int 12))) (.cmp .notin (.ix (.var 0) (.cst (.int 0))) (.cst (.str [97, 98, 99, 100, 101, 102, 103, 104, 105, 106, 107, 108, 109, 110, 111, 112, 113, 114, 115, 116, 117, 118, 119, 120, 121, 122]))))) (.cons (.ret (.cst (.bl false))) .nil) .nil) (.cons (.for (.nm 1) (.seq (.var 0)) (.cons (.ite (.cmp .notin (.var 1) (.cst (.str [97, 98, 99, 100, 101, 102, 103, 104, 105, 106, 107, 108, 109, 110, 111, 112, 113, 114, 115, 116, 117, 118, 119, 120, 121, 122, 48, 49, 50, 51, 52, 53, 54, 55, 56, 57]))) (.cons (.ret (.cst (.bl false))) .nil) .nil) .nil)) (.cons (.ret (.cst (.bl true))) .nil)))
def f100 : Fn := ⟨1, 2, b100⟩
/-- _law_parts -/
def b101 : Ss := (.cons (.asg (.nm 1) (.lst (.cons (.cst (.str [])) .nil))) (.cons (.for (.nm 2) (.seq (.var 0)) (.cons (.ite (.cmp .eq (.var 2) (.cst (.str [46]))) (.cons (.exp (.met .append (.var 1) (.cons (.cst (.str [])) .nil))) .nil) (.cons (.put (.var 1) (.bin .sub (.bi .len (.cons (.var 1) .nil)) (.cst (.int 1))) (.bin .add (.ix (.var 1) (.bin .sub (.bi .len (.cons (.var 1) .nil)) (.cst (.int 1)))) (.var 2))) .nil)) .nil)) (.cons (.ret (.var 1)) .nil)))
def f101 : Fn := ⟨1, 3, b101⟩
/-- _law_is_place -/
def b102 : Ss := (.cons (.asg (.nm 1) (.call 101 (.cons (.var 0) .nil))) (.cons (.ite (.cmp .gt (.bi .len (.cons (.var 1) .nil)) (.cst (.int 4))) (.cons (.ret (.cst (.bl false))) .nil) .nil) (.cons (.ret (.cmp .eq (.bi .len (.cons (.comp (.var 2) (.nm 2) (.seq (.var 1)) (.some (.not (.call 100 (.cons (.var 2) .nil)))) [2]) .nil)) (.cst (.int 0)))) .nil)))
def f102 : Fn := ⟨1, 3, b102⟩
/-- _law_told -/
def b103 : Ss := (.cons (.try (.cons (.ite (.cmp .eq (.var 1) (.cst (.int 0))) (.cons (.ret (.tup (.cons (.cst (.str [116, 111, 108, 100])) (.cons (.call 1 (.cons (.var 0) .nil)) .nil)))) .nil) .nil) (.cons (.ite (.cmp .eq (.var 1) (.cst (.int 1))) (.cons (.ret (.tup (.cons (.cst (.str [116, 111, 108, 100])) (.cons (.call 3 (.cons (.var 0) .nil)) .nil)))) .nil) .nil) (.cons (.ret (.tup (.cons (.cst (.str [116, 111, 108, 100])) (.cons (.call 18 (.cons (.var 0) .nil)) .nil)))) .nil))) (.cons 1 (.ret (.tup (.cons (.cst (.str [110, 97, 109, 101])) (.cons (.fld 0) .nil)))) (.cons 3 (.ret (.tup (.cons (.cst (.str [102, 114, 97, 99, 116, 105, 111, 110])) (.cons (.fld 0) .nil)))) .nil))) .nil)
def f103 : Fn := ⟨2, 3, b103⟩
/-- _law_words -/
def b104 : Ss := (.cons (.for (.nm 1) (.seq (.var 0)) (.cons (.ite (.or (.not (.call 98 (.cons (.call 0 (.cons (.var 1) .nil)) (.cons (.call 100 (.cons (.var 1) .nil)) .nil)))) (.not (.call 98 (.cons (.call 2 (.cons (.var 1) .nil)) (.cons (.call 102 (.cons (.var 1) .nil)) .nil))))) (.cons (.ret (.cst (.bl false))) .nil) .nil) (.cons (.asg (.nm 5) (.tup (.cons (.cst (.str [110, 97, 109, 101])) (.cons (.var 1) .nil)))) (.cons (.ite (.call 100 (.cons (.var 1) .nil)) (.cons (.asg (.nm 5) (.tup (.cons (.cst (.str [116, 111, 108, 100])) (.cons (.var 1) .nil)))) .nil) .nil) (.cons (.ite (.not (.call 98 (.cons (.call 103 (.cons (.var 1) (.cons (.cst (.int 0)) .nil))) (.cons (.var 5) .nil)))) (.cons (.ret (.cst (.bl false))) .nil) .nil) (.cons (.asg (.nm 5) (.tup (.cons (.cst (.str [110, 97, 109, 101])) (.cons (.var 1) .nil)))) (.cons (.ite (.call 102 (.cons (.var 1) .nil)) (.cons (.asg (.nm 6) (.call 101 (.cons (.var 1) .nil))) (.cons (.asg (.nm 5) (.tup (.cons (.cst (.str [116, 111, 108, 100])) (.cons (.tup (.cons (.bi .tuple (.cons (.sl (.var 6) .none (.some (.neg (.cst (.int 1))))) .nil)) (.cons (.ix (.var 6) (.bin .sub (.bi .len (.cons (.var 6) .nil)) (.cst (.int 1)))) .nil))) .nil)))) .nil)) .nil) (.cons (.ite (.not (.call 98 (.cons (.call 103 (.cons (.var 1) (.cons (.cst (.int 1)) .nil))) (.cons (.var 5) .nil)))) (.cons (.ret (.cst (.bl false))) .nil) .nil) (.cons (.ite (.and (.call 102 (.cons (.var 1) .nil)) (.not (.call 98 (.cons (.call 4 (.cons (.cst (.str [115, 49])) (.cons (.var 1) .nil))) (.cons (.bin .add (.cst (.str [115, 49, 46])) (.var 1)) .nil))))) (.cons (.ret (.cst (.bl false))) .nil) .nil) .nil))))))))) (.cons (.for (.nm 2) (.seq (.lst (.cons (.cst .non) (.cons (.cst (.int 5)) (.cons (.cst (.bl true)) (.cons (.tup (.cons (.cst (.str [97])) .nil)) (.cons (.lst (.cons (.cst (.str [97])) .nil)) .nil))))))) (.cons (.ite (.or (.isB true false (.call 0 (.cons (.var 2) .nil))) (.isB true false (.call 2 (.cons (.var 2) .nil)))) (.cons (.ret (.cst (.bl false))) .nil) .nil) .nil)) (.cons (.asg (.nm 3) (.cst .non)) (.cons (.for (.nm 4) (.rng (.cons (.bi .len (.cons (.var 0) .nil)) .nil)) (.cons (.ite (.and (.isN false (.var 3)) (.cmp .isin (.ix (.var 0) (.var 4)) (.sl (.var 0) .none (.some (.var 4))))) (.cons (.asg (.nm 3) (.ix (.var 0) (.var 4))) .nil) .nil) .nil)) (.cons (.ret (.and (.call 98 (.cons (.call 5 (.cons (.var 0) .nil)) (.cons (.var 3) .nil))) (.call 98 (.cons (.call 5 (.cons (.bi .tuple (.cons (.var 0) .nil)) .nil)) (.cons (.var 3) .nil))))) .nil)))))
def f104 : Fn := ⟨1, 7, b104⟩
/-- _law_gcd -/
def b105 : Ss := (.cons (.for (.nm 2) (.rng (.cons (.cst (.int 60)) .nil)) (.cons (.ite (.cmp .eq (.var 1) (.cst (.int 0))) (.cons .brk .nil) .nil) (.cons (.par 0 1 (.var 1) (.bin .mod (.bi .int (.cons (.var 0) .nil)) (.var 1))) .nil))) (.cons (.ret (.bi .abs (.cons (.var 0) .nil))) .nil))
def f105 : Fn := ⟨2, 3, b105⟩
/-- _law_fractions -/
def b106 : Ss := (.cons (.asg (.nm 3) (.call 105 (.cons (.var 0) (.cons (.var 1) .nil)))) (.cons (.asg (.nm 4) (.tup (.cons (.bin .fdiv (.var 0) (.var 3)) (.cons (.bin .fdiv (.var 1) (.var 3)) .nil)))) (.cons (.asg (.nm 5) (.bi .str (.cons (.ix (.var 4) (.cst (.int 0))) .nil))) (.cons (.ite (.cmp .gt (.ix (.var 4) (.cst (.int 1))) (.cst (.int 1))) (.cons (.asg (.nm 5) (.bin .add (.bin .add (.var 5) (.cst (.str [47]))) (.bi .str (.cons (.ix (.var 4) (.cst (.int 1))) .nil)))) .nil) .nil) (.cons (.ite (.or (.not (.call 98 (.cons (.call 14 (.cons (.var 4) .nil)) (.cons (.var 5) .nil)))) (.not (.call 98 (.cons (.call 103 (.cons (.var 5) (.cons (.cst (.int 2)) .nil))) (.cons (.tup (.cons (.cst (.str [116, 111, 108, 100])) (.cons (.var 4) .nil))) .nil))))) (.cons (.ret (.cst (.bl false))) .nil) .nil) (.cons (.ite (.and (.cmp .gt (.var 3) (.cst (.int 1))) (.not (.call 98 (.cons (.call 103 (.cons (.bin .add (.bin .add (.bi .str (.cons (.var 0) .nil)) (.cst (.str [47]))) (.bi .str (.cons (.var 1) .nil))) (.cons (.cst (.int 2)) .nil))) (.cons (.tup (.cons (.cst (.str [102, 114, 97, 99, 116, 105, 111, 110])) (.cons (.bin .add (.bin .add (.bi .str (.cons (.var 0) .nil)) (.cst (.str [47]))) (.bi .str (.cons (.var 1) .nil))) .nil))) .nil))))) (.cons (.ret (.cst (.bl false))) .nil) .nil) (.cons (.asg (.nm 6) (.lst (.cons (.bin .add (.var 5) (.cst (.str [47, 49]))) (.cons (.bin .add (.cst (.str [48])) (.var 5)) (.cons (.bin .add (.cst (.str [32])) (.var 5)) (.cons (.bin .add (.var 5) (.cst (.str [32]))) (.cons (.bin .add (.cst (.str [43])) (.var 5)) (.cons (.cst (.str [])) (.cons (.cst (.str [45])) (.cons (.cst (.str [45, 48])) (.cons (.cst (.str [49, 47, 48])) (.cons (.cst (.str [49, 47, 45, 50])) (.cons (.cst (.str [49, 47, 48, 50])) (.cons (.cst (.str [47, 50])) (.cons (.cst (.str [49, 47])) (.cons (.cst (.str [49, 47, 50, 47, 51])) .nil)))))))))))))))) (.cons (.asg (.nm 7) (.ix (.var 6) (.bin .mod (.bi .int (.cons (.var 2) .nil)) (.cst (.int 14))))) (.cons (.ret (.call 98 (.cons (.call 103 (.cons (.var 7) (.cons (.cst (.int 2)) .nil))) (.cons (.tup (.cons (.cst (.str [102, 114, 97, 99, 116, 105, 111, 110])) (.cons (.var 7) .nil))) .nil)))) .nil)))))))))
def f106 : Fn := ⟨3, 8, b106⟩
/-- _law_records -/
def b107 : Ss := (.cons (.asg (.nm 0) (.tup (.cons (.cst (.str [119])) (.cons (.cst (.str [112])) (.cons (.cst (.str [113, 46, 114])) (.cons (.tup (.cons (.cst (.int 1)) (.cons (.cst (.int 2)) .nil))) (.cons (.tup (.cons (.cst (.int 3)) (.cons (.cst (.int 1)) .nil))) .nil))))))) (.cons (.asg (.nm 1) (.lst (.cons (.tup (.cons (.tup (.cons (.cst (.str [100, 114, 97, 119, 105, 110, 103])) (.cons (.cst (.str [100])) (.cons (.cst (.int 9999)) .nil)))) (.cons (.tup (.cons (.tup (.cons (.cst (.str [112])) (.cons (.cst (.str [111])) .nil))) (.cons (.tup (.cons (.var 0) .nil)) (.cons (.tup (.cons (.var 0) .nil)) .nil)))) .nil))) .nil))) (.cons (.exp (.met .append (.var 1) (.cons (.tup (.cons (.tup (.cons (.cst (.str [98, 105, 108, 108])) (.cons (.cst (.str [98])) (.cons (.cst (.int 1)) .nil)))) (.cons (.tup (.cons (.tup (.cons (.cst (.str [115])) (.cons (.cst (.int 1000)) (.cons (.tup (.cons (.cst (.str [117])) (.cons (.cst (.str [118])) (.cons (.cst (.str [119])) .nil)))) .nil)))) (.cons (.tup (.cons (.cst (.str [116])) (.cons (.cst (.int 1)) (.cons (.tup (.cons (.cst (.str [117])) .nil)) .nil)))) .nil))) .nil))) .nil))) (.cons (.exp (.met .append (.var 1) (.cons (.tup (.cons (.tup (.cons (.cst (.str [114, 111, 117, 116, 105, 110, 103])) (.cons (.cst (.str [114])) (.cons (.cst (.int 7)) .nil)))) (.cons (.tup (.cons (.tup (.cons (.cst (.str [115])) (.cons (.cst (.str [107])) (.cons (.tup (.cons (.cst (.str [109])) (.cons (.cst (.str [110])) .nil))) (.cons (.cst (.str [98, 105, 116])) (.cons (.cst (.int 1)) (.cons (.cst (.int 0)) (.cons (.cst (.int 1)) .nil)))))))) (.cons (.tup (.cons (.cst (.str [116])) (.cons (.cst (.str [107])) (.cons (.tup (.cons (.cst (.str [109])) .nil)) (.cons (.cst (.str [])) (.cons (.cst (.int 0)) (.cons (.cst (.int 9)) (.cons (.cst (.int 2)) .nil)))))))) .nil))) .nil))) .nil))) (.cons (.exp (.met .append (.var 1) (.cons (.tup (.cons (.tup (.cons (.cst (.str [109, 97, 99, 104, 105, 110, 101])) (.cons (.cst (.str [109])) (.cons (.cst (.int 0)) .nil)))) (.cons (.tup (.cons (.tup (.cons (.cst (.int 1)) (.cons (.cst (.int 2)) .nil))) (.cons (.tup (.cons (.tup (.cons (.cst (.int 0)) (.cons (.cst (.int 1)) .nil))) (.cons (.tup (.cons (.cst (.int 2)) (.cons (.cst (.int 100000)) .nil))) .nil))) .nil))) .nil))) .nil))) (.cons (.exp (.met .append (.var 1) (.cons (.tup (.cons (.tup (.cons (.cst (.str [116, 111, 111, 108])) (.cons (.cst (.str [116])) (.cons (.cst (.int 0)) .nil)))) (.cons (.tup (.cons (.cst (.str [98, 105, 116])) (.cons (.cst (.int 100000)) .nil))) .nil))) .nil))) (.cons (.exp (.met .append (.var 1) (.cons (.tup (.cons (.tup (.cons (.cst (.str [112, 101, 114, 115, 111, 110])) (.cons (.cst (.str [120])) (.cons (.cst (.int 0)) .nil)))) (.cons (.tup (.cons (.tup (.cons (.cst (.int 0)) (.cons (.cst (.int 1)) .nil))) (.cons (.tup (.cons (.cst (.str [97])) (.cons (.cst (.str [98])) .nil))) .nil))) .nil))) .nil))) (.cons (.exp (.met .append (.var 1) (.cons (.tup (.cons (.tup (.cons (.cst (.str [103, 97, 117, 103, 101])) (.cons (.cst (.str [103])) (.cons (.cst (.int 0)) .nil)))) (.cons (.tup (.cons (.tup (.cons (.neg (.cst (.int 1))) (.cons (.cst (.int 1000)) .nil))) (.cons (.tup (.cons (.cst (.int 0)) (.cons (.cst (.int 1)) .nil))) .nil))) .nil))) .nil))) (.cons (.exp (.met .append (.var 1) (.cons (.tup (.cons (.tup (.cons (.cst (.str [112, 114, 105, 99, 101])) (.cons (.cst (.str [99])) (.cons (.cst (.int 0)) .nil)))) (.cons (.tup (.cons (.cst (.int 0)) (.cons (.tup (.cons (.tup (.cons (.cst (.int 1)) (.cons (.tup (.cons (.cst (.int 5)) (.cons (.cst (.int 1)) .nil))) .nil))) (.cons (.tup (.cons (.cst (.int 1000000)) (.cons (.tup (.cons (.cst (.int 1000000)) (.cons (.cst (.int 1)) .nil))) .nil))) .nil))) .nil))) .nil))) .nil))) (.cons (.exp (.met .append (.var 1) (.cons (.tup (.cons (.tup (.cons (.cst (.str [99, 104, 97, 110, 103, 101])) (.cons (.cst (.str [109])) (.cons (.cst (.int 0)) .nil)))) (.cons (.tup (.cons (.tup (.cons (.cst (.str [97])) (.cons (.cst (.str [98])) (.cons (.cst (.int 1000)) .nil)))) (.cons (.tup (.cons (.cst (.str [98])) (.cons (.cst (.str [97])) (.cons (.cst (.int 0)) .nil)))) .nil))) .nil))) .nil))) (.cons (.ret (.var 1)) .nil)))))))))))
def f107 : Fn := ⟨0, 2, b107⟩
/-- _law_spoilt -/
def b108 : Ss := (.cons (.asg (.nm 0) (.tup (.cons (.cst (.str [119])) (.cons (.cst (.str [112])) (.cons (.cst (.str [113, 46, 114])) (.cons (.tup (.cons (.cst (.int 1)) (.cons (.cst (.int 2)) .nil))) (.cons (.tup (.cons (.cst (.int 3)) (.cons (.cst (.int 1)) .nil))) .nil))))))) (.cons (.asg (.nm 1) (.lst (.cons (.tup (.cons (.cst (.str [100, 114, 97, 119, 105, 110, 103])) (.cons (.cst (.str [100])) (.cons (.cst (.int 10000)) (.cons (.tup (.cons (.tup (.cons (.cst (.str [112])) .nil)) (.cons (.tup .nil) (.cons (.tup .nil) .nil)))) .nil))))) (.cons (.tup (.cons (.cst (.str [100, 114, 97, 119, 105, 110, 103])) (.cons (.cst (.str [100])) (.cons (.cst (.int 0)) (.cons (.tup (.cons (.tup (.cons (.cst (.str [112])) .nil)) (.cons (.tup .nil) (.cons (.tup .nil) .nil)))) .nil))))) (.cons (.tup (.cons (.cst (.str [100, 114, 97, 119, 105, 110, 103])) (.cons (.cst (.str [68])) (.cons (.cst (.int 1)) (.cons (.tup (.cons (.tup (.cons (.cst (.str [112])) .nil)) (.cons (.tup .nil) (.cons (.tup .nil) .nil)))) .nil))))) .nil))))) (.cons (.asg (.nm 1) (.bin .add (.var 1) (.lst (.cons (.tup (.cons (.cst (.str [100, 114, 97, 119, 105, 110, 103])) (.cons (.cst (.str [100])) (.cons (.cst (.int 1)) (.cons (.tup (.cons (.tup .nil) (.cons (.tup .nil) (.cons (.tup .nil) .nil)))) .nil))))) (.cons (.tup (.cons (.cst (.str [100, 114, 97, 119, 105, 110, 103])) (.cons (.cst (.str [100])) (.cons (.cst (.int 1)) (.cons (.tup (.cons (.tup (.cons (.cst (.str [112])) (.cons (.cst (.str [112])) .nil))) (.cons (.tup .nil) (.cons (.tup .nil) .nil)))) .nil))))) (.cons (.tup (.cons (.cst (.str [100, 114, 97, 119, 105, 110, 103])) (.cons (.cst (.str [100])) (.cons (.cst (.int 1)) (.cons (.tup (.cons (.tup (.cons (.cst (.str [112])) .nil)) (.cons (.tup (.cons (.var 0) (.cons (.var 0) .nil))) (.cons (.tup .nil) .nil)))) .nil))))) .nil)))))) (.cons (.exp (.met .append (.var 1) (.cons (.tup (.cons (.cst (.str [100, 114, 97, 119, 105, 110, 103])) (.cons (.cst (.str [100])) (.cons (.cst (.int 1)) (.cons (.tup (.cons (.tup (.cons (.cst (.str [111])) .nil)) (.cons (.tup (.cons (.var 0) .nil)) (.cons (.tup .nil) .nil)))) .nil))))) .nil))) (.cons (.exp (.met .append (.var 1) (.cons (.tup (.cons (.cst (.str [100, 114, 97, 119, 105, 110, 103])) (.cons (.cst (.str [100])) (.cons (.cst (.int 1)) (.cons (.tup (.cons (.tup (.cons (.cst (.str [112])) .nil)) (.cons (.tup (.cons (.tup (.cons (.cst (.str [119])) (.cons (.cst (.str [112])) (.cons (.cst (.str [112])) (.cons (.tup (.cons (.cst (.int 1)) (.cons (.cst (.int 1)) .nil))) (.cons (.tup (.cons (.cst (.int 1)) (.cons (.cst (.int 1)) .nil))) .nil)))))) .nil)) (.cons (.tup .nil) .nil)))) .nil))))) .nil))) (.cons (.exp (.met .append (.var 1) (.cons (.tup (.cons (.cst (.str [100, 114, 97, 119, 105, 110, 103])) (.cons (.cst (.str [100])) (.cons (.cst (.int 1)) (.cons (.tup (.cons (.tup (.cons (.cst (.str [112])) (.cons (.cst (.str [113])) .nil))) (.cons (.tup (.cons (.tup (.cons (.cst (.str [119])) (.cons (.cst (.str [112])) (.cons (.cst (.str [113])) (.cons (.tup (.cons (.cst (.int 2)) (.cons (.cst (.int 1)) .nil))) (.cons (.tup (.cons (.cst (.int 1)) (.cons (.cst (.int 1)) .nil))) .nil)))))) .nil)) (.cons (.tup .nil) .nil)))) .nil))))) .nil))) (.cons (.exp (.met .append (.var 1) (.cons (.tup (.cons (.cst (.str [100, 114, 97, 119, 105, 110, 103])) (.cons (.cst (.str [100])) (.cons (.cst (.int 1)) (.cons (.tup (.cons (.tup (.cons (.cst (.str [112])) (.cons (.cst (.str [113])) .nil))) (.cons (.tup (.cons (.tup (.cons (.cst (.str [119])) (.cons (.cst (.str [112])) (.cons (.cst (.str [113])) (.cons (.tup (.cons (.cst (.int 1)) (.cons (.cst (.int 1)) .nil))) (.cons (.tup (.cons (.cst (.int 1)) (.cons (.cst (.int 1001)) .nil))) .nil)))))) .nil)) (.cons (.tup .nil) .nil)))) .nil))))) .nil))) (.cons (.asg (.nm 1) (.bin .add (.var 1) (.lst (.cons (.tup (.cons (.cst (.str [98, 105, 108, 108])) (.cons (.cst (.str [98])) (.cons (.cst (.int 1)) (.cons (.tup .nil) .nil))))) (.cons (.tup (.cons (.cst (.str [98, 105, 108, 108])) (.cons (.cst (.str [98])) (.cons (.cst (.int 1)) (.cons (.tup (.cons (.tup (.cons (.cst (.str [115])) (.cons (.cst (.int 0)) (.cons (.tup (.cons (.cst (.str [117])) .nil)) .nil)))) .nil)) .nil))))) (.cons (.tup (.cons (.cst (.str [98, 105, 108, 108])) (.cons (.cst (.str [98])) (.cons (.cst (.int 1)) (.cons (.tup (.cons (.tup (.cons (.cst (.str [115])) (.cons (.cst (.int 1001)) (.cons (.tup (.cons (.cst (.str [117])) .nil)) .nil)))) .nil)) .nil))))) .nil)))))) (.cons (.asg (.nm 1) (.bin .add (.var 1) (.lst (.cons (.tup (.cons (.cst (.str [98, 105, 108, 108])) (.cons (.cst (.str [98])) (.cons (.cst (.int 1)) (.cons (.tup (.cons (.tup (.cons (.cst (.str [115])) (.cons (.cst (.int 1)) (.cons (.tup (.cons (.cst (.str [117])) (.cons (.cst (.str [117])) .nil))) .nil)))) .nil)) .nil))))) (.cons (.tup (.cons (.cst (.str [98, 105, 108, 108])) (.cons (.cst (.str [98])) (.cons (.cst (.int 1)) (.cons (.tup (.cons (.tup (.cons (.cst (.str [115])) (.cons (.cst (.int 1)) (.cons (.tup .nil) .nil)))) .nil)) .nil))))) (.cons (.tup (.cons (.cst (.str [98, 105, 108, 108])) (.cons (.cst (.str [98])) (.cons (.cst (.int 0)) (.cons (.tup (.cons (.tup (.cons (.cst (.str [115])) (.cons (.cst (.int 1)) (.cons (.tup (.cons (.cst (.str [117])) .nil)) .nil)))) .nil)) .nil))))) .nil)))))) (.cons (.exp (.met .append (.var 1) (.cons (.tup (.cons (.cst (.str [98, 105, 108, 108])) (.cons (.cst (.str [98])) (.cons (.cst (.int 1)) (.cons (.tup (.cons (.tup (.cons (.cst (.str [115])) (.cons (.cst (.int 1)) (.cons (.tup (.cons (.cst (.str [117])) .nil)) .nil)))) (.cons (.tup (.cons (.cst (.str [115])) (.cons (.cst (.int 2)) (.cons (.tup (.cons (.cst (.str [118])) .nil)) .nil)))) .nil))) .nil))))) .nil))) (.cons (.asg (.nm 1) (.bin .add (.var 1) (.lst (.cons (.tup (.cons (.cst (.str [114, 111, 117, 116, 105, 110, 103])) (.cons (.cst (.str [114])) (.cons (.cst (.int 1)) (.cons (.tup (.cons (.tup (.cons (.cst (.str [115])) (.cons (.cst (.str [107])) (.cons (.tup (.cons (.cst (.str [109])) .nil)) (.cons (.cst (.str [])) (.cons (.cst (.int 1)) (.cons (.cst (.int 0)) (.cons (.cst (.int 1)) .nil)))))))) .nil)) .nil))))) (.cons (.tup (.cons (.cst (.str [114, 111, 117, 116, 105, 110, 103])) (.cons (.cst (.str [114])) (.cons (.cst (.int 1)) (.cons (.tup (.cons (.tup (.cons (.cst (.str [115])) (.cons (.cst (.str [107])) (.cons (.tup (.cons (.cst (.str [109])) .nil)) (.cons (.cst (.str [98, 105, 116])) (.cons (.cst (.int 0)) (.cons (.cst (.int 0)) (.cons (.cst (.int 1)) .nil)))))))) .nil)) .nil))))) .nil))))) (.cons (.asg (.nm 1) (.bin .add (.var 1) (.lst (.cons (.tup (.cons (.cst (.str [114, 111, 117, 116, 105, 110, 103])) (.cons (.cst (.str [114])) (.cons (.cst (.int 1)) (.cons (.tup (.cons (.tup (.cons (.cst (.str [115])) (.cons (.cst (.str [107])) (.cons (.tup .nil) (.cons (.cst (.str [])) (.cons (.cst (.int 0)) (.cons (.cst (.int 0)) (.cons (.cst (.int 1)) .nil)))))))) .nil)) .nil))))) (.cons (.tup (.cons (.cst (.str [114, 111, 117, 116, 105, 110, 103])) (.cons (.cst (.str [114])) (.cons (.cst (.int 1)) (.cons (.tup (.cons (.tup (.cons (.cst (.str [115])) (.cons (.cst (.str [107])) (.cons (.tup (.cons (.cst (.str [109])) .nil)) (.cons (.cst (.str [])) (.cons (.cst (.int 0)) (.cons (.cst (.int 0)) (.cons (.cst (.int 0)) .nil)))))))) .nil)) .nil))))) .nil))))) (.cons (.asg (.nm 1) (.bin .add (.var 1) (.lst (.cons (.tup (.cons (.cst (.str [114, 111, 117, 116, 105, 110, 103])) (.cons (.cst (.str [114])) (.cons (.cst (.int 1)) (.cons (.tup (.cons (.tup (.cons (.cst (.str [115])) (.cons (.cst (.str [107])) (.cons (.tup (.cons (.cst (.str [109])) .nil)) (.cons (.cst (.str [])) (.cons (.cst (.int 0)) (.cons (.cst (.int 1001)) (.cons (.cst (.int 1)) .nil)))))))) .nil)) .nil))))) (.cons (.tup (.cons (.cst (.str [114, 111, 117, 116, 105, 110, 103])) (.cons (.cst (.str [114])) (.cons (.cst (.int 1)) (.cons (.tup .nil) .nil))))) .nil))))) (.cons (.asg (.nm 1) (.bin .add (.var 1) (.lst (.cons (.tup (.cons (.cst (.str [109, 97, 99, 104, 105, 110, 101])) (.cons (.cst (.str [109])) (.cons (.cst (.int 1)) (.cons (.tup (.cons (.tup (.cons (.cst (.int 1)) (.cons (.cst (.int 1)) .nil))) (.cons (.tup .nil) .nil))) .nil))))) (.cons (.tup (.cons (.cst (.str [109, 97, 99, 104, 105, 110, 101])) (.cons (.cst (.str [109])) (.cons (.cst (.int 0)) (.cons (.tup (.cons (.tup (.cons (.neg (.cst (.int 1))) (.cons (.cst (.int 1)) .nil))) (.cons (.tup .nil) .nil))) .nil))))) (.cons (.tup (.cons (.cst (.str [109, 97, 99, 104, 105, 110, 101])) (.cons (.cst (.str [109])) (.cons (.cst (.int 0)) (.cons (.tup (.cons (.tup (.cons (.cst (.int 1)) (.cons (.cst (.int 1)) .nil))) (.cons (.tup (.cons (.tup (.cons (.cst (.int 3)) (.cons (.cst (.int 3)) .nil))) .nil)) .nil))) .nil))))) .nil)))))) (.cons (.asg (.nm 1) (.bin .add (.var 1) (.lst (.cons (.tup (.cons (.cst (.str [109, 97, 99, 104, 105, 110, 101])) (.cons (.cst (.str [109])) (.cons (.cst (.int 0)) (.cons (.tup (.cons (.tup (.cons (.cst (.int 1)) (.cons (.cst (.int 1)) .nil))) (.cons (.tup (.cons (.tup (.cons (.cst (.int 0)) (.cons (.cst (.int 2)) .nil))) (.cons (.tup (.cons (.cst (.int 2)) (.cons (.cst (.int 3)) .nil))) .nil))) .nil))) .nil))))) (.cons (.tup (.cons (.cst (.str [109, 97, 99, 104, 105, 110, 101])) (.cons (.cst (.str [109])) (.cons (.cst (.int 0)) (.cons (.tup (.cons (.tup (.cons (.cst (.int 1)) (.cons (.cst (.int 1)) .nil))) (.cons (.tup (.cons (.tup (.cons (.cst (.int 0)) (.cons (.cst (.int 100001)) .nil))) .nil)) .nil))) .nil))))) .nil))))) (.cons (.asg (.nm 1) (.bin .add (.var 1) (.lst (.cons (.tup (.cons (.cst (.str [116, 111, 111, 108])) (.cons (.cst (.str [116])) (.cons (.cst (.int 0)) (.cons (.tup (.cons (.cst (.str [98, 105, 116])) (.cons (.neg (.cst (.int 1))) .nil))) .nil))))) (.cons (.tup (.cons (.cst (.str [116, 111, 111, 108])) (.cons (.cst (.str [116])) (.cons (.cst (.int 0)) (.cons (.tup (.cons (.cst (.str [])) (.cons (.cst (.int 1)) .nil))) .nil))))) (.cons (.tup (.cons (.cst (.str [112, 101, 114, 115, 111, 110])) (.cons (.cst (.str [120])) (.cons (.cst (.int 0)) (.cons (.tup (.cons (.tup (.cons (.cst (.int 1)) (.cons (.cst (.int 1)) .nil))) (.cons (.tup (.cons (.cst (.str [98])) (.cons (.cst (.str [97])) .nil))) .nil))) .nil))))) .nil)))))) (.cons (.asg (.nm 1) (.bin .add (.var 1) (.lst (.cons (.tup (.cons (.cst (.str [112, 101, 114, 115, 111, 110])) (.cons (.cst (.str [120])) (.cons (.cst (.int 0)) (.cons (.tup (.cons (.tup (.cons (.cst (.int 1)) (.cons (.cst (.int 1)) .nil))) (.cons (.tup (.cons (.cst (.str [97])) (.cons (.cst (.str [97])) .nil))) .nil))) .nil))))) (.cons (.tup (.cons (.cst (.str [103, 97, 117, 103, 101])) (.cons (.cst (.str [103])) (.cons (.cst (.int 0)) (.cons (.tup (.cons (.tup (.cons (.cst (.int 1)) (.cons (.cst (.int 1)) .nil))) (.cons (.tup (.cons (.cst (.int 0)) (.cons (.cst (.int 1)) .nil))) .nil))) .nil))))) (.cons (.tup (.cons (.cst (.str [103, 97, 117, 103, 101])) (.cons (.cst (.str [103])) (.cons (.cst (.int 0)) (.cons (.tup (.cons (.tup (.cons (.cst (.int 2)) (.cons (.cst (.int 2)) .nil))) (.cons (.tup (.cons (.cst (.int 3)) (.cons (.cst (.int 1)) .nil))) .nil))) .nil))))) .nil)))))) (.cons (.asg (.nm 1) (.bin .add (.var 1) (.lst (.cons (.tup (.cons (.cst (.str [112, 114, 105, 99, 101])) (.cons (.cst (.str [99])) (.cons (.cst (.int 0)) (.cons (.tup (.cons (.cst (.int 0)) (.cons (.tup (.cons (.tup (.cons (.cst (.int 2)) (.cons (.tup (.cons (.cst (.int 1)) (.cons (.cst (.int 1)) .nil))) .nil))) .nil)) .nil))) .nil))))) (.cons (.tup (.cons (.cst (.str [112, 114, 105, 99, 101])) (.cons (.cst (.str [99])) (.cons (.cst (.int 0)) (.cons (.tup (.cons (.cst (.int 0)) (.cons (.tup .nil) .nil))) .nil))))) (.cons (.tup (.cons (.cst (.str [112, 114, 105, 99, 101])) (.cons (.cst (.str [99])) (.cons (.cst (.int 0)) (.cons (.tup (.cons (.cst (.int 0)) (.cons (.tup (.cons (.tup (.cons (.cst (.int 1)) (.cons (.tup (.cons (.cst (.int 1)) (.cons (.cst (.int 1)) .nil))) .nil))) (.cons (.tup (.cons (.cst (.int 1)) (.cons (.tup (.cons (.cst (.int 2)) (.cons (.cst (.int 1)) .nil))) .nil))) .nil))) .nil))) .nil))))) .nil)))))) (.cons (.asg (.nm 1) (.bin .add (.var 1) (.lst (.cons (.tup (.cons (.cst (.str [112, 114, 105, 99, 101])) (.cons (.cst (.str [99])) (.cons (.cst (.int 0)) (.cons (.tup (.cons (.cst (.int 100001)) (.cons (.tup (.cons (.tup (.cons (.cst (.int 1)) (.cons (.tup (.cons (.cst (.int 1)) (.cons (.cst (.int 1)) .nil))) .nil))) .nil)) .nil))) .nil))))) (.cons (.tup (.cons (.cst (.str [99, 104, 97, 110, 103, 101])) (.cons (.cst (.str [109])) (.cons (.cst (.int 0)) (.cons (.tup (.cons (.tup (.cons (.cst (.str [97])) (.cons (.cst (.str [97])) (.cons (.cst (.int 1)) .nil)))) .nil)) .nil))))) (.cons (.tup (.cons (.cst (.str [99, 104, 97, 110, 103, 101])) (.cons (.cst (.str [109])) (.cons (.cst (.int 0)) (.cons (.tup (.cons (.tup (.cons (.cst (.str [97])) (.cons (.cst (.str [98])) (.cons (.cst (.int 1001)) .nil)))) .nil)) .nil))))) .nil)))))) (.cons (.ret (.bin .add (.var 1) (.lst (.cons (.tup (.cons (.cst (.str [99, 104, 97, 110, 103, 101])) (.cons (.cst (.str [109])) (.cons (.cst (.int 0)) (.cons (.tup (.cons (.tup (.cons (.cst (.str [97])) (.cons (.cst (.str [98])) (.cons (.cst (.int 1)) .nil)))) (.cons (.tup (.cons (.cst (.str [97])) (.cons (.cst (.str [98])) (.cons (.cst (.int 2)) .nil)))) .nil))) .nil))))) (.cons (.tup (.cons (.cst (.str [116, 111, 111, 108, 115])) (.cons (.cst (.str [116])) (.cons (.cst (.int 0)) (.cons (.tup (.cons (.cst (.str [98, 105, 116])) (.cons (.cst (.int 1)) .nil))) .nil))))) .nil))))) .nil))))))))))))))))))))
def f108 : Fn := ⟨0, 2, b108⟩
/-- _law_shelf -/
def b109 : Ss := (.cons (.asg (.nm 1) (.lst (.cons (.cst (.str [100, 114, 97, 119, 105, 110, 103])) (.cons (.cst (.str [98, 105, 108, 108])) (.cons (.cst (.str [114, 111, 117, 116, 105, 110, 103])) (.cons (.cst (.str [109, 97, 99, 104, 105, 110, 101])) (.cons (.cst (.str [116, 111, 111, 108])) (.cons (.cst (.str [112, 101, 114, 115, 111, 110])) (.cons (.cst (.str [103, 97, 117, 103, 101])) (.cons (.cst (.str [112, 114, 105, 99, 101])) (.cons (.cst (.str [99, 104, 97, 110, 103, 101])) .nil))))))))))) (.cons (.asg (.nm 2) .dnew) (.cons (.asg (.nm 3) (.lst .nil)) (.cons (.asg (.nm 4) (.call 107 .nil)) (.cons (.for (.nm 5) (.rng (.cons (.bin .mod (.bi .int (.cons (.ix (.var 0) (.cst (.int 0))) .nil)) (.cst (.int 13))) .nil)) (.cons (.asg (.nm 8) (.bin .mod (.bi .int (.cons (.ix (.var 0) (.bin .add (.var 5) (.cst (.int 1)))) .nil)) (.cst (.int 9)))) (.cons (.asg (.nm 9) (.ix (.lst (.cons (.cst (.str [97])) (.cons (.cst (.str [97, 49])) (.cons (.cst (.str [98])) (.cons (.cst (.str [97, 98])) .nil))))) (.bin .mod (.bin .fdiv (.bi .int (.cons (.ix (.var 0) (.bin .add (.var 5) (.cst (.int 1)))) .nil)) (.cst (.int 9))) (.cst (.int 4))))) (.cons (.asg (.nm 10) (.cst (.int 0))) (.cons (.ite (.cmp .lt (.var 8) (.cst (.int 3))) (.cons (.asg (.nm 10) (.bin .add (.cst (.int 1)) (.bin .mod (.bin .fdiv (.bi .int (.cons (.ix (.var 0) (.bin .add (.var 5) (.cst (.int 1)))) .nil)) (.cst (.int 36))) (.cst (.int 12))))) .nil) .nil) (.cons (.ite (.cmp .notin (.tup (.cons (.var 8) (.cons (.var 9) (.cons (.var 10) .nil)))) (.var 3)) (.cons (.exp (.met .append (.var 3) (.cons (.tup (.cons (.var 8) (.cons (.var 9) (.cons (.var 10) .nil)))) .nil))) (.cons (.put (.var 2) (.tup (.cons (.ix (.var 1) (.var 8)) (.cons (.var 9) (.cons (.var 10) .nil)))) (.ix (.ix (.var 4) (.var 8)) (.cst (.int 1)))) .nil)) .nil) .nil)))))) (.cons (.asg (.nm 6) (.comp (.tup (.cons (.ix (.var 1) (.ix (.var 11) (.cst (.int 0)))) (.cons (.ix (.var 11) (.cst (.int 1))) (.cons (.ix (.var 11) (.cst (.int 2))) .nil)))) (.nm 11) (.seq (.bi .sorted (.cons (.var 3) .nil))) .none [11])) (.cons (.ite (.not (.call 98 (.cons (.call 47 (.cons (.var 2) .nil)) (.cons (.var 6) .nil)))) (.cons (.ret (.cst (.bl false))) .nil) .nil) (.cons (.for (.nm 7) (.seq (.var 1)) (.cons (.for (.nm 9) (.seq (.lst (.cons (.cst (.str [97])) (.cons (.cst (.str [97, 49])) (.cons (.cst (.str [122, 122])) .nil))))) (.cons (.asg (.nm 12) (.comp (.tup (.cons (.ix (.var 13) (.cst (.int 2))) (.cons (.ix (.var 2) (.var 13)) .nil))) (.nm 13) (.seq (.var 6)) (.some (.and (.cmp .eq (.ix (.var 13) (.cst (.int 0))) (.var 7)) (.cmp .eq (.ix (.var 13) (.cst (.int 1))) (.var 9)))) [13])) (.cons (.ite (.not (.call 98 (.cons (.call 48 (.cons (.var 2) (.cons (.var 7) (.cons (.var 9) .nil)))) (.cons (.var 12) .nil)))) (.cons (.ret (.cst (.bl false))) .nil) .nil) .nil))) .nil)) (.cons (.ret (.cst (.bl true))) .nil)))))))))
def f109 : Fn := ⟨1, 14, b109⟩
/-- _law_two -/
def b110 : Ss := (.cons (.try (.cons (.exp (.call 93 (.cons (.var 0) .nil))) .nil) (.cons 9 (.ret (.call 98 (.cons (.fld 0) (.cons (.cst (.int 1)) .nil)))) (.cons 0 (.ret (.cst (.bl false))) .nil))) (.cons (.ret (.cst (.bl false))) .nil))
def f110 : Fn := ⟨1, 2, b110⟩
/-- _law_orders -/
def b111 : Ss := (.cons (.asg (.nm 1) (.tup (.cons (.cst (.str [111])) (.cons (.cst (.str [112])) (.cons (.bin .add (.cst (.int 1)) (.var 0)) (.cons (.bin .add (.cst (.int 1)) (.bin .mul (.cst (.int 9)) (.var 0))) (.cons (.bin .mul (.cst (.int 100)) (.var 0)) .nil))))))) (.cons (.ite (.or (.isB true true (.call 45 (.cons (.var 1) .nil))) (.isB true true (.call 45 (.cons (.tup (.cons (.cst (.str [111])) (.cons (.cst (.str [112])) (.cons (.cst (.int 1000)) (.cons (.cst (.int 9999)) (.cons (.cst (.int 100000)) .nil)))))) .nil)))) (.cons (.ret (.cst (.bl false))) .nil) .nil) (.cons (.asg (.nm 2) (.lst (.cons (.tup (.cons (.cst (.str [79])) (.cons (.cst (.str [112])) (.cons (.cst (.int 1)) (.cons (.cst (.int 1)) (.cons (.cst (.int 0)) .nil)))))) (.cons (.tup (.cons (.cst (.str [111])) (.cons (.cst (.str [])) (.cons (.cst (.int 1)) (.cons (.cst (.int 1)) (.cons (.cst (.int 0)) .nil)))))) (.cons (.tup (.cons (.cst (.str [111])) (.cons (.cst (.str [112])) (.cons (.cst (.int 0)) (.cons (.cst (.int 1)) (.cons (.cst (.int 0)) .nil)))))) (.cons (.tup (.cons (.cst (.str [111])) (.cons (.cst (.str [112])) (.cons (.cst (.int 1001)) (.cons (.cst (.int 1)) (.cons (.cst (.int 0)) .nil)))))) (.cons (.tup (.cons (.cst (.str [111])) (.cons (.cst (.str [112])) (.cons (.cst (.int 1)) (.cons (.cst (.int 0)) (.cons (.cst (.int 0)) .nil)))))) (.cons (.bin .add (.var 1) (.tup (.cons (.cst (.int 1)) .nil))) .nil)))))))) (.cons (.asg (.nm 2) (.bin .add (.var 2) (.lst (.cons (.tup (.cons (.cst (.str [111])) (.cons (.cst (.str [112])) (.cons (.cst (.int 1)) (.cons (.cst (.int 10000)) (.cons (.cst (.int 0)) .nil)))))) (.cons (.tup (.cons (.cst (.str [111])) (.cons (.cst (.str [112])) (.cons (.cst (.int 1)) (.cons (.cst (.int 1)) (.cons (.neg (.cst (.int 1))) .nil)))))) (.cons (.tup (.cons (.cst (.str [111])) (.cons (.cst (.str [112])) (.cons (.cst (.int 1)) (.cons (.cst (.int 1)) (.cons (.cst (.int 100001)) .nil)))))) (.cons (.sl (.var 1) .none (.some (.cst (.int 4)))) (.cons (.bi .list (.cons (.var 1) .nil)) (.cons (.cst .non) (.cons (.cst (.str [111])) .nil)))))))))) (.cons (.exp (.met .append (.var 2) (.cons (.tup (.cons (.cst (.str [111])) (.cons (.cst (.str [112])) (.cons (.cst (.bl true)) (.cons (.cst (.int 1)) (.cons (.cst (.int 0)) .nil)))))) .nil))) (.cons (.for (.nm 3) (.seq (.var 2)) (.cons (.ite (.isB true false (.call 45 (.cons (.var 3) .nil))) (.cons (.ret (.cst (.bl false))) .nil) .nil) .nil)) (.cons (.ret (.cst (.bl true))) .nil)))))))
def f111 : Fn := ⟨1, 4, b111⟩
/-- law -/
def b112 : Ss := (.cons (.asg (.nm 1) (.call 97 (.cons (.var 0) (.cons (.cst (.int 60)) .nil)))) (.cons (.asg (.nm 2) (.lst (.cons (.call 99 (.cons (.var 1) (.cons (.cst (.int 0)) .nil))) (.cons (.call 99 (.cons (.var 1) (.cons (.cst (.int 15)) .nil))) (.cons (.call 99 (.cons (.var 1) (.cons (.cst (.int 30)) .nil))) (.cons (.cst (.str [97, 46, 98, 49, 46, 99, 46, 100])) (.cons (.cst (.str [97, 98, 99, 100, 101, 102, 103, 104, 105, 106, 107, 108])) (.cons (.cst (.str [97, 98, 99, 100, 101, 102, 103, 104, 105, 106, 107, 108, 109])) .nil)))))))) (.cons (.ite (.cmp .eq (.bin .mod (.bi .int (.cons (.ix (.var 1) (.cst (.int 59))) .nil)) (.cst (.int 2))) (.cst (.int 0))) (.cons (.exp (.met .append (.var 2) (.cons (.ix (.var 2) (.bin .mod (.bi .int (.cons (.ix (.var 1) (.cst (.int 58))) .nil)) (.cst (.int 6)))) .nil))) .nil) .nil) (.cons (.ite (.not (.call 104 (.cons (.var 2) .nil))) (.cons (.ret (.cst (.bl false))) .nil) .nil) (.cons (.asg (.nm 3) (.bin .sub (.bin .add (.bin .mul (.bi .int (.cons (.ix (.var 1) (.cst (.int 50))) .nil)) (.cst (.int 1000))) (.bi .int (.cons (.ix (.var 1) (.cst (.int 51))) .nil))) (.cst (.int 400000)))) (.cons (.ite (.or (.not (.call 106 (.cons (.var 3) (.cons (.bin .add (.cst (.int 1)) (.bin .mod (.bi .int (.cons (.ix (.var 1) (.cst (.int 52))) .nil)) (.cst (.int 40)))) (.cons (.ix (.var 1) (.cst (.int 53))) .nil))))) (.not (.call 109 (.cons (.sl (.var 1) (.some (.cst (.int 30))) (.some (.cst (.int 50)))) .nil)))) (.cons (.ret (.cst (.bl false))) .nil) .nil) (.cons (.asg (.nm 4) (.call 107 .nil)) (.cons (.for (.tp [7, 8]) (.seq (.var 4)) (.cons (.ite (.or (.isB true true (.call 44 (.cons (.var 7) (.cons (.var 8) .nil)))) (.not (.call 98 (.cons (.call 93 (.cons (.call 96 (.cons (.var 7) (.cons (.var 8) .nil))) .nil)) (.cons (.tup (.cons (.var 7) (.cons (.var 8) .nil))) .nil))))) (.cons (.ret (.cst (.bl false))) .nil) .nil) (.cons (.ite (.or (.isB true false (.call 44 (.cons (.sl (.var 7) .none (.some (.cst (.int 2)))) (.cons (.var 8) .nil)))) (.or (.isB true false (.call 44 (.cons (.var 7) (.cons (.cst .non) .nil)))) (.isB true false (.call 44 (.cons (.var 7) (.cons (.bi .list (.cons (.var 8) .nil)) .nil)))))) (.cons (.ret (.cst (.bl false))) .nil) .nil) .nil))) (.cons (.asg (.nm 5) (.call 108 .nil)) (.cons (.for (.nm 6) (.seq (.var 5)) (.cons (.ite (.isB true false (.call 44 (.cons (.sl (.var 6) .none (.some (.cst (.int 3)))) (.cons (.ix (.var 6) (.cst (.int 3))) .nil)))) (.cons (.ret (.cst (.bl false))) .nil) .nil) .nil)) (.cons (.par 9 10 (.ix (.var 4) (.bin .mod (.bi .int (.cons (.ix (.var 1) (.cst (.int 54))) .nil)) (.cst (.int 9)))) (.ix (.var 4) (.bin .mod (.bin .add (.bin .add (.bi .int (.cons (.ix (.var 1) (.cst (.int 54))) .nil)) (.cst (.int 1))) (.bin .mod (.bi .int (.cons (.ix (.var 1) (.cst (.int 55))) .nil)) (.cst (.int 8)))) (.cst (.int 9))))) (.cons (.ite (.or (.not (.call 110 (.cons (.bin .add (.call 96 (.cons (.ix (.var 9) (.cst (.int 0))) (.cons (.ix (.var 9) (.cst (.int 1))) .nil))) (.call 96 (.cons (.ix (.var 10) (.cst (.int 0))) (.cons (.ix (.var 10) (.cst (.int 1))) .nil)))) .nil))) (.not (.call 110 (.cons (.cst (.str [35, 32, 110, 111, 110, 101])) .nil)))) (.cons (.ret (.cst (.bl false))) .nil) .nil) (.cons (.ret (.call 111 (.cons (.bi .int (.cons (.ix (.var 1) (.cst (.int 56))) .nil)) .nil))) .nil)))))))))))))
def f112 : Fn := ⟨1, 11, b112⟩
def flL : List Fn := [f0, f1, f2, f3, f4, f5, f6, f7, f8, f9, f10, f11, f12, f13, f14, f15, f16, f17, f18, f19, f20, f21, f22, f23, f24, f25, f26, f27, f28, f29, f30, f31, f32, f33, f34, f35, f36, f37, f38, f39, f40, f41, f42, f43, f44, f45, f46, f47, f48, f49, f50, f51, f52, f53, f54, f55, f56, f57, f58, f59, f60, f61, f62, f63, f64, f65, f66, f67, f68, f69, f70, f71, f72, f73, f74, f75, f76, f77, f78, f79, f80, f81, f82, f83, f84, f85, f86, f87, f88, f89, f90, f91, f92, f93, f94, f95, f96, f97, f98, f99, f100, f101, f102, f103, f104, f105, f106, f107, f108, f109, f110, f111, f112]
def tbL : Nat → Option Fn := fun i => flL[i]?
end K91
end
section
set_option Elab.async false
set_option linter.all false
set_option maxRecDepth 100000
set_option autoImplicit false
namespace K91
open PySem Ev
theorem fl_eq : tab.fl = flL := by kernel_rfl
theorem tb_eq : tab.tb = tbL := by
  unfold Tb.tb tbL
  rw [fl_eq]
abbrev hotL : CF := runH tab.cds tab.sub tab.tbh
/-- the law's defs, at depth d -/
abbrev go (d : Nat) : CF := run tab.cds hotL tab.sub tbL d
end K91
end
section
set_option Elab.async false
set_option linter.all false
set_option maxRecDepth 100000
set_option autoImplicit false
namespace K91
open PySem Ev
abbrev lo26 : Txt := [97, 98, 99, 100, 101, 102, 103, 104, 105, 106, 107, 108, 109, 110, 111, 112, 113, 114, 115, 116, 117, 118, 119, 120, 121, 122]
abbrev lo36 : Txt := [97, 98, 99, 100, 101, 102, 103, 104, 105, 106, 107, 108, 109, 110, 111, 112, 113, 114, 115, 116, 117, 118, 119, 120, 121, 122, 48, 49, 50, 51, 52, 53, 54, 55, 56, 57]
def inL (c : Nat) (l : Txt) : Bool := l.any fun z => decide (z = c)
def hd : Txt → Nat
  | [] => 0
  | c :: _ => c
/-- is the text a name -/
def nameB (x : Txt) : Bool := decide (1 ≤ x.length) && (decide (x.length ≤ 12) && (inL (hd x) lo26 && x.all fun c => inL c lo36))
theorem go_at {f d : Nat} {t : Fn} {ds : List D} {s : Sto} (h : tbL f = some t) (hl : ds.length = t.np) :
    go (d + 1) f ds s = fin (evSs tab.cds (go d) hotL tab.sub t.body (ds.map some ++ List.replicate (t.nl - t.np) none) s) := run_at h hl
theorem inF_str {c : Nat} {l : Txt} {s : Sto} {cds : Cds} (h : small l.length = true) : inF cds (.str [c]) (.str l) s = some (inL c l) := by
  simp only [inF, h, if_true, inL]
theorem small26 : small lo26.length = true := by decide
theorem small36 : small lo36.length = true := by decide
theorem name_turn {cf : CF} {c : Nat} {v : D} {o : Option D} {s : Sto} : turn tab.cds cf hotL tab.sub (.nm 1) (.cons (.ite (.cmp .notin (.var 1) (.cst (.str lo36))) (.cons (.ret (.cst (.bl false))) .nil) .nil) .nil) (.str [c]) [some v, o] s =
    if inL c lo36 then ok (.nx [some v, some (.str [c])]) s else ok (.rt (.bl false)) s := by
  simp [cmpF, inF_str small36]
  cases inL c lo36 <;> simp
theorem name_loop {cf : CF} {v : D} {o : Option D} {s : Sto} (x : Txt) : ∃ o', loopL (turn tab.cds cf hotL tab.sub (.nm 1) (.cons (.ite (.cmp .notin (.var 1) (.cst (.str lo36))) (.cons (.ret (.cst (.bl false))) .nil) .nil) .nil)) (x.map fun c => .str [c]) [some v, o] s =
    if x.all (fun c => inL c lo36) then ok (.nx [some v, o']) s else ok (.rt (.bl false)) s := by
  induction x generalizing o with
  | nil => exact ⟨o, rfl⟩
  | cons c r ih =>
    obtain ⟨o', e⟩ := ih (o := some (.str [c]))
    refine ⟨o', ?_⟩
    rw [List.map_cons, loopL, name_turn, List.all_cons]
    cases inL c lo36 with
    | true => simpa [nextL] using e
    | false => simp [nextL]
theorem at_zero {x : Txt} (h : 1 ≤ x.length) : at? x 0 = some (hd x) := by
  cases x with
  | nil => simp at h
  | cons c r => rfl
theorem is_name_str {d : Nat} {x : Txt} {s : Sto} (hx : small x.length = true) : go (d + 1) 0 [.str x] s = ok (.bl (nameB x)) s := by
  rw [go_at (t := f0) rfl rfl]
  unfold nameB
  by_cases h1 : 1 ≤ x.length
  · have h1' : ¬ ((x.length : Int) < 1) := by omega
    by_cases h2 : x.length ≤ 12
    · have h2' : ¬ ((12 : Int) < x.length) := by omega
      obtain ⟨o', e⟩ := name_loop (cf := go d) (v := .str x) (o := none) (s := s) x
      cases h3 : inL (hd x) lo26 with
      | false => simp [f0, b0, isTy, biF, hx, cmpF, h1', h2', ixF, at_zero h1, inF_str small26, h3]
      | true =>
        simp [f0, b0, isTy, biF, hx, cmpF, h1, h2, h1', h2', ixF, at_zero h1, inF_str small26, h3]
        rw [e]
        cases x.all (fun c => inL c lo36) <;> simp
    · have h2' : (12 : Int) < x.length := by omega
      simp [f0, b0, isTy, biF, hx, cmpF, h1', h2', h2]
  · have h1' : (x.length : Int) < 1 := by omega
    simp [f0, b0, isTy, biF, hx, cmpF, h1', h1]
theorem law_is_name_str {d : Nat} {x : Txt} {s : Sto} (hx : small x.length = true) : go (d + 1) 100 [.str x] s = ok (.bl (nameB x)) s := by
  rw [go_at (t := f100) rfl rfl]
  unfold nameB
  by_cases h1 : 1 ≤ x.length
  · have h1' : ¬ ((x.length : Int) < 1) := by omega
    by_cases h2 : x.length ≤ 12
    · have h2' : ¬ ((12 : Int) < x.length) := by omega
      obtain ⟨o', e⟩ := name_loop (cf := go d) (v := .str x) (o := none) (s := s) x
      cases h3 : inL (hd x) lo26 with
      | false => simp [f100, b100, isTy, biF, hx, cmpF, h1', h2', ixF, at_zero h1, inF_str small26, h3]
      | true =>
        simp [f100, b100, isTy, biF, hx, cmpF, h1, h2, h1', h2', ixF, at_zero h1, inF_str small26, h3]
        rw [e]
        cases x.all (fun c => inL c lo36) <;> simp
    · have h2' : (12 : Int) < x.length := by omega
      simp [f100, b100, isTy, biF, hx, cmpF, h1', h2', h2]
  · have h1' : (x.length : Int) < 1 := by omega
    simp [f100, b100, isTy, biF, hx, cmpF, h1', h1]
theorem c_is_name {d : Nat} {x : Txt} {s : Sto} (hx : small x.length = true) : callF (go (d + 1)) 0 [.str x] s = ok (.bl (nameB x)) s := call_pure rfl (is_name_str hx) rfl
theorem c_law_is_name {d : Nat} {x : Txt} {s : Sto} (hx : small x.length = true) : callF (go (d + 1)) 100 [.str x] s = ok (.bl (nameB x)) s := call_pure rfl (law_is_name_str hx) rfl
theorem check_name_str {d : Nat} {x : Txt} {s : Sto} (hx : small x.length = true) : go (d + 2) 1 [.str x] s = if nameB x then ok (.str x) s else some (.exc 1 [.str x] s) := by
  rw [go_at (t := f1) rfl rfl]
  cases h : nameB x <;> simp [f1, b1, c_is_name hx, h, rseK_ok]
/-! ### places -/
theorem split_len : ∀ {r acc : Txt}, (∀ p ∈ splitT 46 acc r, p.length ≤ acc.length + r.length) ∧ splitT 46 acc r ≠ [] ∧ (splitT 46 acc r).length ≤ r.length + 1
  | [], acc => ⟨fun p hp => by simp [splitT] at hp; simp [hp], by simp [splitT], by simp [splitT]⟩
  | c :: r, acc => by
    unfold splitT
    by_cases h : c = 46
    · obtain ⟨h1, h2, h3⟩ := split_len (r := r) (acc := [])
      rw [if_pos h]
      refine ⟨fun p hp => ?_, by simp, by simp; omega⟩
      rcases List.mem_cons.mp hp with e | hp
      · subst e; simp
      · have := h1 p hp
        simp at this ⊢
        omega
    · obtain ⟨h1, h2, h3⟩ := split_len (r := r) (acc := acc ++ [c])
      rw [if_neg h]
      refine ⟨fun p hp => ?_, h2, by simp; omega⟩
      have := h1 p hp
      simp at this ⊢
      omega
def partsOf (x : Txt) : List Txt := splitT 46 [] x
def placeB (x : Txt) : Bool := decide ((partsOf x).length ≤ 4) && (partsOf x).all nameB
theorem small_le {n m : Nat} (h : n ≤ m) (hm : small m = true) : small n = true := by
  unfold small at hm ⊢
  exact Nat.ble_eq_true_of_le (Nat.le_trans h (Nat.le_of_ble_eq_true hm))
theorem parts_small {x : Txt} (hx : small x.length = true) : ∀ p ∈ partsOf x, small p.length = true := fun p hp => small_le (by have := (split_len (r := x) (acc := [])).1 p hp; simpa using this) hx
theorem place_turn {d : Nat} {p : Txt} {v1 v2 : Option D} {o : Option D} {s : Sto} (hp : small p.length = true) : turn tab.cds (go (d + 1)) hotL tab.sub (.nm 2) (.cons (.ite (.not (.call 0 (.cons (.var 2) .nil))) (.cons (.ret (.cst (.bl false))) .nil) .nil) .nil) (.str p) [v1, v2, o] s =
    if nameB p then ok (.nx [v1, v2, some (.str p)]) s else ok (.rt (.bl false)) s := by
  cases h : nameB p <;> simp [c_is_name hp, h]
theorem met_split {x : Txt} {s : Sto} (hx : small x.length = true) : metF .split (.str x) [.str [46]] s = some (.ref s.length, s ++ [.lst ((partsOf x).map .str)]) := by
  simp [metF, hx, new, partsOf]
def strOf : D → Txt
  | .str x => x
  | _ => []
theorem all_parts {ps : List Txt} : (ps.map D.str).all (fun y => nameB (strOf y)) = ps.all nameB := by
  rw [List.all_map]
  rfl
theorem is_place_str {d : Nat} {x : Txt} (hx : small x.length = true) : ∃ s', go (d + 2) 2 [.str x] [] = ok (.bl (placeB x)) s' := by
  rw [go_at (t := f2) rfl rfl]
  unfold placeB
  refine ⟨[.lst ((partsOf x).map .str)], ?_⟩
  by_cases h : (partsOf x).length ≤ 4
  · have h' : ¬ ((4 : Int) < (partsOf x).length) := by omega
    obtain ⟨o', e⟩ := forK_chk (cds := tab.cds) (cf := go (d + 1)) (hot := hotL) (sub := tab.sub) (t := .nm 2) (E := fun o => [some (.str x), some (.ref 0), o]) (p := fun y => nameB (strOf y)) (bad := .bl false) (o := none) (s := [.lst ((partsOf x).map .str)]) (a := 0) (xs := (partsOf x).map .str) rfl
      fun y hy o => by
        obtain ⟨p, hp, rfl⟩ := List.mem_map.mp hy
        exact place_turn (d := d) (parts_small hx p hp)
    rw [all_parts] at e
    generalize (partsOf x).all nameB = A at e ⊢
    simp [f2, b2, isTy, biF, hx, cmpF, met_split, h', seqK_ref, h, e]
    cases A <;> simp
  · have h' : (4 : Int) < (partsOf x).length := by omega
    simp [f2, b2, isTy, biF, hx, cmpF, met_split, h', h]
theorem c_is_place {d : Nat} {x : Txt} {s : Sto} (hx : small x.length = true) : callF (go (d + 2)) 2 [.str x] s = ok (.bl (placeB x)) s := by
  obtain ⟨s', h⟩ := is_place_str (d := d) hx
  exact call_pure rfl h rfl
end K91
end
section
set_option Elab.async false
set_option linter.all false
set_option maxRecDepth 100000
set_option autoImplicit false
namespace K91
open PySem Ev
/-! ### values that compare -/
theorem data_int {s : Sto} {i : Int} : toData s (.int i) = some (.int i) := rfl
theorem data_bl {s : Sto} {b : Bool} : toData s (.bl b) = some (.bool b) := rfl
theorem data_non {s : Sto} : toData s .non = some .none := rfl
def cpB (x : Txt) : Bool := x.all fun c => decide (c < 1114112)
theorem data_str {s : Sto} {x : Txt} (h : cpB x = true) : toData s (.str x) = some (.str ⟨x.toArray⟩) := by
  have e : SeqAt.shaped (.str ⟨x.toArray⟩) = true := by
    show (PyData.strOk _ && true) = true
    unfold PyData.strOk
    simp only [List.all_toArray, Bool.and_true]
    exact h
  unfold toData
  simp only [D.toP, e, if_true]
theorem eq_int {s : Sto} {i j : Int} : cmpF tab.cds .eq (.int i) (.int j) s = some (i == j) := rfl
theorem ne_int {s : Sto} {i j : Int} : cmpF tab.cds .ne (.int i) (.int j) s = some (!(i == j)) := rfl
theorem eq_bl {s : Sto} {i j : Bool} : cmpF tab.cds .eq (.bl i) (.bl j) s = some (i == j) := rfl
theorem eqv_txt {x y : Txt} : PyData.eqv (.str ⟨x.toArray⟩) (.str ⟨y.toArray⟩) = decide (x = y) := by
  show ((⟨x.toArray⟩ : Str) == ⟨y.toArray⟩) = _
  by_cases h : x = y
  · subst h; simp
  · have : (⟨x.toArray⟩ : Str) ≠ ⟨y.toArray⟩ := fun e => h (by
      have e2 := congrArg (fun z : Str => z.cps.toList) e
      simpa using e2)
    simp [h, this]
theorem eq_str {s : Sto} {x y : Txt} (hx : cpB x = true) (hy : cpB y = true) : cmpF tab.cds .eq (.str x) (.str y) s = some (decide (x = y)) := by
  simp only [cmpF, data_str hx, data_str hy, eqv_txt]
mutual
def good : D → Bool
  | .non => true
  | .bl _ => true
  | .int _ => true
  | .str x => cpB x
  | .tup xs => decide (xs.length ≤ 1000) && goodL xs
  | _ => false
def goodL : List D → Bool
  | [] => true
  | x :: xs => good x && goodL xs
end
mutual
def dp : D → Nat
  | .tup xs => dpL xs + 1
  | _ => 0
def dpL : List D → Nat
  | [] => 0
  | x :: xs => max (dp x) (dpL xs)
end
mutual
theorem good_pure : ∀ d : D, good d = true → d.pure = true
  | .non, _ => by simp only [D.pure]
  | .bl _, _ => by simp only [D.pure]
  | .int _, _ => by simp only [D.pure]
  | .str _, _ => by simp only [D.pure]
  | .tup xs, h => by simp only [D.pure]; exact good_pureL xs (by simp only [good, Bool.and_eq_true] at h; exact h.2)
  | .frz _ _, h => by simp [good] at h
  | .ref _, h => by simp [good] at h
  | .fn _, h => by simp [good] at h
  | .cd _, h => by simp [good] at h
theorem good_pureL : ∀ l : List D, goodL l = true → pureL l = true
  | [], _ => by simp only [pureL]
  | x :: xs, h => by
    simp only [goodL, Bool.and_eq_true] at h
    simp only [pureL, good_pure x h.1, good_pureL xs h.2, Bool.and_self]
end
theorem good_mem {x : D} : ∀ {l : List D}, goodL l = true → x ∈ l → good x = true
  | y :: l, h, hx => by
    simp only [goodL, Bool.and_eq_true] at h
    rcases List.mem_cons.mp hx with e | hx
    · subst e; exact h.1
    · exact good_mem h.2 hx
theorem dp_mem {x : D} : ∀ {l : List D}, x ∈ l → dp x ≤ dpL l
  | y :: l, hx => by
    simp only [dpL]
    rcases List.mem_cons.mp hx with e | hx
    · subst e; exact Nat.le_max_left ..
    · exact Nat.le_trans (dp_mem hx) (Nat.le_max_right ..)
theorem mem_upto {x : D} : ∀ {n : Nat} {lo : Int}, x ∈ upto lo n → ∃ k : Nat, k < n ∧ x = .int (lo + k)
  | 0, lo, h => by simp [upto] at h
  | n + 1, lo, h => by
    rcases List.mem_cons.mp h with e | h
    · exact ⟨0, by omega, by rw [e]; simp⟩
    · obtain ⟨k, h1, h2⟩ := mem_upto h
      exact ⟨k + 1, by omega, by rw [h2]; congr 1; omega⟩
theorem at_nat {α : Type} {xs : List α} {k : Nat} : at? xs (k : Int) = xs[k]? := by
  unfold at?
  rw [if_pos (by omega)]
  simp
theorem rng_nat {n : Nat} {s : Sto} (h : n ≤ 1000) : rngK [.int (n : Int)] s = ok (.rng 0 n) s := by
  rw [rngK_1 (by omega)]
  simp
abbrev sameT : Ss := .cons (.ite (.not (.call 98 (.cons (.ix (.var 0) (.var 2)) (.cons (.ix (.var 1) (.var 2)) .nil)))) (.cons (.ret (.cst (.bl false))) .nil) .nil) .nil
theorem same_loop {cf : CF} {v w : D} {xs : List D} {s : Sto} {o : Option D} (hv : ∀ (k : Nat) x, xs[k]? = some x → ixF tab.cds v (.int (k : Int)) s = some x) (hw : ∀ (k : Nat) x, xs[k]? = some x → ixF tab.cds w (.int (k : Int)) s = some x)
    (hc : ∀ x ∈ xs, callF cf 98 [x, x] s = ok (.bl true) s) : ∃ o', loopL (turn tab.cds cf hotL tab.sub (.nm 2) sameT) (upto 0 xs.length) [some v, some w, o] s = ok (.nx [some v, some w, o']) s := by
  obtain ⟨o', e⟩ := loop_chk (g := turn tab.cds cf hotL tab.sub (.nm 2) sameT) (E := fun o => [some v, some w, o]) (p := fun _ => true) (bad := .non) (s := s) (xs := upto 0 xs.length) (o := o) fun y hy o => by
    obtain ⟨k, hk, rfl⟩ := mem_upto hy
    have hx := List.getElem?_eq_getElem hk
    rw [Int.zero_add]
    simp [hv k _ hx, hw k _ hx, hc _ (List.getElem_mem hk)]
  refine ⟨o', ?_⟩
  rw [e]
  simp
theorem same_flat {d : Nat} {v : D} {s : Sto} (g : good v = true) (h : ∀ xs, v ≠ .tup xs) : go (d + 1) 98 [v, v] s = ok (.bl true) s := by
  rw [go_at (t := f98) rfl rfl]
  cases v with
  | non => simp [f98, b98, isTy]
  | bl b => simp [f98, b98, isTy, eq_bl]
  | int i => simp [f98, b98, isTy, eq_int]
  | str x =>
    simp only [good] at g
    simp [f98, b98, isTy, eq_str g g]
  | tup xs => exact absurd rfl (h xs)
  | frz _ _ => simp [good] at g
  | ref _ => simp [good] at g
  | fn _ => simp [good] at g
  | cd _ => simp [good] at g
theorem same_tup {d : Nat} {xs : List D} {s : Sto} (hn : xs.length ≤ 1000) (hc : ∀ x ∈ xs, callF (go d) 98 [x, x] s = ok (.bl true) s) : go (d + 1) 98 [.tup xs, .tup xs] s = ok (.bl true) s := by
  rw [go_at (t := f98) rfl rfl]
  obtain ⟨o', e⟩ := same_loop (cf := go d) (v := .tup xs) (w := .tup xs) (xs := xs) (s := s) (o := none) (fun k x hx => by simp only [ixF, at_nat, hx]) (fun k x hx => by simp only [ixF, at_nat, hx]) hc
  simp [f98, b98, isTy, biF, ne_int, rng_nat hn, e]
theorem same_refl (d : Nat) : ∀ (v : D), good v = true → dp v ≤ d → ∀ s : Sto, go (d + 1) 98 [v, v] s = ok (.bl true) s := by
  induction d with
  | zero =>
    intro v g h s
    exact same_flat g fun xs e => by subst e; simp only [dp] at h; omega
  | succ d ih =>
    intro v g h s
    cases v with
    | tup xs =>
      simp only [good, Bool.and_eq_true, decide_eq_true_eq] at g
      simp only [dp] at h
      exact same_tup g.1 fun x hx => call_pure (by simp only [pureL, good_pure x (good_mem g.2 hx), Bool.and_self]) (ih x (good_mem g.2 hx) (Nat.le_trans (dp_mem hx) (by omega)) []) rfl
    | _ => exact same_flat g fun xs e => by cases e
theorem c_same {d : Nat} {v : D} {s : Sto} (g : good v = true) (h : dp v ≤ d) : callF (go (d + 1)) 98 [v, v] s = ok (.bl true) s :=
  call_pure (by simp only [pureL, good_pure v g, Bool.and_self]) (same_refl d v g h []) rfl
/-- two lists of the store, the same items -/
theorem same_lists {d a b : Nat} {xs : List D} {s : Sto} (ha : s[a]? = some (.lst xs)) (hb : s[b]? = some (.lst xs)) (hn : xs.length ≤ 1000) (g : goodL xs = true) (h : dpL xs ≤ d) : go (d + 2) 98 [.ref a, .ref b] s = ok (.bl true) s := by
  rw [go_at (t := f98) rfl rfl]
  obtain ⟨o', e⟩ := same_loop (cf := go (d + 1)) (v := .ref a) (w := .ref b) (xs := xs) (s := s) (o := none) (fun k x hx => by simp only [ixF, ha, at_nat, hx]) (fun k x hx => by simp only [ixF, hb, at_nat, hx]) fun x hx => c_same (good_mem g hx) (Nat.le_trans (dp_mem hx) h)
  simp [f98, b98, isTy, biF, ha, hb, ne_int, rng_nat hn, e]
theorem c_same_lists {d a b : Nat} {xs : List D} {s : Sto} (ha : s[a]? = some (.lst xs)) (hb : s[b]? = some (.lst xs)) (hn : xs.length ≤ 1000) (g : goodL xs = true) (h : dpL xs ≤ d) : callF (go (d + 2)) 98 [.ref a, .ref b] s = ok (.bl true) s := by
  rw [call_ref rfl, same_lists ha hb hn g h]
/-! ### parts of places -/
def lastD : List D → D
  | [] => .non
  | [x] => x
  | _ :: r => lastD r
theorem last_at : ∀ {xs : List D}, xs ≠ [] → xs[xs.length - 1]? = some (lastD xs)
  | [x], _ => rfl
  | x :: y :: r, _ => by
    have := last_at (xs := y :: r) (by simp)
    simpa [lastD] using this
theorem at_m1 {xs : List D} (h : xs ≠ []) : at? xs (-1) = some (lastD xs) := by
  have hl : 0 < xs.length := List.length_pos_iff.mpr h
  unfold at?
  rw [if_neg (by omega), if_pos (by omega), ← last_at h]
  congr 1
  omega
theorem at_len {xs : List D} (h : xs ≠ []) : at? xs ((xs.length : Int) - 1) = some (lastD xs) := by
  have hl : 0 < xs.length := List.length_pos_iff.mpr h
  unfold at?
  rw [if_pos (by omega), ← last_at h]
  congr 1
  omega
theorem cut_m1 {xs : List D} : cut xs none (some (-1)) = xs.take (xs.length - 1) := by
  unfold cut Ev.bound
  simp only [List.drop_zero, Nat.sub_zero]
  rw [if_pos (by decide)]
  congr 1
  omega
/-- a place's seats and its point -/
def seatV (x : Txt) : D := .tup [.tup (((partsOf x).map .str).take (((partsOf x).map D.str).length - 1)), lastD ((partsOf x).map .str)]
theorem parts_ne {x : Txt} : (partsOf x).map D.str ≠ [] := by
  simp only [ne_eq, List.map_eq_nil_iff]
  exact (split_len (r := x) (acc := [])).2.1
theorem place_parts_str {d : Nat} {x : Txt} (hx : small x.length = true) : ∃ s', go (d + 3) 3 [.str x] [] = if placeB x then ok (seatV x) s' else some (.exc 1 [.str x] s') := by
  rw [go_at (t := f3) rfl rfl]
  cases h : placeB x with
  | false => exact ⟨[], by simp [f3, b3, c_is_place hx, h, rseK_ok]⟩
  | true =>
    refine ⟨[.lst ((partsOf x).map .str), .lst (((partsOf x).map .str).take (((partsOf x).map D.str).length - 1))], ?_⟩
    simp [f3, b3, c_is_place hx, h, met_split hx, slF, biF, ixF, at_m1 parts_ne, new, cut_m1, seatV]
end K91
end
section
set_option Elab.async false
set_option linter.all false
set_option maxRecDepth 100000
set_option autoImplicit false
namespace K91
open PySem Ev
/-! ### the law's own parts -/
abbrev partT1 : Ss := .cons (.ite (.cmp .eq (.var 2) (.cst (.str [46]))) (.cons (.exp (.met .append (.var 1) (.cons (.cst (.str [])) .nil))) .nil) (.cons (.put (.var 1) (.bin .sub (.bi .len (.cons (.var 1) .nil)) (.cst (.int 1))) (.bin .add (.ix (.var 1) (.bin .sub (.bi .len (.cons (.var 1) .nil)) (.cst (.int 1)))) (.var 2))) .nil)) .nil
theorem at_last_nat {done : List Txt} {acc : Txt} : at? (done.map D.str ++ [D.str acc]) (done.length : Int) = some (.str acc) := by
  rw [at_nat]
  simp
theorem atI_last {n : Nat} : at! (n + 1) (n : Int) = some n := by
  unfold at!
  rw [if_pos (by omega), if_pos (by omega)]
  simp
theorem cp_one {c : Nat} (h : c < 1114112) : cpB [c] = true := by simp [cpB, h]
theorem part_turn {cf : CF} {c : Nat} {done : List Txt} {acc : Txt} {v : D} {o : Option D} (hc : c < 1114112) (hn : done.length ≤ 1000) (ha : acc.length ≤ 1000) :
    turn tab.cds cf hotL tab.sub (.nm 2) partT1 (.str [c]) [some v, some (.ref 0), o] [.lst (done.map .str ++ [.str acc])] =
      ok (.nx [some v, some (.ref 0), some (.str [c])]) [.lst (if c = 46 then (done ++ [acc]).map .str ++ [.str []] else done.map .str ++ [.str (acc ++ [c])])] := by
  have h1 : small (done.map D.str ++ [D.str acc]).length = true := small_le (m := 1001) (by simp; omega) (by decide)
  have h2 : small (acc.length + 1) = true := small_le (m := 1001) (by omega) (by decide)
  by_cases h : c = 46
  · subst h
    simp only [List.length_append, List.length_map, List.length_cons, List.length_nil] at h1
    simp [eq_str (cp_one hc) (by decide : cpB [46] = true), metK_t, recv, metF, h1]
  · have e1 := at_last_nat (done := done) (acc := acc)
    simp [eq_str (cp_one hc) (by decide : cpB [46] = true), h, biF, binF, ixF, e1, h2, putK3, putF, atI_last]
theorem part_loop {cf : CF} {v : D} : ∀ (r : Txt) (done : List Txt) (acc : Txt) (o : Option D), cpB r = true → done.length + r.length ≤ 1000 → acc.length + r.length ≤ 1000 → ∃ o', loopL (turn tab.cds cf hotL tab.sub (.nm 2) partT1) (r.map fun c => .str [c]) [some v, some (.ref 0), o] [.lst (done.map .str ++ [.str acc])] =
    ok (.nx [some v, some (.ref 0), o']) [.lst ((done ++ splitT 46 acc r).map .str)]
  | [], done, acc, o, _, _, _ => ⟨o, by simp [loopL, splitT]⟩
  | c :: r, done, acc, o, h, h1, h2 => by
    simp only [cpB, List.all_cons, Bool.and_eq_true, decide_eq_true_eq] at h
    simp only [List.length_cons] at h1 h2
    rw [List.map_cons, loopL, part_turn h.1 (by omega) (by omega), bind_okS, nextL]
    by_cases hc : c = 46
    · obtain ⟨o', e⟩ := part_loop (cf := cf) (v := v) r (done ++ [acc]) [] (some (.str [c])) h.2 (by simp; omega) (by simp; omega)
      refine ⟨o', ?_⟩
      rw [if_pos hc, e]
      simp [splitT, hc]
    · obtain ⟨o', e⟩ := part_loop (cf := cf) (v := v) r done (acc ++ [c]) (some (.str [c])) h.2 (by omega) (by simp; omega)
      refine ⟨o', ?_⟩
      rw [if_neg hc, e]
      simp [splitT, hc]
/-- a word: short, of signs that there are -/
def wd (x : Txt) : Bool := cpB x && decide (x.length ≤ 100)
theorem wd_cp {x : Txt} (h : wd x = true) : cpB x = true := (Bool.and_eq_true_iff.mp h).1
theorem wd_len {x : Txt} (h : wd x = true) : x.length ≤ 100 := of_decide_eq_true (Bool.and_eq_true_iff.mp h).2
theorem wd_small {x : Txt} (h : wd x = true) : small x.length = true := small_le (wd_len h) (by decide)
theorem law_parts {d : Nat} {x : Txt} (h : wd x = true) : go (d + 1) 101 [.str x] [] = ok (.ref 0) [.lst ((partsOf x).map .str)] := by
  rw [go_at (t := f101) rfl rfl]
  have hl := wd_len h
  obtain ⟨o', e⟩ := part_loop (cf := go d) (v := .str x) x [] [] none (wd_cp h) (by simp; omega) (by simp; omega)
  simp only [List.map_nil, List.nil_append] at e
  simp [f101, b101, e, partsOf]
theorem c_law_parts {d : Nat} {x : Txt} {s : Sto} (h : wd x = true) : callF (go (d + 1)) 101 [.str x] s = ok (.ref s.length) (s ++ [.lst ((partsOf x).map .str)]) := by
  rw [call_pureS rfl (law_parts h) rfl]
  have e : shL s.length ((partsOf x).map D.str) = (partsOf x).map D.str := by
    generalize partsOf x = l
    induction l with
    | nil => rfl
    | cons y l ih => simp [shL, D.sh, ih]
  simp [D.sh, Ob.sh, e]
theorem filt_none {ps : List Txt} : (ps.map D.str).filterMap (fun y => if nameB (strOf y) then none else some y) = (ps.filter fun p => !nameB p).map .str := by
  induction ps with
  | nil => rfl
  | cons p ps ih =>
    rw [List.map_cons, List.filterMap_cons, List.filter_cons, show strOf (D.str p) = p from rfl]
    cases h : nameB p with
    | true => exact ih
    | false => exact congrArg (D.str p :: ·) ih
theorem law_is_place {d : Nat} {x : Txt} (h : wd x = true) : ∃ s', go (d + 2) 102 [.str x] [] = ok (.bl (placeB x)) s' := by
  rw [go_at (t := f102) rfl rfl]
  unfold placeB
  have hn := (split_len (r := x) (acc := [])).2.2
  have hl := wd_len h
  by_cases h4 : (partsOf x).length ≤ 4
  · have h4' : ¬ ((4 : Int) < (partsOf x).length) := by omega
    have q := compK_lst (g := compG tab.cds (go (d + 1)) (.var 2) (.nm 2) (.some (.not (.call 100 (.cons (.var 2) .nil)))) [2] [some (.str x), some (.ref 0), none]) (f := fun y => if nameB (strOf y) then none else some y) (a := 0) (xs := (partsOf x).map .str) (s := [.lst ((partsOf x).map .str)]) rfl (fun y hy => by
      obtain ⟨p, hp, rfl⟩ := List.mem_map.mp hy
      have hs := parts_small (wd_small h) p hp
      rw [compG_c]
      cases hq : nameB p <;> simp [wipeE, c_law_is_name hs, hq, strOf]) (by simp; omega)
    rw [filt_none] at q
    have e0 := e_comp (cds := tab.cds) (cf := go (d + 1)) (e := .var 2) (t := .nm 2) (src := .seq (.var 1)) (cond := .some (.not (.call 100 (.cons (.var 2) .nil)))) (own := [2]) (env := [some (.str x), some (.ref 0), none]) (s := [.lst ((partsOf x).map .str)]) (dictOf_lst (a := 0) rfl rfl)
    simp only [i_seq, e_var, List.getElem?_cons_succ, List.getElem?_cons_zero, varK_some, bind_okS, seqK_ref (a := 0) (xs := (partsOf x).map .str) (s := [.lst ((partsOf x).map .str)]) rfl, q] at e0
    have e1 : ((((partsOf x).filter fun p => !nameB p).length : Int) == 0) = (partsOf x).all nameB := by
      generalize partsOf x = l
      induction l with
      | nil => rfl
      | cons p l ih =>
        rw [List.filter_cons, List.all_cons]
        cases hq : nameB p with
        | true => simpa using ih
        | false => simp; omega
    refine ⟨[.lst ((partsOf x).map .str), .lst (((partsOf x).filter fun p => !nameB p).map .str)], ?_⟩
    generalize (partsOf x).filter (fun p => !nameB p) = FL at e0 e1 ⊢
    generalize (partsOf x).all nameB = A at e1 ⊢
    simp [f102, b102, c_law_parts h, biF, h4', h4, e0, e1]
  · have h4' : (4 : Int) < (partsOf x).length := by omega
    refine ⟨[.lst ((partsOf x).map .str)], ?_⟩
    simp [f102, b102, c_law_parts h, biF, h4', h4]
theorem c_law_is_place {d : Nat} {x : Txt} {s : Sto} (h : wd x = true) : callF (go (d + 2)) 102 [.str x] s = ok (.bl (placeB x)) s := by
  obtain ⟨s', e⟩ := law_is_place (d := d) h
  exact call_pure rfl e rfl
theorem join_place_str {d : Nat} {x y : Txt} {s : Sto} (hx : x.length ≤ 100) (hy : y.length ≤ 100) : go (d + 1) 4 [.str x, .str y] s = ok (.str (x ++ [46] ++ y)) s := by
  rw [go_at (t := f4) rfl rfl]
  have h1 : small (x.length + 1) = true := small_le (m := 101) (by omega) (by decide)
  have h2 : small (x.length + 1 + y.length) = true := small_le (m := 201) (by omega) (by decide)
  simp [f4, b4, binF, h1, h2]
end K91
end
section
set_option Elab.async false
set_option linter.all false
set_option maxRecDepth 100000
set_option autoImplicit false
namespace K91
open PySem Ev
/-! ### the first that stands twice -/
def fdR : List Txt → List Txt → Option Txt
  | _, [] => none
  | seen, x :: xs => if x ∈ seen then some x else fdR (seen ++ [x]) xs
def dOf : Option Txt → D
  | none => .non
  | some x => .str x
def mkD (seen : List Txt) : List (K1 × D) := seen.map fun x => (.inr x, .bl true)
theorem look_mk {x : Txt} {seen : List Txt} : (look (mkD seen) (.inr x)).isSome = decide (x ∈ seen) := by
  unfold look mkD
  induction seen with
  | nil => rfl
  | cons y r ih =>
    rw [List.map_cons, List.find?_cons]
    by_cases h : y = x
    · subst h; simp
    · have h1 : decide ((Sum.inr y : K1) = Sum.inr x) = false := by simp [h]
      have h2 : ¬ x = y := fun e => h e.symm
      simp only [h1]
      rw [ih]
      simp [h2]
theorem put_mk {x : Txt} {seen : List Txt} (h : x ∉ seen) : put (mkD seen) (.inr x) (.bl true) = mkD (seen ++ [x]) := by
  unfold put
  rw [if_neg]
  · simp [mkD]
  · intro e
    obtain ⟨p, hp, hq⟩ := List.any_eq_true.mp e
    obtain ⟨y, hy, rfl⟩ := List.mem_map.mp hp
    have := of_decide_eq_true hq
    cases this
    exact h hy
abbrev fdT : Ss := .cons (.ite (.cmp .isin (.var 2) (.var 1)) (.cons (.ret (.var 2)) .nil) .nil) (.cons (.put (.var 1) (.var 2) (.cst (.bl true))) .nil)
theorem fd_turn {cf : CF} {x : Txt} {seen : List Txt} {v : D} {o : Option D} {s : Sto} (hn : seen.length ≤ 1000) :
    turn tab.cds cf hotL tab.sub (.nm 2) fdT (.str x) [some v, some (.ref s.length), o] (s ++ [.dK (mkD seen)]) =
      if x ∈ seen then ok (.rt (.str x)) (s ++ [.dK (mkD seen)]) else ok (.nx [some v, some (.ref s.length), some (.str x)]) (s ++ [.dK (mkD (seen ++ [x]))]) := by
  have h1 : inF tab.cds (.str x) (.ref s.length) (s ++ [.dK (mkD seen)]) = some (decide (x ∈ seen)) := by
    simp [inF, dget, key1, look_mk]
  have h2 : small (mkD seen).length = true := small_le (m := 1000) (by simp [mkD]; omega) (by decide)
  by_cases h : x ∈ seen
  · simp [h1, h]
  · simp [h1, h, putK3, putF, dput, h2, key1, put_mk h]
theorem fd_loop {cf : CF} {v : D} {s : Sto} : ∀ (xs seen : List Txt) (o : Option D), seen.length + xs.length ≤ 1000 → ∃ o' K', loopL (turn tab.cds cf hotL tab.sub (.nm 2) fdT) (xs.map .str) [some v, some (.ref s.length), o] (s ++ [.dK (mkD seen)]) =
    match fdR seen xs with
    | some y => ok (.rt (.str y)) (s ++ [.dK K'])
    | none => ok (.nx [some v, some (.ref s.length), o']) (s ++ [.dK K'])
  | [], seen, o, _ => ⟨o, mkD seen, rfl⟩
  | x :: xs, seen, o, h => by
    simp only [List.length_cons] at h
    rw [List.map_cons, loopL, fd_turn (by omega)]
    unfold fdR
    by_cases hx : x ∈ seen
    · exact ⟨o, mkD seen, by simp [hx, nextL]⟩
    · obtain ⟨o', K', e⟩ := fd_loop (cf := cf) (v := v) (s := s) xs (seen ++ [x]) (some (.str x)) (by simp; omega)
      refine ⟨o', K', ?_⟩
      rw [if_neg hx, if_neg hx, bind_okS, nextL, e]
theorem app_get {s t : Sto} {a : Nat} {o : Ob} (h : s[a]? = some o) : (s ++ t)[a]? = some o := by
  rw [List.getElem?_append_left (List.getElem?_eq_some_iff.mp h).1]
  exact h
theorem fd_end {d : Nat} {v : D} {ws : List Txt} {s : Sto} {r : O Fl} {o' : Option D} {K' : List (K1 × D)} (e : r = match fdR [] ws with
    | some y => ok (.rt (.str y)) (s ++ [.dK K'])
    | none => ok (.nx [some v, some (.ref s.length), o']) (s ++ [.dK K'])) :
    fin (r.bind (seqS tab.cds (go d) hotL tab.sub (.cons (.ret (.cst .non)) .nil))) = ok (dOf (fdR [] ws)) (s ++ [.dK K']) := by
  subst e
  cases fdR [] ws with
  | none => simp [dOf]
  | some y => simp [dOf]
theorem first_dup_list {d a : Nat} {ws : List Txt} {s : Sto} (hs : s[a]? = some (.lst (ws.map .str))) (hn : ws.length ≤ 1000) : ∃ K', go (d + 1) 5 [.ref a] s = ok (dOf (fdR [] ws)) (s ++ [.dK K']) := by
  rw [go_at (t := f5) rfl rfl]
  obtain ⟨o', K', e⟩ := fd_loop (cf := go d) (v := .ref a) (s := s) ws [] none (by simpa using hn)
  have q := forK_lst (cds := tab.cds) (cf := go d) (hot := hotL) (sub := tab.sub) (t := .nm 2) (b := fdT) (env := [some (.ref a), some (.ref s.length), none]) (s := s ++ [.dK (mkD [])]) (a := a) (xs := ws.map .str)
    (fun i env s' => ∃ seen o, env = [some (.ref a), some (.ref s.length), o] ∧ s' = s ++ [.dK (mkD seen)] ∧ seen.length ≤ i) ⟨[], none, rfl, rfl, Nat.le_refl _⟩ (fun i env s' ⟨seen, o, _, h, _⟩ => by rw [h]; exact app_get hs)
    (fun i x env s' hx ⟨seen, o, h1, h2, h3⟩ f s2 ht => by
      subst h1 h2
      rw [List.getElem?_map] at hx
      obtain ⟨w, hw, rfl⟩ := Option.map_eq_some_iff.mp hx
      have hi := (List.getElem?_eq_some_iff.mp hw).1
      rw [fd_turn (by omega)] at ht
      split at ht
      · cases ht
        exact ⟨fun e h => (by cases h), fun e h => (by cases h)⟩
      · cases ht
        exact ⟨fun e h => (by cases h; exact ⟨seen ++ [w], _, rfl, rfl, by simp; omega⟩), fun e h => (by cases h)⟩)
  have e2 := fd_end (d := d) e
  refine ⟨K', ?_⟩
  rw [← e2, ← q]
  simp [f5, b5, seqK_ref (app_get (t := [.dK []]) hs)]
  rfl
theorem first_dup_tup {d : Nat} {ws : List Txt} {s : Sto} (hn : ws.length ≤ 1000) : ∃ K', go (d + 1) 5 [.tup (ws.map .str)] s = ok (dOf (fdR [] ws)) (s ++ [.dK K']) := by
  rw [go_at (t := f5) rfl rfl]
  obtain ⟨o', K', e⟩ := fd_loop (cf := go d) (v := .tup (ws.map .str)) (s := s) ws [] none (by simpa using hn)
  have e2 := fd_end (d := d) e
  refine ⟨K', ?_⟩
  rw [← e2]
  simp [f5, b5]
  rfl
theorem pure_strs {ws : List Txt} : pureL (ws.map D.str) = true := by
  induction ws with
  | nil => rfl
  | cons w ws ih => simp [pureL, D.pure, ih]
theorem dOf_pure {t : Option Txt} : (dOf t).pure = true := by cases t <;> rfl
theorem c_first_dup_tup {d : Nat} {ws : List Txt} {s : Sto} (hn : ws.length ≤ 1000) : callF (go (d + 1)) 5 [.tup (ws.map .str)] s = ok (dOf (fdR [] ws)) s := by
  obtain ⟨K', e⟩ := first_dup_tup (d := d) (s := []) hn
  exact call_pure (by simp [pureL, D.pure, pure_strs]) e dOf_pure
theorem c_first_dup_list {d a : Nat} {ws : List Txt} {s : Sto} (hs : s[a]? = some (.lst (ws.map .str))) (hn : ws.length ≤ 1000) : ∃ t, callF (go (d + 1)) 5 [.ref a] s = ok (dOf (fdR [] ws)) (s ++ t) := by
  obtain ⟨K', e⟩ := first_dup_list (d := d) hs hn
  exact ⟨_, by rw [call_ref rfl, e]⟩
/-! ### what is told of a word -/
theorem sub11 : tab.sub 1 1 = some true := by decide +kernel
theorem sub31 : tab.sub 3 1 = some false := by decide +kernel
theorem sub33 : tab.sub 3 3 = some true := by decide +kernel
abbrev tTold : Txt := [116, 111, 108, 100]
abbrev tName : Txt := [110, 97, 109, 101]
abbrev tFrac : Txt := [102, 114, 97, 99, 116, 105, 111, 110]
abbrev toldH : Hs := .cons 1 (.ret (.tup (.cons (.cst (.str tName)) (.cons (.fld 0) .nil)))) (.cons 3 (.ret (.tup (.cons (.cst (.str tFrac)) (.cons (.fld 0) .nil)))) .nil)
theorem hand_name {v : D} {s : Sto} : evH hotL tab.sub toldH 1 [v] s = ok (.rt (.tup [.str tName, v])) s := by
  simp only [evH, sub11]
  rfl
theorem hand_frac {v : D} {s : Sto} : evH hotL tab.sub toldH 3 [v] s = ok (.rt (.tup [.str tFrac, v])) s := by
  simp only [evH, sub31, sub33]
  rfl
theorem told_name {d : Nat} {x : Txt} (h : wd x = true) : ∃ s', go (d + 3) 103 [.str x, .int 0] [] = ok (.tup [.str (if nameB x then tTold else tName), .str x]) s' := by
  rw [go_at (t := f103) rfl rfl]
  refine ⟨[], ?_⟩
  have e := check_name_str (d := d) (s := []) (wd_small h)
  cases hq : nameB x with
  | true =>
    rw [hq, if_pos rfl] at e
    have e2 : ∀ s : Sto, callF (go (d + 2)) 1 [.str x] s = ok (.str x) s := fun s => call_pure rfl e rfl
    simp [f103, b103, e2]
  | false =>
    rw [hq, if_neg Bool.false_ne_true] at e
    have e2 : ∀ s : Sto, callF (go (d + 2)) 1 [.str x] s = some (.exc 1 [.str x] s) := fun s => call_exc rfl e rfl
    simp [f103, b103, e2]
    rw [hand_name]
    simp
theorem split_cp : ∀ {r acc : Txt}, cpB acc = true → cpB r = true → ∀ p ∈ splitT 46 acc r, cpB p = true
  | [], acc, ha, _, p, hp => by
    simp [splitT] at hp
    rw [hp]
    exact ha
  | c :: r, acc, ha, hr, p, hp => by
    simp only [cpB, List.all_cons, Bool.and_eq_true, decide_eq_true_eq] at hr
    unfold splitT at hp
    by_cases h : c = 46
    · rw [if_pos h] at hp
      rcases List.mem_cons.mp hp with e | hp
      · rw [e]; exact ha
      · exact split_cp rfl hr.2 p hp
    · rw [if_neg h] at hp
      refine split_cp ?_ hr.2 p hp
      unfold cpB at ha ⊢
      rw [List.all_append, ha]
      simp [hr.1]
theorem good_strs {ws : List Txt} (h : ∀ w ∈ ws, cpB w = true) : goodL (ws.map D.str) = true := by
  induction ws with
  | nil => rfl
  | cons w ws ih =>
    simp only [List.map_cons, goodL, good, h w (List.mem_cons_self ..), ih fun y hy => h y (List.mem_cons_of_mem _ hy), Bool.and_self]
theorem good_take : ∀ {l : List D} {n : Nat}, goodL l = true → goodL (l.take n) = true
  | [], n, _ => by rw [List.take_nil]; rfl
  | x :: l, 0, _ => rfl
  | x :: l, n + 1, h => by
    simp only [goodL, Bool.and_eq_true] at h
    simp only [List.take_succ_cons, goodL, h.1, good_take h.2, Bool.and_self]
theorem good_last : ∀ {l : List D}, goodL l = true → l ≠ [] → good (lastD l) = true
  | [x], h, _ => by simp only [goodL, Bool.and_eq_true] at h; exact h.1
  | x :: y :: r, h, _ => by
    simp only [goodL, Bool.and_eq_true] at h
    exact good_last (l := y :: r) (by simp only [goodL, h.2, Bool.and_self]) (by simp)
theorem dp_strs {ws : List Txt} : dpL (ws.map D.str) = 0 := by
  induction ws with
  | nil => rfl
  | cons w ws ih => simp [dpL, dp, ih]
theorem dp_take : ∀ {l : List D} {n : Nat}, dpL (l.take n) ≤ dpL l
  | [], n => by simp
  | x :: l, 0 => by simp [dpL]
  | x :: l, n + 1 => by
    simp only [List.take_succ_cons, dpL]
    have := dp_take (l := l) (n := n)
    omega
theorem dp_last : ∀ {l : List D}, dp (lastD l) ≤ dpL l
  | [] => by simp [lastD, dp]
  | [x] => by simp [lastD, dpL]
  | x :: y :: r => by
    have := dp_last (l := y :: r)
    simp only [lastD, dpL] at this ⊢
    omega
theorem seat_good {x : Txt} (h : wd x = true) : good (seatV x) = true := by
  have g : goodL ((partsOf x).map D.str) = true := good_strs (split_cp rfl (wd_cp h))
  have hn := (split_len (r := x) (acc := [])).2.2
  have hl := wd_len h
  have hn : (partsOf x).length ≤ x.length + 1 := hn
  simp only [seatV, good, goodL, good_take g, good_last g parts_ne, Bool.and_true, List.length_take, List.length_map]
  simp
  omega
theorem seat_dp {x : Txt} : dp (seatV x) ≤ 2 := by
  have h1 := dp_take (l := (partsOf x).map D.str) (n := ((partsOf x).map D.str).length - 1)
  have h2 := dp_last (l := (partsOf x).map D.str)
  rw [dp_strs] at h1 h2
  simp only [seatV, dp, dpL]
  omega
theorem seat_pure {x : Txt} (h : wd x = true) : (seatV x).pure = true := good_pure _ (seat_good h)
theorem told_place {d : Nat} {x : Txt} (h : wd x = true) : ∃ s', go (d + 4) 103 [.str x, .int 1] [] = ok (if placeB x then .tup [.str tTold, seatV x] else .tup [.str tName, .str x]) s' := by
  rw [go_at (t := f103) rfl rfl]
  refine ⟨[], ?_⟩
  obtain ⟨s', e⟩ := place_parts_str (d := d) (wd_small h)
  cases hq : placeB x with
  | true =>
    rw [hq, if_pos rfl] at e
    have e2 : ∀ s : Sto, callF (go (d + 3)) 3 [.str x] s = ok (seatV x) s := fun s => call_pure rfl e (seat_pure h)
    simp [f103, b103, e2]
  | false =>
    rw [hq, if_neg Bool.false_ne_true] at e
    have e2 : ∀ s : Sto, callF (go (d + 3)) 3 [.str x] s = some (.exc 1 [.str x] s) := fun s => call_exc rfl e rfl
    simp [f103, b103, e2]
    rw [hand_name]
    simp
/-! ### words -/
abbrev wordsB : Ss := match b104 with
  | .cons (.for _ _ b) _ => b
  | _ => .nil
theorem words_turn {d a : Nat} {w : Txt} {o1 o5 o6 : Option D} {s : Sto} (h : wd w = true) : ∃ e1 e5 e6 t, turn tab.cds (go (d + 4)) hotL tab.sub (.nm 1) wordsB (.str w) [some (.ref a), o1, none, none, none, o5, o6] s = ok (.nx [some (.ref a), e1, none, none, none, e5, e6]) (s ++ t) := by
  have hw := wd_small h
  have hl := wd_len h
  have same_b : ∀ (b : Bool) (s : Sto), callF (go (d + 4)) 98 [.bl b, .bl b] s = ok (.bl true) s := fun b s => c_same rfl (by simp [dp])
  have t0 : ∀ s : Sto, callF (go (d + 4)) 103 [.str w, .int 0] s = ok (.tup [.str (if nameB w then tTold else tName), .str w]) s := fun s => by
    obtain ⟨s', e⟩ := told_name (d := d + 1) h
    exact call_pure rfl e rfl
  have t1 : ∀ s : Sto, callF (go (d + 4)) 103 [.str w, .int 1] s = ok (if placeB w then .tup [.str tTold, seatV w] else .tup [.str tName, .str w]) s := fun s => by
    obtain ⟨s', e⟩ := told_place (d := d) h
    refine call_pure rfl e ?_
    cases placeB w with
    | true => simp [D.pure, pureL, seat_pure h]
    | false => rfl
  have same_t : ∀ (x : Txt) (s : Sto), cpB x = true → callF (go (d + 4)) 98 [.tup [.str x, .str w], .tup [.str x, .str w]] s = ok (.bl true) s := fun x s hx => c_same (by simp [good, goodL, hx, wd_cp h]) (by simp [dp, dpL])
  have same_p : ∀ (s : Sto), callF (go (d + 4)) 98 [.tup [.str tTold, seatV w], .tup [.str tTold, seatV w]] s = ok (.bl true) s := fun s => c_same (by simp [good, goodL, seat_good h, (by decide : cpB tTold = true)]) (by have := seat_dp (x := w); simp [dp, dpL]; omega)
  have j : ∀ s : Sto, callF (go (d + 4)) 4 [.str [115, 49], .str w] s = ok (.str (115 :: 49 :: 46 :: w)) s := fun s => call_pure rfl (join_place_str (by decide) hl) rfl
  have hcp : cpB (115 :: 49 :: 46 :: w) = true := by have := wd_cp h; simp only [cpB] at this ⊢; simp [this]
  have same_j : ∀ s : Sto, callF (go (d + 4)) 98 [.str (115 :: 49 :: 46 :: w), .str (115 :: 49 :: 46 :: w)] s = ok (.bl true) s := fun s => c_same (by simp [good, hcp]) (by simp [dp])
  have sm : small (w.length + 1 + 1 + 1) = true := small_le (m := 103) (by omega) (by decide)
  have sm2 : small (3 + w.length) = true := small_le (m := 103) (by omega) (by decide)
  have pn := parts_ne (x := w)
  have sl : ∀ s : Sto, slF (.ref s.length) none (some (-1)) (s ++ [.lst ((partsOf w).map .str)]) = some (.ref (s.length + 1), s ++ [.lst ((partsOf w).map .str), .lst (((partsOf w).map .str).take ((partsOf w).length - 1))]) := fun s => by
    simp [slF, new, cut_m1]
  have bt : ∀ s : Sto, biF .tuple [.ref (s.length + 1)] (s ++ [.lst ((partsOf w).map .str), .lst (((partsOf w).map .str).take ((partsOf w).length - 1))]) = some (.tup (((partsOf w).map .str).take ((partsOf w).length - 1)), s ++ [.lst ((partsOf w).map .str), .lst (((partsOf w).map .str).take ((partsOf w).length - 1))]) := fun s => zi_tupl (by simp)
  have bl : ∀ s : Sto, biF .len [.ref s.length] (s ++ [.lst ((partsOf w).map .str), .lst (((partsOf w).map .str).take ((partsOf w).length - 1))]) = some (.int (partsOf w).length, s ++ [.lst ((partsOf w).map .str), .lst (((partsOf w).map .str).take ((partsOf w).length - 1))]) := fun s => by
    rw [zi_lenl (xs := (partsOf w).map .str) (by simp)]
    simp
  have ixl : ∀ s : Sto, ixF tab.cds (.ref s.length) (.int ((partsOf w).length - 1)) (s ++ [.lst ((partsOf w).map .str), .lst (((partsOf w).map .str).take ((partsOf w).length - 1))]) = some (lastD ((partsOf w).map .str)) := fun s => by
    have e := at_len pn
    simp only [List.length_map] at e
    simp [ixF, e]
  have same_p2 : ∀ s : Sto, callF (go (d + 4)) 98 [.tup [.str tTold, seatV w], .tup [.str tTold, .tup [.tup (((partsOf w).map .str).take ((partsOf w).length - 1)), lastD ((partsOf w).map .str)]]] s = ok (.bl true) s := fun s => by
    have e := same_p s
    simp only [seatV, List.length_map] at e ⊢
    exact e
  cases hq : nameB w <;> cases hp : placeB w
  · refine ⟨some (.str w), some (.tup [.str tName, .str w]), o6, [], ?_⟩
    simp [wordsB, b104, c_is_name hw, c_law_is_name hw, c_is_place hw, c_law_is_place h, same_b, t0, t1, hq, hp, same_t _ _ (by decide : cpB tName = true)]
  · refine ⟨some (.str w), some (.tup [.str tTold, seatV w]), some (.ref s.length), [.lst ((partsOf w).map .str), .lst (((partsOf w).map .str).take ((partsOf w).length - 1))], ?_⟩
    simp [wordsB, b104, c_is_name hw, c_law_is_name hw, c_is_place hw, c_law_is_place h, same_b, t0, t1, hq, hp, same_t _ _ (by decide : cpB tName = true), c_law_parts h, sl, bt, bl, ixl, same_p2, j, binF, sm2, same_j]
    simp [seatV]
  · refine ⟨some (.str w), some (.tup [.str tName, .str w]), o6, [], ?_⟩
    simp [wordsB, b104, c_is_name hw, c_law_is_name hw, c_is_place hw, c_law_is_place h, same_b, t0, t1, hq, hp, same_t _ _ (by decide : cpB tName = true), same_t _ _ (by decide : cpB tTold = true)]
  · refine ⟨some (.str w), some (.tup [.str tTold, seatV w]), some (.ref s.length), [.lst ((partsOf w).map .str), .lst (((partsOf w).map .str).take ((partsOf w).length - 1))], ?_⟩
    simp [wordsB, b104, c_is_name hw, c_law_is_name hw, c_is_place hw, c_law_is_place h, same_b, t0, t1, hq, hp, same_t _ _ (by decide : cpB tTold = true), c_law_parts h, sl, bt, bl, ixl, same_p2, j, binF, sm2, same_j]
    simp [seatV]
end K91
end
section
set_option Elab.async false
set_option linter.all false
set_option maxRecDepth 100000
set_option autoImplicit false
namespace K91
open PySem Ev
theorem words_loop {d a : Nat} {ws : List Txt} {o1 o5 o6 : Option D} {s : Sto} (hs : s[a]? = some (.lst (ws.map .str))) (hw : ∀ w ∈ ws, wd w = true) :
    ∃ e1 e5 e6 t, forK tab.cds (go (d + 4)) hotL tab.sub (.nm 1) wordsB [some (.ref a), o1, none, none, none, o5, o6] (.lst a 0) s = ok (.nx [some (.ref a), e1, none, none, none, e5, e6]) (s ++ t) := by
  have q := forK_lst (cds := tab.cds) (cf := go (d + 4)) (hot := hotL) (sub := tab.sub) (t := .nm 1) (b := wordsB) (env := [some (.ref a), o1, none, none, none, o5, o6]) (s := s) (a := a) (xs := ws.map .str)
    (fun _ env s' => ∃ e1 e5 e6 t, env = [some (.ref a), e1, none, none, none, e5, e6] ∧ s' = s ++ t) ⟨o1, o5, o6, [], rfl, (List.append_nil s).symm⟩ (fun _ env s' ⟨_, _, _, t, _, h⟩ => by rw [h]; exact app_get hs)
    (fun i x env s' hx ⟨e1, e5, e6, t, h1, h2⟩ f s2 ht => by
      subst h1 h2
      obtain ⟨w, hm, rfl⟩ := List.mem_map.mp (List.mem_of_getElem? hx)
      obtain ⟨f1, f5, f6, t2, e⟩ := words_turn (d := d) (a := a) (o1 := e1) (o5 := e5) (o6 := e6) (s := s ++ t) (hw w hm)
      rw [e] at ht
      cases ht
      exact ⟨fun e h => (by cases h; exact ⟨f1, f5, f6, t ++ t2, rfl, by rw [List.append_assoc]⟩), fun e h => (by cases h)⟩)
  obtain ⟨env', s', h1, h2⟩ := loop_inv (g := turn tab.cds (go (d + 4)) hotL tab.sub (.nm 1) wordsB) (fun xs env s' => (∀ x ∈ xs, ∃ w, x = D.str w ∧ wd w = true) ∧ ∃ e1 e5 e6 t, env = [some (.ref a), e1, none, none, none, e5, e6] ∧ s' = s ++ t)
    (fun x xs env s' ⟨hx, e1, e5, e6, t, h1, h2⟩ => by
      subst h1 h2
      obtain ⟨w, rfl, hm⟩ := hx x (List.mem_cons_self ..)
      obtain ⟨f1, f5, f6, t2, e⟩ := words_turn (d := d) (a := a) (o1 := e1) (o5 := e5) (o6 := e6) (s := s ++ t) hm
      exact ⟨_, _, .inl e, fun y hy => hx y (List.mem_cons_of_mem _ hy), f1, f5, f6, t ++ t2, rfl, by rw [List.append_assoc]⟩)
    (xs := ws.map .str) (env := [some (.ref a), o1, none, none, none, o5, o6]) (s := s) ⟨fun x hx => by
      obtain ⟨w, hm, rfl⟩ := List.mem_map.mp hx
      exact ⟨w, rfl, hw w hm⟩, o1, o5, o6, [], rfl, (List.append_nil s).symm⟩
  obtain ⟨_, e1, e5, e6, t, h3, h4⟩ := h2
  exact ⟨e1, e5, e6, t, by rw [q, h1, h3, h4]⟩
/-! things that are no words -/
abbrev thingsB : Ss := match b104 with
  | .cons _ (.cons (.for _ _ b) _) => b
  | _ => .nil
theorem no_name {d : Nat} {v : D} {s : Sto} (h : isTy .str v s = some false) : go (d + 1) 0 [v] s = ok (.bl false) s := by
  rw [go_at (t := f0) rfl rfl]
  simp [f0, b0, h]
theorem no_place {d : Nat} {v : D} {s : Sto} (h : isTy .str v s = some false) : go (d + 1) 2 [v] s = ok (.bl false) s := by
  rw [go_at (t := f2) rfl rfl]
  simp [f2, b2, h]
theorem thing_turn {d : Nat} {v : D} {e0 e1 o : Option D} {e3 e4 e5 e6 : Option D} {s : Sto} (h : callF (go (d + 4)) 0 [v] s = ok (.bl false) s) (h2 : callF (go (d + 4)) 2 [v] s = ok (.bl false) s) :
    turn tab.cds (go (d + 4)) hotL tab.sub (.nm 2) thingsB v [e0, e1, o, e3, e4, e5, e6] s = ok (.nx [e0, e1, some v, e3, e4, e5, e6]) s := by
  simp [thingsB, b104, h, h2]
theorem things_loop {d a n : Nat} {e0 e1 o e3 e4 e5 e6 : Option D} {s : Sto} (hs : s[a]? = some (.lst [.non, .int 5, .bl true, .tup [.str [97]], .ref n])) (hn : s[n]? = some (.lst [.str [97]])) :
    ∃ o', forK tab.cds (go (d + 4)) hotL tab.sub (.nm 2) thingsB [e0, e1, o, e3, e4, e5, e6] (.lst a 0) s = ok (.nx [e0, e1, o', e3, e4, e5, e6]) s := by
  obtain ⟨o', e⟩ := forK_chk (cds := tab.cds) (cf := go (d + 4)) (hot := hotL) (sub := tab.sub) (t := .nm 2) (b := thingsB) (E := fun o => [e0, e1, o, e3, e4, e5, e6]) (p := fun _ => true) (bad := .non) (o := o) hs fun x hx o => by
    rw [if_pos rfl]
    simp only [List.mem_cons, List.not_mem_nil, or_false] at hx
    rcases hx with rfl | rfl | rfl | rfl | rfl
    · exact thing_turn (call_pure rfl (no_name rfl) rfl) (call_pure rfl (no_place rfl) rfl)
    · exact thing_turn (call_pure rfl (no_name rfl) rfl) (call_pure rfl (no_place rfl) rfl)
    · exact thing_turn (call_pure rfl (no_name rfl) rfl) (call_pure rfl (no_place rfl) rfl)
    · exact thing_turn (call_pure rfl (no_name rfl) rfl) (call_pure rfl (no_place rfl) rfl)
    · exact thing_turn (by rw [call_ref rfl]; exact no_name (zt_str_ref hn)) (by rw [call_ref rfl]; exact no_place (zt_str_ref hn))
  refine ⟨o', ?_⟩
  rw [e]
  simp
/-! what stands twice -/
def twF : Option Txt → List Txt → List Txt → Option Txt
  | t, _, [] => t
  | some y, seen, x :: xs => twF (some y) (seen ++ [x]) xs
  | none, seen, x :: xs => twF (if x ∈ seen then some x else none) (seen ++ [x]) xs
theorem tw_some {y : Txt} : ∀ {xs seen : List Txt}, twF (some y) seen xs = some y
  | [], _ => rfl
  | x :: xs, seen => by
    unfold twF
    exact tw_some
theorem tw_none : ∀ {xs seen : List Txt}, twF none seen xs = fdR seen xs
  | [], _ => rfl
  | x :: xs, seen => by
    unfold twF fdR
    by_cases h : x ∈ seen
    · rw [if_pos h, if_pos h, tw_some]
    · rw [if_neg h, if_neg h, tw_none]
abbrev twB : Ss := match b104 with
  | .cons _ (.cons _ (.cons _ (.cons (.for _ _ b) _))) => b
  | _ => .nil
theorem cut_k {xs : List D} {k : Nat} (h : k ≤ xs.length) : cut xs none (some (k : Int)) = xs.take k := by
  unfold cut Ev.bound
  simp only [List.drop_zero, Nat.sub_zero]
  rw [if_neg (by omega)]
  congr 1
  simp
  omega
theorem in_strs {x : Txt} {seen : List Txt} {s : Sto} {n : Nat} (h : s[n]? = some (.lst (seen.map .str))) : inF tab.cds (.str x) (.ref n) s = some (decide (x ∈ seen)) := by
  have h1 : (seen.map D.str).all D.flat = true := by
    induction seen with
    | nil => rfl
    | cons y r ih => simp [D.flat]
  have h2 : ((seen.map D.str).any fun y => feq y (.str x)) = decide (x ∈ seen) := by
    clear h h1
    induction seen with
    | nil => rfl
    | cons y r ih =>
      rw [List.map_cons, List.any_cons, ih]
      show (y == x || _) = _
      by_cases hq : y = x
      · simp [hq]
      · have : ¬ x = y := fun e => hq e.symm
        simp [hq, this]
  simp only [inF, h]
  rw [if_pos (by rw [h1]; rfl), h2]
theorem tw_loop {cf : CF} {a : Nat} {ws : List Txt} {e1 e2 e5 e6 : Option D} : ∀ (xs seen : List Txt) (T : Option Txt) (o : Option D) (s : Sto), ws = seen ++ xs → s[a]? = some (.lst (ws.map .str)) →
    ∃ o' t, loopL (turn tab.cds cf hotL tab.sub (.nm 4) twB) (upto seen.length xs.length) [some (.ref a), e1, e2, some (dOf T), o, e5, e6] s = ok (.nx [some (.ref a), e1, e2, some (dOf (twF T seen xs)), o', e5, e6]) (s ++ t)
  | [], seen, T, o, s, _, _ => ⟨o, [], by simp [upto, loopL, twF]⟩
  | x :: xs, seen, T, o, s, hw, hs => by
    have hx : (ws.map D.str)[seen.length]? = some (.str x) := by rw [hw]; simp
    have ix : ixF tab.cds (.ref a) (.int seen.length) s = some (.str x) := by simp only [ixF, hs, at_nat, hx]
    have sl : slF (.ref a) none (some (seen.length : Int)) s = some (.ref s.length, s ++ [.lst (seen.map .str)]) := by
      simp only [slF, hs, new]
      rw [cut_k (by rw [hw]; simp), hw]
      simp
    have hin : inF tab.cds (.str x) (.ref s.length) (s ++ [.lst (seen.map .str)]) = some (decide (x ∈ seen)) := in_strs (by simp)
    have ix2 : ixF tab.cds (.ref a) (.int seen.length) (s ++ [.lst (seen.map .str)]) = some (.str x) := by simp only [ixF, app_get hs, at_nat, hx]
    rw [List.length_cons, upto, loopL]
    have hlen : ((seen.length : Int) + 1) = ((seen ++ [x]).length : Nat) := by simp
    rw [hlen]
    cases T with
    | some y =>
      obtain ⟨o', t, e⟩ := tw_loop (cf := cf) (e1 := e1) (e2 := e2) (e5 := e5) (e6 := e6) xs (seen ++ [x]) (some y) (some (.int seen.length)) s (by rw [hw]; simp) hs
      refine ⟨o', t, ?_⟩
      have e0 : turn tab.cds cf hotL tab.sub (.nm 4) twB (.int seen.length) [some (.ref a), e1, e2, some (dOf (some y)), o, e5, e6] s = ok (.nx [some (.ref a), e1, e2, some (dOf (some y)), some (.int seen.length), e5, e6]) s := by
        simp [twB, b104, dOf]
      rw [e0, bind_okS, nextL, e]
      rfl
    | none =>
      by_cases hm : x ∈ seen
      · obtain ⟨o', t, e⟩ := tw_loop (cf := cf) (e1 := e1) (e2 := e2) (e5 := e5) (e6 := e6) xs (seen ++ [x]) (some x) (some (.int seen.length)) (s ++ [.lst (seen.map .str)]) (by rw [hw]; simp) (app_get hs)
        refine ⟨o', [.lst (seen.map .str)] ++ t, ?_⟩
        have e0 : turn tab.cds cf hotL tab.sub (.nm 4) twB (.int seen.length) [some (.ref a), e1, e2, some (dOf none), o, e5, e6] s = ok (.nx [some (.ref a), e1, e2, some (dOf (some x)), some (.int seen.length), e5, e6]) (s ++ [.lst (seen.map .str)]) := by
          simp [twB, b104, dOf, ix, sl, hin, hm, ix2]
        rw [e0, bind_okS, nextL, e, List.append_assoc]
        unfold twF
        rw [if_pos hm]
        cases xs <;> rfl
      · obtain ⟨o', t, e⟩ := tw_loop (cf := cf) (e1 := e1) (e2 := e2) (e5 := e5) (e6 := e6) xs (seen ++ [x]) none (some (.int seen.length)) (s ++ [.lst (seen.map .str)]) (by rw [hw]; simp) (app_get hs)
        refine ⟨o', [.lst (seen.map .str)] ++ t, ?_⟩
        have e0 : turn tab.cds cf hotL tab.sub (.nm 4) twB (.int seen.length) [some (.ref a), e1, e2, some (dOf none), o, e5, e6] s = ok (.nx [some (.ref a), e1, e2, some (dOf none), some (.int seen.length), e5, e6]) (s ++ [.lst (seen.map .str)]) := by
          simp [twB, b104, dOf, ix, sl, hin, hm]
        rw [e0, bind_okS, nextL, e, List.append_assoc]
        rw [show twF none seen (x :: xs) = twF (if x ∈ seen then some x else none) (seen ++ [x]) xs from rfl, if_neg hm]
/-- the law of words -/
theorem words_ok {d a : Nat} {ws : List Txt} {s : Sto} (hs : s[a]? = some (.lst (ws.map .str))) (hw : ∀ w ∈ ws, wd w = true) (hn : ws.length ≤ 100) : ∃ s', go (d + 5) 104 [.ref a] s = ok (.bl true) s' ∧ Pre s s' := by
  rw [go_at (t := f104) rfl rfl]
  obtain ⟨e1, e5, e6, t1, h1⟩ := words_loop (d := d) (o1 := none) (o5 := none) (o6 := none) hs hw
  obtain ⟨S1, hS1⟩ : ∃ S1, S1 = s ++ t1 := ⟨_, rfl⟩
  rw [← hS1] at h1
  have p1 : Pre s S1 := ⟨_, hS1⟩
  clear hS1
  obtain ⟨S2, hS2⟩ : ∃ S2, S2 = S1 ++ [.lst [.str [97]], .lst [.non, .int 5, .bl true, .tup [.str [97]], .ref S1.length]] := ⟨_, rfl⟩
  have p2 : Pre S1 S2 := ⟨_, hS2⟩
  have g1 : S2[S1.length]? = some (.lst [.str [97]]) := by rw [hS2]; simp
  have g2 : S2[S1.length + 1]? = some (.lst [.non, .int 5, .bl true, .tup [.str [97]], .ref S1.length]) := by rw [hS2]; simp
  obtain ⟨o2, h2⟩ := things_loop (d := d) (e0 := some (.ref a)) (e1 := e1) (o := none) (e3 := none) (e4 := none) (e5 := e5) (e6 := e6) g2 g1
  have p12 := p1.trans p2
  have hs2 := p12.get hs
  obtain ⟨o4, t4, h3⟩ := tw_loop (cf := go (d + 4)) (a := a) (ws := ws) (e1 := e1) (e2 := o2) (e5 := e5) (e6 := e6) ws [] none none S2 rfl hs2
  rw [tw_none] at h3
  obtain ⟨S3, hS3⟩ : ∃ S3, S3 = S2 ++ t4 := ⟨_, rfl⟩
  rw [← hS3] at h3
  have p3 : Pre S2 S3 := ⟨_, hS3⟩
  clear hS3
  have hs3 := p3.get hs2
  have same_d : ∀ s : Sto, callF (go (d + 4)) 98 [dOf (fdR [] ws), dOf (fdR [] ws)] s = ok (.bl true) s := fun s => by
    refine c_same ?_ ?_
    · cases hq : fdR [] ws with
      | none => rfl
      | some y =>
        have : ∀ (xs seen : List Txt), fdR seen xs = some y → y ∈ xs := by
          intro xs
          induction xs with
          | nil => intro seen h; cases h
          | cons x xs ih =>
            intro seen h
            unfold fdR at h
            split at h
            · cases h; exact List.mem_cons_self ..
            · exact List.mem_cons_of_mem _ (ih _ h)
        exact wd_cp (hw y (this _ _ hq))
    · cases fdR [] ws <;> simp [dOf, dp]
  obtain ⟨t5, h5⟩ := c_first_dup_list (d := d + 3) (a := a) (ws := ws) (s := S3) hs3 (by omega)
  refine ⟨S3 ++ t5, ?_, (p12.trans p3).trans Pre.app⟩
  have hs5 := (Pre.app (t := t5)).get hs3
  rw [show f104.body = b104 from rfl]
  unfold b104
  rw [show (List.map some [D.ref a] ++ List.replicate (f104.nl - f104.np) none : Ev.Env) = [some (.ref a), none, none, none, none, none, none] from rfl]
  rw [step (env' := [some (.ref a), e1, none, none, none, e5, e6]) (s' := S1) (by
    simp [seqK_ref hs]
    exact h1)]
  rw [step (env' := [some (.ref a), e1, o2, none, none, e5, e6]) (s' := S2) (by
    have e := seqK_ref g2
    rw [hS2] at e h2 ⊢
    simp [e]
    exact h2)]
  rw [step (env' := [some (.ref a), e1, o2, some .non, none, e5, e6]) (s' := S2) (by simp)]
  rw [step (env' := [some (.ref a), e1, o2, some (dOf (fdR [] ws)), o4, e5, e6]) (s' := S3) (by
    have e : rngK [.int (ws.length : Int)] S2 = ok (.rng 0 ws.length) S2 := rng_nat (by omega)
    simp [zi_lenl hs2, e]
    exact h3)]
  simp [h5, same_d, zi_tupl hs5, c_first_dup_tup (show ws.length ≤ 1000 by omega)]
end K91
end
section
set_option Elab.async false
set_option linter.all false
set_option maxRecDepth 100000
set_option autoImplicit false
namespace K91
open PySem Ev
/-! ### the drawn words -/
abbrev signsT : Txt := [97, 98, 99, 122, 48, 53, 57, 46, 97, 98, 46, 99, 65, 95, 32, 45]
theorem sign_at {i : Int} (h1 : 0 ≤ i) (h2 : i < 16) {s : Sto} : ∃ c, c < 1114112 ∧ ixF tab.cds (.str signsT) (.int i) s = some (.str [c]) := by
  obtain ⟨k, rfl⟩ := Int.eq_ofNat_of_zero_le h1
  have hk : k < signsT.length := by show k < 16; omega
  have e : at? signsT (k : Int) = some signsT[k] := by rw [at_nat, List.getElem?_eq_getElem hk]
  refine ⟨signsT[k], ?_, ?_⟩
  · have : ∀ c ∈ signsT, c < 1114112 := by decide
    exact this _ (List.getElem_mem hk)
  · simp only [ixF, e, Option.map_some]
    rw [if_pos (by decide)]
@[simp] theorem zb_mod {i j : Int} {s : Sto} (h : 0 < j) : binF .mod (.int i) (.int j) s = some (.int (i % j), s) := by simp only [binF, if_pos h]
theorem zb_div {i j : Int} {s : Sto} (h : 0 < j ∧ j < 1073741824) : binF .fdiv (.int i) (.int j) s = some (.int (i / j), s) := by simp only [binF, if_pos h]
abbrev wordT : Ss := match b99 with
  | .cons _ (.cons _ (.cons _ (.cons (.for _ _ b) _))) => b
  | _ => .nil
/-- drawn numbers -/
structure Nums (ns : List Int) : Prop where
  len : ns.length = 60
  rng : ∀ n ∈ ns, 0 ≤ n ∧ n < 1000
theorem Nums.at_ {ns : List Int} (h : Nums ns) {k : Nat} (hk : k < 60) : ∃ n, ns[k]? = some n ∧ 0 ≤ n ∧ n < 1000 := by
  have hl : k < ns.length := by rw [h.len]; exact hk
  exact ⟨ns[k], List.getElem?_eq_getElem hl, h.rng _ (List.getElem_mem hl)⟩
theorem Nums.ix {ns : List Int} (h : Nums ns) {a k : Nat} (hk : k < 60) {s : Sto} (hs : s[a]? = some (.lst (ns.map .int))) : ∃ n, 0 ≤ n ∧ n < 1000 ∧ ixF tab.cds (.ref a) (.int (k : Int)) s = some (.int n) := by
  obtain ⟨n, e, h1, h2⟩ := h.at_ hk
  refine ⟨n, h1, h2, ?_⟩
  simp only [ixF, hs, at_nat, List.getElem?_map, e, Option.map_some]
theorem word_turn {cf : CF} {a : Nat} {ns : List Int} {base k : Nat} {x : Txt} {e3 o5 o6 : Option D} {s : Sto} (h : Nums ns) (hs : s[a]? = some (.lst (ns.map .int))) (hk : base + 1 + k < 60) (hx : x.length ≤ 14) :
    ∃ c o, c < 1114112 ∧ turn tab.cds cf hotL tab.sub (.nm 5) wordT (.int k) [some (.ref a), some (.int base), some (.str signsT), e3, some (.str x), o5, o6] s = ok (.nx [some (.ref a), some (.int base), some (.str signsT), e3, some (.str (x ++ [c])), some (.int k), o]) s := by
  obtain ⟨n, n1, n2, e⟩ := h.ix hk hs
  have e' : ixF tab.cds (.ref a) (.int ((base : Int) + 1 + k)) s = some (.int n) := by
    have : ((base : Int) + 1 + k) = ((base + 1 + k : Nat) : Int) := by omega
    rw [this]
    exact e
  obtain ⟨c1, hc1, g1⟩ := sign_at (i := n % 10) (s := s) (by omega) (by omega)
  obtain ⟨c2, hc2, g2⟩ := sign_at (i := n % 16) (s := s) (by omega) (by omega)
  have sm : small (x.length + 1) = true := small_le (m := 15) (by omega) (by decide)
  cases hq : (n / 16 % 12 == 0) with
  | true =>
    refine ⟨c2, some (.str [c2]), hc2, ?_⟩
    simp [wordT, b99, e', zb_div, g1, hq, g2]
    simp [binF, sm]
  | false =>
    refine ⟨c1, some (.str [c1]), hc1, ?_⟩
    simp [wordT, b99, e', zb_div, g1, hq]
    simp [binF, sm]
theorem word_ok {d a base : Nat} {ns : List Int} {s : Sto} (h : Nums ns) (hs : s[a]? = some (.lst (ns.map .int))) (hb : base + 15 < 60) : ∃ x, wd x = true ∧ go (d + 1) 99 [.ref a, .int base] s = ok (.str x) s := by
  rw [go_at (t := f99) rfl rfl]
  obtain ⟨n, n1, n2, e⟩ := h.ix (k := base) (by omega) hs
  have hr : rngK [.int (n % 15)] s = ok (.rng 0 (n % 15).toNat) s := rngK_1 (by omega)
  obtain ⟨env', s', h1, h2⟩ := loop_inv (g := turn tab.cds (go d) hotL tab.sub (.nm 5) wordT) (fun xs env s' => s' = s ∧ (∀ y ∈ xs, ∃ k : Nat, k < 14 ∧ y = .int k) ∧ ∃ x o5 o6, cpB x = true ∧ x.length + xs.length ≤ 14 ∧ env = [some (.ref a), some (.int base), some (.str signsT), some (.int (n % 15)), some (.str x), o5, o6])
    (fun y xs env s' ⟨h1, h2, x, o5, o6, h3, h4, h5⟩ => by
      subst h1 h5
      obtain ⟨k, hk, rfl⟩ := h2 y (List.mem_cons_self ..)
      simp only [List.length_cons] at h4
      obtain ⟨c, o, hc, e⟩ := word_turn (cf := go d) (e3 := some (.int (n % 15))) (o5 := o5) (o6 := o6) (x := x) (k := k) (base := base) h hs (by omega) (by omega)
      refine ⟨_, _, .inl e, rfl, fun z hz => h2 z (List.mem_cons_of_mem _ hz), x ++ [c], _, _, ?_, by simp; omega, rfl⟩
      unfold cpB at h3 ⊢
      rw [List.all_append, h3]
      simp [hc])
    (xs := upto 0 (n % 15).toNat) (env := [some (.ref a), some (.int base), some (.str signsT), some (.int (n % 15)), some (.str []), none, none]) (s := s)
    ⟨rfl, fun y hy => by
      obtain ⟨k, hk, rfl⟩ := mem_upto hy
      exact ⟨k, by omega, by simp⟩, [], none, none, rfl, by rw [upto_length]; simp; omega, rfl⟩
  obtain ⟨rfl, _, x, o5, o6, h3, h4, rfl⟩ := h2
  simp only [List.length_nil, Nat.add_zero] at h4
  refine ⟨x, by unfold wd; rw [h3]; simp; omega, ?_⟩
  simp [f99, b99, e, hr]
  have h1' := h1
  simp [wordT, b99] at h1'
  rw [h1']
  simp
/-! ### the drawn numbers -/
def inR (f : List Int) : Prop := f.length ≤ 60 ∧ ∀ n ∈ f, 0 ≤ n ∧ n < 1000
theorem inR_app {f : List Int} {n : Int} (h : inR f) (hl : f.length < 60) (h1 : 0 ≤ n) (h2 : n < 1000) : inR (f ++ [n]) :=
  ⟨by simp; omega, fun m hm => by
    rcases List.mem_append.mp hm with hm | hm
    · exact h.2 m hm
    · simp only [List.mem_cons, List.not_mem_nil, or_false] at hm
      subst hm
      exact ⟨h1, h2⟩⟩
abbrev strB : Ss := match b97 with
  | .cons _ (.cons _ (.cons (.for _ _ b) _)) => b
  | _ => .nil
abbrev bigB : Ss := match strB with
  | .cons _ (.cons (.ite _ (.cons (.for _ _ b) _) _) _) => b
  | _ => .nil
abbrev endB : Ss := match b97 with
  | .cons _ (.cons _ (.cons _ (.cons (.for _ _ b) _))) => b
  | _ => .nil
/-- the store of the drawing: the found ones, the cells -/
abbrev stS (f : List Int) (cells : List D) : Sto := [.lst (f.map .int), .lst cells]
theorem app_found {cf : CF} {env : Ev.Env} {f : List Int} {cells : List D} {n : Int} (hl : f.length ≤ 60) {es : Es} (h : evEs tab.cds cf es env (stS f cells) = ok [.int n] (stS f cells)) : metK tab.cds cf .append es env (.ref 0) (stS f cells) = ok .non (stS (f ++ [n]) cells) := by
  have sm : small (f.map D.int).length = true := small_le (m := 60) (by simp; omega) (by decide)
  rw [metK_t rfl, h, bind_okS, metK2_eq]
  show pr (if small (f.map D.int).length = true then some (.non, _) else none) = _
  rw [if_pos sm]
  simp [stS]
theorem len_found {f : List Int} {cells : List D} : biF .len [.ref 0] (stS f cells) = some (.int f.length, stS f cells) := by
  rw [zi_lenl (xs := f.map .int) rfl]
  simp
theorem big_turn {cf : CF} {f : List Int} {cells : List D} {e0 e3 e4 o5 : Option D} {left : Int} {y : D} (h : inR f) :
    ∃ f' left', inR f' ∧ f.length ≤ f'.length ∧ turn tab.cds cf hotL tab.sub (.nm 5) bigB y [e0, some (.int 60), some (.ref 0), e3, e4, o5, some (.int left)] (stS f cells) = ok (.nx [e0, some (.int 60), some (.ref 0), e3, e4, some y, some (.int left')]) (stS f' cells) := by
  cases h1 : decide (0 < left) with
  | false => exact ⟨f, left, h, Nat.le_refl _, by simp [bigB, strB, b97, h1]⟩
  | true =>
    cases h2 : decide ((f.length : Int) < 60) with
    | false => exact ⟨f, left, h, Nat.le_refl _, by simp [bigB, strB, b97, h1, len_found, h2]⟩
    | true =>
      have hl := of_decide_eq_true h2
      refine ⟨f ++ [left % 1000], left / 1000, inR_app h (by omega) (by omega) (by omega), by simp, ?_⟩
      have ha := app_found (cf := cf) (env := [e0, some (.int 60), some (.ref 0), e3, e4, some y, some (.int left)]) (cells := cells) (n := left % 1000) (f := f) (by omega) (es := .cons (.bin .mod (.bi .int (.cons (.var 6) .nil)) (.cst (.int 1000))) .nil) (by simp)
      simp [bigB, strB, b97, h1, len_found, h2, ha, zb_div]
theorem zi_abs {i : Int} {s : Sto} : biF .abs [.int i] s = some (.int (if i < 0 then -i else i), s) := rfl
theorem pow18 {s : Sto} : binF .pow (.int 10) (.int 18) s = some (.int 1000000000000000000, s) := rfl
theorem zb_mulr {i j : Int} {s : Sto} (h : Nat.blt j.natAbs big = true) : binF .mul (.int i) (.int j) s = some (.int (i * j), s) := by simp only [binF, h, Bool.or_true, if_true]
abbrev seedE : S := match strB with
  | .cons _ (.cons _ (.cons e _)) => e
  | _ => .bad
theorem seed_step {cf : CF} {f : List Int} {cells : List D} {e0 o5 o6 : Option D} {seed i : Int} : evS tab.cds cf hotL tab.sub seedE [e0, some (.int 60), some (.ref 0), some (.int seed), some (.int i), o5, o6] (stS f cells) = ok (.nx [e0, some (.int 60), some (.ref 0), some (.int ((seed * 31 + i % 1000003 + 5) % 1000003)), some (.int i), o5, o6]) (stS f cells) := by
  simp [seedE, strB, b97, zb_mulr (show Nat.blt (31 : Int).natAbs big = true by decide)]
theorem big_loop {cf : CF} {f : List Int} {cells : List D} {e0 e3 e4 o5 : Option D} {left : Int} {xs : List D} (h : inR f) :
    ∃ f' left' o5', inR f' ∧ loopL (turn tab.cds cf hotL tab.sub (.nm 5) bigB) xs [e0, some (.int 60), some (.ref 0), e3, e4, o5, some (.int left)] (stS f cells) = ok (.nx [e0, some (.int 60), some (.ref 0), e3, e4, o5', some (.int left')]) (stS f' cells) := by
  obtain ⟨env', s', h1, f', left', o5', h2, h3, h4⟩ := loop_inv (g := turn tab.cds cf hotL tab.sub (.nm 5) bigB) (fun _ env s => ∃ f left o5, inR f ∧ env = [e0, some (.int 60), some (.ref 0), e3, e4, o5, some (.int left)] ∧ s = stS f cells)
    (fun x xs env s ⟨f, left, o5, h1, h2, h3⟩ => by
      subst h2 h3
      obtain ⟨f', left', k1, _, k2⟩ := big_turn (cf := cf) (cells := cells) (e0 := e0) (e3 := e3) (e4 := e4) (o5 := o5) (left := left) (y := x) h1
      exact ⟨_, _, .inl k2, f', left', some x, k1, rfl, rfl⟩)
    (xs := xs) (env := [e0, some (.int 60), some (.ref 0), e3, e4, o5, some (.int left)]) (s := stS f cells) ⟨f, left, o5, h, rfl, rfl⟩
  exact ⟨f', left', o5', h2, by rw [h1, h3, h4]⟩
theorem str_turn {cf : CF} {f : List Int} {cells : List D} {e0 o4 o5 o6 : Option D} {seed i : Int} (h : inR f) :
    ∃ f' seed' o5' o6', inR f' ∧ turn tab.cds cf hotL tab.sub (.nm 4) strB (.int i) [e0, some (.int 60), some (.ref 0), some (.int seed), o4, o5, o6] (stS f cells) = ok (.nx [e0, some (.int 60), some (.ref 0), some (.int seed'), some (.int i), o5', o6']) (stS f' cells) := by
  obtain ⟨left, hl⟩ : ∃ left, left = (if i < 0 then -i else i) := ⟨_, rfl⟩
  have st1 : evS tab.cds cf hotL tab.sub (.asg (.nm 6) (.bi .abs (.cons (.bi .int (.cons (.var 4) .nil)) .nil))) [e0, some (.int 60), some (.ref 0), some (.int seed), some (.int i), o5, o6] (stS f cells) = ok (.nx [e0, some (.int 60), some (.ref 0), some (.int seed), some (.int i), o5, some (.int left)]) (stS f cells) := by
    simp only [s_asg, e_bi, es_cons, e_var, es_nil]
    simp [zi_abs, hl]
  have fin3 : ∀ (f' : List Int) (o5' o6' : Option D), evSs tab.cds cf hotL tab.sub (.cons seedE .nil) [e0, some (.int 60), some (.ref 0), some (.int seed), some (.int i), o5', o6'] (stS f' cells) = ok (.nx [e0, some (.int 60), some (.ref 0), some (.int ((seed * 31 + i % 1000003 + 5) % 1000003)), some (.int i), o5', o6']) (stS f' cells) := fun f' o5' o6' => by
    rw [step seed_step, s_nil]
  rw [turn_nm]
  show ∃ f' seed' o5' o6', inR f' ∧ evSs tab.cds cf hotL tab.sub (.cons _ (.cons _ (.cons seedE .nil))) [e0, some (.int 60), some (.ref 0), some (.int seed), some (.int i), o5, o6] (stS f cells) = _
  cases h1 : decide ((1000000000000000000 : Int) ≤ left) with
  | true =>
    obtain ⟨f', left', o5', k1, k2⟩ := big_loop (cf := cf) (cells := cells) (e0 := e0) (e3 := some (.int seed)) (e4 := some (.int i)) (o5 := o5) (left := left) (xs := upto 0 60) h
    refine ⟨f', (seed * 31 + i % 1000003 + 5) % 1000003, o5', some (.int left'), k1, ?_⟩
    rw [step st1, step (env' := [e0, some (.int 60), some (.ref 0), some (.int seed), some (.int i), o5', some (.int left')]) (s' := stS f' cells), fin3]
    simp [pow18, h1, rngK_1 (show -1000000 < (60 : Int) ∧ (60 : Int) < 1000000 by decide)]
    erw [k2]
    simp
  | false =>
    cases h2 : decide ((f.length : Int) < 60) with
    | false =>
      refine ⟨f, (seed * 31 + i % 1000003 + 5) % 1000003, o5, some (.int left), h, ?_⟩
      rw [step st1, step (env' := [e0, some (.int 60), some (.ref 0), some (.int seed), some (.int i), o5, some (.int left)]) (s' := stS f cells), fin3]
      simp [pow18, h1, len_found, h2]
    | true =>
      have hlt := of_decide_eq_true h2
      refine ⟨f ++ [left % 1000], (seed * 31 + i % 1000003 + 5) % 1000003, o5, some (.int left), inR_app h (by omega) (by omega) (by omega), ?_⟩
      have ha := app_found (cf := cf) (env := [e0, some (.int 60), some (.ref 0), some (.int seed), some (.int i), o5, some (.int left)]) (cells := cells) (n := left % 1000) (f := f) (by omega) (es := .cons (.bin .mod (.bi .int (.cons (.var 6) .nil)) (.cst (.int 1000))) .nil) (by simp)
      rw [step st1, step (env' := [e0, some (.int 60), some (.ref 0), some (.int seed), some (.int i), o5, some (.int left)]) (s' := stS (f ++ [left % 1000]) cells), fin3]
      simp [pow18, h1, len_found, h2, ha]
theorem cells_loop {cf : CF} {cells : List D} {e0 o4 o5 o6 : Option D} {seed : Int} (hc : ∀ y ∈ cells, ∃ i, y = D.int i) :
    ∃ f' seed' o4' o5' o6', inR f' ∧ forK tab.cds cf hotL tab.sub (.nm 4) strB [e0, some (.int 60), some (.ref 0), some (.int seed), o4, o5, o6] (.lst 1 0) (stS [] cells) = ok (.nx [e0, some (.int 60), some (.ref 0), some (.int seed'), o4', o5', o6']) (stS f' cells) := by
  have q := forK_lst (cds := tab.cds) (cf := cf) (hot := hotL) (sub := tab.sub) (t := .nm 4) (b := strB) (env := [e0, some (.int 60), some (.ref 0), some (.int seed), o4, o5, o6]) (s := stS [] cells) (a := 1) (xs := cells)
    (fun _ env s => ∃ f seed o4 o5 o6, inR f ∧ env = [e0, some (.int 60), some (.ref 0), some (.int seed), o4, o5, o6] ∧ s = stS f cells) ⟨[], seed, o4, o5, o6, ⟨by simp, by simp⟩, rfl, rfl⟩ (fun _ env s ⟨f, _, _, _, _, _, _, h⟩ => by rw [h]; rfl)
    (fun i x env s hx ⟨f, seed, o4, o5, o6, h0, h1, h2⟩ fl s2 ht => by
      subst h1 h2
      obtain ⟨j, rfl⟩ := hc x (List.mem_of_getElem? hx)
      obtain ⟨f', seed', o5', o6', k1, k2⟩ := str_turn (cf := cf) (cells := cells) (e0 := e0) (o4 := o4) (o5 := o5) (o6 := o6) (seed := seed) (i := j) h0
      rw [k2] at ht
      cases ht
      exact ⟨fun e h => (by cases h; exact ⟨f', seed', _, o5', o6', k1, rfl, rfl⟩), fun e h => (by cases h)⟩)
  obtain ⟨env', s', h1, _, f', seed', o4', o5', o6', h2, h3, h4⟩ := loop_inv (g := turn tab.cds cf hotL tab.sub (.nm 4) strB) (fun xs env s => (∀ y ∈ xs, ∃ i, y = D.int i) ∧ ∃ f seed o4 o5 o6, inR f ∧ env = [e0, some (.int 60), some (.ref 0), some (.int seed), o4, o5, o6] ∧ s = stS f cells)
    (fun x xs env s ⟨hx, f, seed, o4, o5, o6, h0, h1, h2⟩ => by
      subst h1 h2
      obtain ⟨j, rfl⟩ := hx x (List.mem_cons_self ..)
      obtain ⟨f', seed', o5', o6', k1, k2⟩ := str_turn (cf := cf) (cells := cells) (e0 := e0) (o4 := o4) (o5 := o5) (o6 := o6) (seed := seed) (i := j) h0
      exact ⟨_, _, .inl k2, fun y hy => hx y (List.mem_cons_of_mem _ hy), f', seed', _, o5', o6', k1, rfl, rfl⟩)
    (xs := cells) (env := [e0, some (.int 60), some (.ref 0), some (.int seed), o4, o5, o6]) (s := stS [] cells) ⟨hc, [], seed, o4, o5, o6, ⟨by simp, by simp⟩, rfl, rfl⟩
  exact ⟨f', seed', o4', o5', o6', h2, by rw [q, h1, h3, h4]⟩
theorem end_turn {cf : CF} {f : List Int} {cells : List D} {e0 o4 o5 o6 : Option D} {seed : Int} {y : D} (h : inR f) :
    ∃ f' seed', inR f' ∧ (f'.length = f.length + 1 ∨ 60 ≤ f'.length) ∧ turn tab.cds cf hotL tab.sub (.nm 5) endB y [e0, some (.int 60), some (.ref 0), some (.int seed), o4, o5, o6] (stS f cells) = ok (.nx [e0, some (.int 60), some (.ref 0), some (.int seed'), o4, some y, o6]) (stS f' cells) := by
  cases h2 : decide ((f.length : Int) < 60) with
  | false =>
    have hge := of_decide_eq_false h2
    exact ⟨f, seed, h, .inr (by omega), by simp [endB, b97, len_found, h2]⟩
  | true =>
    have hlt := of_decide_eq_true h2
    obtain ⟨sd, hsd⟩ : ∃ sd, sd = (seed * 48271 + 11) % 1000003 := ⟨_, rfl⟩
    refine ⟨f ++ [sd / 7 % 1000], sd, inR_app h (by omega) (by omega) (by omega), .inl (by simp), ?_⟩
    have ha := app_found (cf := cf) (env := [e0, some (.int 60), some (.ref 0), some (.int sd), o4, some y, o6]) (cells := cells) (n := sd / 7 % 1000) (f := f) (by omega) (es := .cons (.bin .mod (.bi .int (.cons (.bin .fdiv (.var 3) (.cst (.int 7))) .nil)) (.cst (.int 1000))) .nil) (by simp [zb_div])
    simp [endB, b97, len_found, h2, zb_mulr (show Nat.blt (48271 : Int).natAbs big = true by decide), ← hsd, ha]
theorem stream_ok {d : Nat} {script : List Int} : ∃ ns cells, Nums ns ∧ go (d + 1) 97 [.frz false (script.map .int), .int 60] [] = ok (.ref 0) (stS ns cells) := by
  rw [go_at (t := f97) rfl rfl]
  obtain ⟨cells, hcl⟩ : ∃ cells, cells = cut (script.map D.int) none (some 63) := ⟨_, rfl⟩
  have hc : ∀ y ∈ cells, ∃ i, y = D.int i := fun y hy => by
    rw [hcl] at hy
    have := List.mem_of_mem_take hy
    have := List.mem_of_mem_drop this
    obtain ⟨i, _, rfl⟩ := List.mem_map.mp this
    exact ⟨i, rfl⟩
  obtain ⟨f1, seed1, o4, o5, o6, k1, k2⟩ := cells_loop (cf := go d) (cells := cells) (e0 := some (.frz false (script.map .int))) (o4 := none) (o5 := none) (o6 := none) (seed := 7) hc
  obtain ⟨env', s', h1, f2, seed2, o5', h2, h3, h4, h5⟩ := loop_inv (g := turn tab.cds (go d) hotL tab.sub (.nm 5) endB) (fun xs env s => ∃ f seed o5, inR f ∧ 60 ≤ f.length + xs.length ∧ env = [some (.frz false (script.map .int)), some (.int 60), some (.ref 0), some (.int seed), o4, o5, o6] ∧ s = stS f cells)
    (fun x xs env s ⟨f, seed, o5, h0, hl, h1, h2⟩ => by
      subst h1 h2
      obtain ⟨f', seed', k1, kl, k2⟩ := end_turn (cf := go d) (cells := cells) (e0 := some (.frz false (script.map .int))) (o4 := o4) (o5 := o5) (o6 := o6) (seed := seed) (y := x) h0
      simp only [List.length_cons] at hl
      exact ⟨_, _, .inl k2, f', seed', some x, k1, by omega, rfl, rfl⟩)
    (xs := upto 0 60) (env := [some (.frz false (script.map .int)), some (.int 60), some (.ref 0), some (.int seed1), o4, o5, o6]) (s := stS f1 cells) ⟨f1, seed1, o5, k1, by rw [upto_length]; omega, rfl, rfl⟩
  simp only [List.length_nil, Nat.add_zero] at h3
  refine ⟨f2, cells, ⟨by have := h2.1; omega, h2.2⟩, ?_⟩
  rw [show f97.body = b97 from rfl]
  unfold b97
  rw [show (List.map some [D.frz false (script.map .int), D.int 60] ++ List.replicate (f97.nl - f97.np) none : Ev.Env) = [some (.frz false (script.map .int)), some (.int 60), none, none, none, none, none] from rfl]
  rw [step (env' := [some (.frz false (script.map .int)), some (.int 60), some (.ref 0), none, none, none, none]) (s' := [.lst []]) (by simp)]
  rw [step (env' := [some (.frz false (script.map .int)), some (.int 60), some (.ref 0), some (.int 7), none, none, none]) (s' := [.lst []]) (by simp)]
  rw [step (env' := [some (.frz false (script.map .int)), some (.int 60), some (.ref 0), some (.int seed1), o4, o5, o6]) (s' := stS f1 cells) (by
    have e : seqK (.ref 1) (stS [] cells) = ok (.lst 1 0) (stS [] cells) := seqK_ref (xs := cells) rfl
    simp only [stS, List.map_nil] at e
    simp [slF, new, ← hcl, e]
    exact k2)]
  rw [step (env' := env') (s' := s') (by
    simp [rngK_1 (show -1000000 < (60 : Int) ∧ (60 : Int) < 1000000 by decide)]
    exact h1), h4, h5]
  simp
end K91
end
section
set_option Elab.async false
set_option linter.all false
set_option maxRecDepth 100000
set_option autoImplicit false
namespace K91
open PySem Ev
/-! ### orders -/
def isT : O D → Bool
  | some (.ok (.bl true) _) => true
  | _ => false
def isF : O D → Bool
  | some (.ok (.bl false) _) => true
  | _ => false
theorem isT_ok {r : O D} (h : isT r = true) : ∃ s', r = ok (.bl true) s' := by
  unfold isT at h
  split at h
  · exact ⟨_, rfl⟩
  · cases h
theorem isF_ok {r : O D} (h : isF r = true) : ∃ s', r = ok (.bl false) s' := by
  unfold isF at h
  split at h
  · exact ⟨_, rfl⟩
  · cases h
theorem c_isF {n f : Nat} {ds : List D} {s : Sto} (hp : pureL ds = true) (h : isF (go n f ds []) = true) : callF (go n) f ds s = ok (.bl false) s := by
  obtain ⟨s', e⟩ := isF_ok h
  exact call_pure hp e rfl
theorem c_isT {n f : Nat} {ds : List D} {s : Sto} (hp : pureL ds = true) (h : isT (go n f ds []) = true) : callF (go n) f ds s = ok (.bl true) s := by
  obtain ⟨s', e⟩ := isT_ok h
  exact call_pure hp e rfl
theorem whole_int {d : Nat} {i : Int} {s : Sto} : callF (go (d + 1)) 6 [.int i] s = ok (.bl true) s := call_pure rfl (s' := []) (by rw [go_at (t := f6) rfl rfl]; simp [f6, b6]) rfl
theorem between_int {d : Nat} {v lo hi : Int} {s : Sto} : callF (go (d + 2)) 19 [.int v, .int lo, .int hi] s = ok (.bl (decide (lo ≤ v) && decide (v ≤ hi))) s := by
  refine call_pure rfl (s' := []) ?_ rfl
  rw [go_at (t := f19) rfl rfl]
  cases h : decide (lo ≤ v) with
  | false => simp [f19, b19, whole_int, chnK2_f, h]
  | true => simp [f19, b19, whole_int, chnK2_t, h]
theorem row_tup {d : Nat} {xs : List D} {n : Int} {s : Sto} (h : pureL xs = true) : callF (go (d + 1)) 23 [.tup xs, .int n] s = ok (.bl ((xs.length : Int) == n)) s := by
  refine call_pure (by simp [pureL, D.pure, h]) (s' := []) ?_ rfl
  rw [go_at (t := f23) rfl rfl]
  simp [f23, b23]
theorem row_ref {d a : Nat} {xs : List D} {n : Int} {s : Sto} (h : s[a]? = some (.lst xs)) : callF (go (d + 1)) 23 [.ref a, .int n] s = ok (.bl false) s := by
  rw [call_ref rfl, go_at (t := f23) rfl rfl]
  simp [f23, b23, zt_tuple_ref h]
def dueT (a : Int) : List D := [.str [111], .str [112], .int (1 + a), .int (1 + 9 * a), .int (100 * a)]
theorem order_due {a : Int} (h1 : 0 ≤ a) (h2 : a < 1000) {s : Sto} : callF (go 18) 45 [.tup (dueT a)] s = ok (.bl true) s := by
  refine call_pure rfl (s' := []) ?_ rfl
  show go (17 + 1) 45 [.tup (dueT a)] [] = _
  rw [go_at (t := f45) rfl rfl]
  have n1 : ∀ s : Sto, callF (go 17) 0 [.str [111]] s = ok (.bl true) s := fun s => c_isT rfl (by decide +kernel)
  have n2 : ∀ s : Sto, callF (go 17) 0 [.str [112]] s = ok (.bl true) s := fun s => c_isT rfl (by decide +kernel)
  have i0 : ∀ s : Sto, ixF tab.cds (.tup (dueT a)) (.int 0) s = some (.str [111]) := fun s => rfl
  have i1 : ∀ s : Sto, ixF tab.cds (.tup (dueT a)) (.int 1) s = some (.str [112]) := fun s => rfl
  have i2 : ∀ s : Sto, ixF tab.cds (.tup (dueT a)) (.int 2) s = some (.int (1 + a)) := fun s => rfl
  have i3 : ∀ s : Sto, ixF tab.cds (.tup (dueT a)) (.int 3) s = some (.int (1 + 9 * a)) := fun s => rfl
  have i4 : ∀ s : Sto, ixF tab.cds (.tup (dueT a)) (.int 4) s = some (.int (100 * a)) := fun s => rfl
  have r : ∀ s : Sto, callF (go 17) 23 [.tup (dueT a), .int 5] s = ok (.bl true) s := fun s => by
    rw [row_tup (d := 16) rfl]
    rfl
  have b1 : ∀ s : Sto, callF (go 17) 19 [.int (1 + a), .int 1, .int 1000] s = ok (.bl true) s := fun s => by
    rw [between_int (d := 15), decide_eq_true (show (1 : Int) ≤ 1 + a by omega), decide_eq_true (show 1 + a ≤ (1000 : Int) by omega)]
    rfl
  have b2 : ∀ s : Sto, callF (go 17) 19 [.int (1 + 9 * a), .int 1, .int 9999] s = ok (.bl true) s := fun s => by
    rw [between_int (d := 15), decide_eq_true (show (1 : Int) ≤ 1 + 9 * a by omega), decide_eq_true (show 1 + 9 * a ≤ (9999 : Int) by omega)]
    rfl
  have b3 : ∀ s : Sto, callF (go 17) 19 [.int (100 * a), .int 0, .int 100000] s = ok (.bl true) s := fun s => by
    rw [between_int (d := 15), decide_eq_true (show (0 : Int) ≤ 100 * a by omega), decide_eq_true (show 100 * a ≤ (100000 : Int) by omega)]
    rfl
  simp [f45, b45, r, i0, i1, n1, n2, i2, i3, i4, b1, b2, b3]
theorem order_long {xs : List D} (hp : pureL xs = true) (h : ((xs.length : Int) == 5) = false) {s : Sto} : callF (go 18) 45 [.tup xs] s = ok (.bl false) s := by
  refine call_pure (by simp [pureL, D.pure, hp]) (s' := []) ?_ rfl
  show go (17 + 1) 45 [.tup xs] [] = _
  rw [go_at (t := f45) rfl rfl]
  have r : ∀ s : Sto, callF (go 17) 23 [.tup xs, .int 5] s = ok (.bl false) s := fun s => by
    rw [row_tup (d := 16) hp, h]
  simp [f45, b45, r]
theorem order_ref {a : Nat} {xs : List D} {s : Sto} (h : s[a]? = some (.lst xs)) : callF (go 18) 45 [.ref a] s = ok (.bl false) s := by
  rw [call_ref rfl]
  show go (17 + 1) 45 [.ref a] s = _
  rw [go_at (t := f45) rfl rfl]
  have r : callF (go 17) 23 [.ref a, .int 5] s = ok (.bl false) s := row_ref (d := 16) h
  simp [f45, b45, r]
abbrev ordB : Ss := match b111 with
  | .cons _ (.cons _ (.cons _ (.cons _ (.cons _ (.cons (.for _ _ b) _))))) => b
  | _ => .nil
def wr1 (a : Int) : List D := [.tup [.str [79], .str [112], .int 1, .int 1, .int 0], .tup [.str [111], .str [], .int 1, .int 1, .int 0], .tup [.str [111], .str [112], .int 0, .int 1, .int 0], .tup [.str [111], .str [112], .int 1001, .int 1, .int 0], .tup [.str [111], .str [112], .int 1, .int 0, .int 0], .tup [.str [111], .str [112], .int (1 + a), .int (1 + 9 * a), .int (100 * a), .int 1]]
def wr2 (a : Int) : List D := [.tup [.str [111], .str [112], .int 1, .int 10000, .int 0], .tup [.str [111], .str [112], .int 1, .int 1, .int (-1)], .tup [.str [111], .str [112], .int 1, .int 1, .int 100001], .tup [.str [111], .str [112], .int (1 + a), .int (1 + 9 * a)], .ref 1, .non, .str [111]]
def wr3 : D := .tup [.str [111], .str [112], .bl true, .int 1, .int 0]
def ordS (a : Int) : Sto := [.lst (wr1 a), .lst (dueT a), .lst (wr2 a), .lst (wr1 a ++ wr2 a ++ [wr3])]
theorem ord_turn {a : Int} {v : D} {e0 e1 e2 o : Option D} (h : callF (go 18) 45 [v] (ordS a) = ok (.bl false) (ordS a)) : turn tab.cds (go 18) hotL tab.sub (.nm 3) ordB v [e0, e1, e2, o] (ordS a) = ok (.nx [e0, e1, e2, some v]) (ordS a) := by
  simp [ordB, b111, h]
theorem ord_loop {a : Int} {e0 e1 e2 o : Option D} : ∃ o', forK tab.cds (go 18) hotL tab.sub (.nm 3) ordB [e0, e1, e2, o] (.lst 3 0) (ordS a) = ok (.nx [e0, e1, e2, o']) (ordS a) := by
  obtain ⟨o', e⟩ := forK_chk (cds := tab.cds) (cf := go 18) (hot := hotL) (sub := tab.sub) (t := .nm 3) (b := ordB) (E := fun o => [e0, e1, e2, o]) (p := fun _ => true) (bad := .non) (o := o) (s := ordS a) (a := 3) (xs := wr1 a ++ wr2 a ++ [wr3]) rfl fun x hx o => by
    rw [if_pos rfl]
    refine ord_turn ?_
    simp only [wr1, wr2, List.mem_append, List.mem_cons, List.not_mem_nil, or_false, or_assoc] at hx
    rcases hx with rfl | rfl | rfl | rfl | rfl | rfl | rfl | rfl | rfl | rfl | rfl | rfl | rfl | rfl
    · exact c_isF rfl (by decide +kernel)
    · exact c_isF rfl (by decide +kernel)
    · exact c_isF rfl (by decide +kernel)
    · exact c_isF rfl (by decide +kernel)
    · exact c_isF rfl (by decide +kernel)
    · exact order_long rfl rfl
    · exact c_isF rfl (by decide +kernel)
    · exact c_isF rfl (by decide +kernel)
    · exact c_isF rfl (by decide +kernel)
    · exact order_long rfl rfl
    · exact order_ref (xs := dueT a) rfl
    · exact c_isF rfl (by decide +kernel)
    · exact c_isF rfl (by decide +kernel)
    · exact c_isF rfl (by decide +kernel)
  refine ⟨o', ?_⟩
  rw [e]
  simp
theorem orders_ok {a : Int} (h1 : 0 ≤ a) (h2 : a < 1000) : ∃ s', go 19 111 [.int a] [] = ok (.bl true) s' := by
  show ∃ s', go (18 + 1) 111 [.int a] [] = _
  rw [go_at (t := f111) rfl rfl]
  obtain ⟨o', e⟩ := ord_loop (a := a) (e0 := some (.int a)) (e1 := some (.tup (dueT a))) (e2 := some (.ref 3)) (o := none)
  refine ⟨ordS a, ?_⟩
  have c1 : ∀ s : Sto, callF (go 18) 45 [.tup [.str [111], .str [112], .int 1000, .int 9999, .int 100000]] s = ok (.bl true) s := fun s => c_isT rfl (by decide +kernel)
  have c2 : ∀ s : Sto, callF (go 18) 45 [.tup [.str [111], .str [112], .int (1 + a), .int (1 + 9 * a), .int (100 * a)]] s = ok (.bl true) s := fun s => order_due h1 h2
  rw [show f111.body = b111 from rfl]
  unfold b111
  rw [show (List.map some [D.int a] ++ List.replicate (f111.nl - f111.np) none : Ev.Env) = [some (.int a), none, none, none] from rfl]
  have m9 : ∀ s : Sto, binF .mul (.int 9) (.int a) s = some (.int (9 * a), s) := fun s => by simp only [binF, show Nat.blt (9 : Int).natAbs big = true from by decide, Bool.true_or, if_true]
  have m100 : ∀ s : Sto, binF .mul (.int 100) (.int a) s = some (.int (100 * a), s) := fun s => by simp only [binF, show Nat.blt (100 : Int).natAbs big = true from by decide, Bool.true_or, if_true]
  rw [step (env' := [some (.int a), some (.tup (dueT a)), none, none]) (s' := []) (by simp [m9, m100, dueT])]
  rw [step (env' := [some (.int a), some (.tup (dueT a)), none, none]) (s' := []) (by simp [order_due h1 h2, c1])]
  rw [step (env' := [some (.int a), some (.tup (dueT a)), some (.ref 0), none]) (s' := [.lst (wr1 a)]) (by simp [dueT, binF, small, wr1])]
  rw [step (env' := [some (.int a), some (.tup (dueT a)), some (.ref 3), none]) (s' := [.lst (wr1 a), .lst (dueT a), .lst (wr2 a), .lst (wr1 a ++ wr2 a)]) (by
    simp [slF, biF, new, show cut (dueT a) none (some 4) = [.str [111], .str [112], .int (1 + a), .int (1 + 9 * a)] from rfl]
    simp [binF, new, wr1, wr2, small])]
  rw [step (env' := [some (.int a), some (.tup (dueT a)), some (.ref 3), none]) (s' := ordS a) (by
    have m : metK tab.cds (go 18) .append (.cons (.tup (.cons (.cst (.str [111])) (.cons (.cst (.str [112])) (.cons (.cst (.bl true)) (.cons (.cst (.int 1)) (.cons (.cst (.int 0)) .nil)))))) .nil) [some (.int a), some (.tup (dueT a)), some (.ref 3), none] (.ref 3) [.lst (wr1 a), .lst (dueT a), .lst (wr2 a), .lst (wr1 a ++ wr2 a)] = ok .non (ordS a) := by
      rw [metK_t rfl]
      simp [metF, wr1, wr2, small, ordS, wr3]
    simp [m])]
  rw [step (env' := [some (.int a), some (.tup (dueT a)), some (.ref 3), o']) (s' := ordS a) (by
    simp [seqK_ref (s := ordS a) (a := 3) rfl]
    exact e)]
  simp
end K91
end
section
set_option Elab.async false
set_option linter.all false
set_option maxRecDepth 100000
set_option autoImplicit false
namespace K91
open PySem Ev
/-! ### written numbers -/
theorem digit_code {n : Nat} (h : n < 10) : (Nat.digitChar n).toNat = 48 + n := by
  have : n = 0 ∨ n = 1 ∨ n = 2 ∨ n = 3 ∨ n = 4 ∨ n = 5 ∨ n = 6 ∨ n = 7 ∨ n = 8 ∨ n = 9 := by omega
  rcases this with rfl | rfl | rfl | rfl | rfl | rfl | rfl | rfl | rfl | rfl <;> rfl
theorem decN_lt {n : Nat} (h : n < 10) : decN n = [48 + n] := by
  unfold decN
  rw [Nat.toDigits_of_lt_base h]
  simp [digit_code h]
theorem decN_ge {n : Nat} (h : 10 ≤ n) : decN n = decN (n / 10) ++ [48 + n % 10] := by
  unfold decN
  rw [Nat.toDigits_of_base_le (by decide) h, List.map_append]
  simp [digit_code (Nat.mod_lt n (by decide : 0 < 10))]
theorem decN_ind {P : Nat → Prop} (h1 : ∀ n, n < 10 → P n) (h2 : ∀ n, 10 ≤ n → P (n / 10) → P n) (n : Nat) : P n := by
  induction n using Nat.strongRecOn with
  | _ n ih =>
    by_cases h : n < 10
    · exact h1 n h
    · exact h2 n (by omega) (ih (n / 10) (by omega))
abbrev dg10 : Txt := [48, 49, 50, 51, 52, 53, 54, 55, 56, 57]
theorem dg_in {n : Nat} (h : n < 10) : inL (48 + n) dg10 = true := by
  have : n = 0 ∨ n = 1 ∨ n = 2 ∨ n = 3 ∨ n = 4 ∨ n = 5 ∨ n = 6 ∨ n = 7 ∨ n = 8 ∨ n = 9 := by omega
  rcases this with rfl | rfl | rfl | rfl | rfl | rfl | rfl | rfl | rfl | rfl <;> decide
theorem decN_all (n : Nat) : (decN n).all (fun c => inL c dg10) = true := by
  induction n using decN_ind with
  | h1 n h => rw [decN_lt h]; simp [dg_in h]
  | h2 n h ih => rw [decN_ge h, List.all_append, ih]; simp [dg_in (Nat.mod_lt n (by decide : 0 < 10))]
theorem decN_ne (n : Nat) : decN n ≠ [] := by
  induction n using decN_ind with
  | h1 n h => rw [decN_lt h]; simp
  | h2 n h ih => rw [decN_ge h]; simp
theorem hd_app {x y : Txt} (h : x ≠ []) : hd (x ++ y) = hd x := by
  cases x with
  | nil => exact absurd rfl h
  | cons c r => rfl
theorem decN_hd (n : Nat) : hd (decN n) = 48 → n = 0 := by
  induction n using decN_ind with
  | h1 n h => rw [decN_lt h]; intro e; have e : 48 + n = 48 := e; omega
  | h2 n h ih =>
    rw [decN_ge h, hd_app (decN_ne _)]
    intro e
    have := ih e
    omega
theorem decN_val (n : Nat) : valN (decN n) = n := by
  induction n using decN_ind with
  | h1 n h => rw [decN_lt h]; simp [valN]
  | h2 n h ih =>
    rw [decN_ge h]
    unfold valN at ih ⊢
    rw [List.foldl_append, ih]
    simp
    omega
theorem decN_len {n : Nat} (h : n < 10 ^ 9) : (decN n).length ≤ 9 := by
  unfold decN
  rw [List.length_map]
  exact (Nat.length_toDigits_le_iff (by decide) (by decide)).mpr h
def digB (x : Txt) : Bool := decide (1 ≤ x.length) && (decide (x.length ≤ 600) && (x.all (fun c => inL c dg10) && (!(hd x == 48) || decide (x.length = 1))))
theorem dec_dig {n : Nat} (h : n < 10 ^ 9) : digB (decN n) = true := by
  have h1 := decN_len h
  have h2 : 1 ≤ (decN n).length := List.length_pos_iff.mpr (decN_ne n)
  unfold digB
  rw [decN_all, decide_eq_true h2, decide_eq_true (show (decN n).length ≤ 600 by omega)]
  simp only [Bool.true_and, Bool.or_eq_true, decide_eq_true_eq, Bool.not_eq_true', beq_eq_false_iff_ne]
  by_cases e : hd (decN n) = 48
  · right
    have := decN_hd n e
    subst this
    rfl
  · exact .inl e
def wwB : Txt → Bool
  | 45 :: r => digB r && !(hd r == 48)
  | x => digB x
theorem hd_dig {x : Txt} (h : x.all (fun c => inL c dg10) = true) (hx : x ≠ []) : hd x ≠ 45 := by
  cases x with
  | nil => exact absurd rfl hx
  | cons c r =>
    intro e
    have e : c = 45 := e
    subst e
    rw [List.all_cons] at h
    have : inL 45 dg10 = false := by decide
    rw [this] at h
    cases h
theorem ww_ne {x : Txt} (h : hd x ≠ 45) : wwB x = digB x := by
  unfold wwB
  split
  · exact absurd rfl h
  · rfl
theorem dec_ww {i : Int} (h : i.natAbs < 10 ^ 9) : wwB (decI i) = true := by
  unfold decI
  by_cases hi : i < 0
  · rw [if_pos hi]
    show (digB (decN i.natAbs) && !(hd (decN i.natAbs) == 48)) = true
    rw [dec_dig h]
    simp only [Bool.true_and, Bool.not_eq_true', beq_eq_false_iff_ne]
    intro e
    have := decN_hd _ e
    omega
  · rw [if_neg hi, ww_ne (hd_dig (decN_all _) (decN_ne _)), dec_dig h]
theorem num_dec {i : Int} (h : i.natAbs < 10 ^ 9) : numT (decI i) = some i := by
  have hl := decN_len h
  unfold decI
  by_cases hi : i < 0
  · rw [if_pos hi]
    unfold numT
    simp only [decN_val]
    rw [if_pos ⟨trivial, by omega, by omega⟩]
    congr 1
    omega
  · rw [if_neg hi]
    have hne : ∀ r, decN i.natAbs ≠ 45 :: r := fun r e => hd_dig (decN_all i.natAbs) (decN_ne _) (by rw [e]; rfl)
    unfold numT
    split
    · rename_i r e
      exact absurd e (hne r)
    · rw [decN_val, if_pos ⟨rfl, by omega⟩]
      congr 1
      omega
end K91
end
section
set_option Elab.async false
set_option linter.all false
set_option maxRecDepth 100000
set_option autoImplicit false
namespace K91
open PySem Ev
/-! ### reading fractions -/
structure Tx (x : Txt) : Prop where
  cp : cpB x = true
  len : x.length ≤ 700
theorem Tx.small {x : Txt} (h : Tx x) : small x.length = true := small_le h.len (by decide)
theorem cp_drop {x : Txt} {n : Nat} (h : cpB x = true) : cpB (x.drop n) = true := by
  unfold cpB at h ⊢
  rw [List.all_eq_true] at h ⊢
  exact fun c hc => h c (List.mem_of_mem_drop hc)
theorem cp_hd {c : Nat} {r : Txt} (h : cpB (c :: r) = true) : c < 1114112 := by
  simp only [cpB, List.all_cons, Bool.and_eq_true, decide_eq_true_eq] at h
  exact h.1
theorem ne_str {s : Sto} {x y : Txt} (hx : cpB x = true) (hy : cpB y = true) : cmpF tab.cds .ne (.str x) (.str y) s = some (!decide (x = y)) := by
  simp only [cmpF, data_str hx, data_str hy, eqv_txt]
theorem small10 : Ev.small dg10.length = true := by decide
theorem dg_turn {cf : CF} {c : Nat} {v : D} {o : Option D} {s : Sto} : turn tab.cds cf hotL tab.sub (.nm 1) (.cons (.ite (.cmp .notin (.var 1) (.cst (.str dg10))) (.cons (.ret (.cst (.bl false))) .nil) .nil) .nil) (.str [c]) [some v, o] s =
    if inL c dg10 then ok (.nx [some v, some (.str [c])]) s else ok (.rt (.bl false)) s := by
  simp [inF_str small10]
  cases inL c dg10 <;> simp
theorem dg_loop {cf : CF} {v : D} {o : Option D} {s : Sto} (x : Txt) : ∃ o', loopL (turn tab.cds cf hotL tab.sub (.nm 1) (.cons (.ite (.cmp .notin (.var 1) (.cst (.str dg10))) (.cons (.ret (.cst (.bl false))) .nil) .nil) .nil)) (x.map fun c => .str [c]) [some v, o] s =
    if x.all (fun c => inL c dg10) then ok (.nx [some v, o']) s else ok (.rt (.bl false)) s := by
  induction x generalizing o with
  | nil => exact ⟨o, rfl⟩
  | cons c r ih =>
    obtain ⟨o', e⟩ := ih (o := some (.str [c]))
    refine ⟨o', ?_⟩
    rw [List.map_cons, loopL, dg_turn, List.all_cons]
    cases inL c dg10 with
    | true => simpa [nextL] using e
    | false => simp [nextL]
theorem hd_lt {x : Txt} (h : cpB x = true) (hx : x ≠ []) : hd x < 1114112 := by
  cases x with
  | nil => exact absurd rfl hx
  | cons c r => exact cp_hd h
theorem ix_hd {x : Txt} {s : Sto} (hx : Ev.small x.length = true) (h : x ≠ []) : ixF tab.cds (.str x) (.int 0) s = some (.str [hd x]) := by
  cases x with
  | nil => exact absurd rfl h
  | cons c r =>
    simp only [ixF, hx, if_true]
    rfl
theorem are_digits_str {d : Nat} {x : Txt} {s : Sto} (h : Tx x) : go (d + 1) 15 [.str x] s = ok (.bl (digB x)) s := by
  rw [go_at (t := f15) rfl rfl]
  have hx := h.small
  by_cases hne : x = []
  · subst hne
    simp [f15, b15, zi_lens (show Ev.small ([] : Txt).length = true from rfl), digB]
  · have hc := hd_lt h.cp hne
    have hpos : 1 ≤ x.length := List.length_pos_iff.mpr hne
    obtain ⟨o', e⟩ := dg_loop (cf := go d) (v := .str x) (o := none) (s := s) x
    have hln := zi_lens (s := s) hx
    have ix0 := ix_hd (s := s) hx hne
    have ne0 := ne_str (s := s) (cp_one hc) (by decide : cpB [48] = true)
    have l1 : ¬ ((x.length : Int) < 1) := by omega
    have hdc : decide ([hd x] = [48]) = (hd x == 48) := by
      rw [Bool.eq_iff_iff]
      simp
    have heq : ((x.length : Int) == 1) = decide (x.length = 1) := by
      rw [Bool.eq_iff_iff]
      simp
      omega
    rw [hdc] at ne0
    unfold digB
    generalize hA : x.all (fun c => inL c dg10) = A at e ⊢
    generalize hB : (hd x == 48) = B at ne0 ⊢
    by_cases l2 : x.length ≤ 600
    · have l2' : ¬ ((600 : Int) < x.length) := by omega
      cases A with
      | false => simp [f15, b15, hln, l1, l2', e]
      | true => cases B <;> simp [f15, b15, hln, l1, l2', e, ix0, ne0, heq, hpos, l2]
    · have l2' : (600 : Int) < x.length := by omega
      simp [f15, b15, hln, l1, l2', l2]
theorem c_are_digits {d : Nat} {x : Txt} {s : Sto} (h : Tx x) : callF (go (d + 1)) 15 [.str x] s = ok (.bl (digB x)) s := call_pure rfl (are_digits_str h) rfl
theorem cut_1 {x : Txt} : cut x none (some 1) = x.take 1 := by
  unfold cut Ev.bound
  simp only [List.drop_zero, Nat.sub_zero]
  rw [if_neg (by decide)]
  cases x with
  | nil => rfl
  | cons c r => simp
theorem cut_from1 {x : Txt} : cut x (some 1) none = x.drop 1 := by
  have e : Ev.bound x.length 0 (some 1) = min 1 x.length := by
    unfold Ev.bound
    simp only []
    rw [if_neg (by decide)]
    rfl
  unfold cut
  rw [e]
  cases x with
  | nil => rfl
  | cons c r =>
    rw [show min 1 (c :: r).length = 1 by simp]
    simp [Ev.bound]
theorem ww_str {d : Nat} {x : Txt} {s : Sto} (h : Tx x) : go (d + 2) 16 [.str x] s = ok (.bl (wwB x)) s := by
  rw [go_at (t := f16) rfl rfl]
  have hx := h.small
  have sl1 : slF (.str x) none (some 1) s = some (.str (x.take 1), s) := by simp only [slF, hx, if_true, cut_1]
  have sl2 : slF (.str x) (some 1) none s = some (.str (x.drop 1), s) := by simp only [slF, hx, if_true, cut_from1]
  have hT : Tx (x.drop 1) := ⟨cp_drop h.cp, by have := h.len; simp; omega⟩
  have cT : cpB (x.take 1) = true := by
    have := h.cp
    unfold cpB at this ⊢
    rw [List.all_eq_true] at this ⊢
    exact fun c hc => this c (List.mem_of_mem_take hc)
  have eq1 := eq_str (s := s) cT (by decide : cpB [45] = true)
  have c2 := c_are_digits (d := d) (s := s) hT
  have c1 := c_are_digits (d := d) (s := s) h
  by_cases hq : hd x = 45 ∧ x ≠ []
  · obtain ⟨h45, hne⟩ := hq
    cases x with
    | nil => exact absurd rfl hne
    | cons c r =>
      have h45 : c = 45 := h45
      subst h45
      rw [show (45 :: r).drop 1 = r from rfl] at sl2 c2 hT
      rw [show (45 :: r : Txt).take 1 = [45] from rfl] at sl1 eq1
      have ww : wwB (45 :: r) = (digB r && !(hd r == 48)) := rfl
      cases hd1 : digB r with
      | false =>
        rw [hd1] at c2 ww
        generalize (45 :: r : Txt) = y at *
        simp [f16, b16, sl1, eq1, sl2, c2, ww]
      | true =>
        have hrne : r ≠ [] := by
          intro e
          subst e
          cases hd1
        have ix1 : ixF tab.cds (.str (45 :: r)) (.int 1) s = some (.str [hd r]) := by
          simp only [ixF, hx, if_true]
          cases r with
          | nil => exact absurd rfl hrne
          | cons c r => rfl
        have ne1 := ne_str (s := s) (cp_one (hd_lt hT.cp hrne)) (by decide : cpB [48] = true)
        have hdc : decide ([hd r] = [48]) = (hd r == 48) := by
          rw [Bool.eq_iff_iff]
          simp
        rw [hdc] at ne1
        rw [hd1] at c2 ww
        generalize (hd r == 48) = B at *
        generalize (45 :: r : Txt) = y at *
        simp [f16, b16, sl1, eq1, sl2, c2, ix1, ne1, ww]
  · have h1 : decide (x.take 1 = [45]) = false := by
      cases x with
      | nil => rfl
      | cons c r =>
        have : c ≠ 45 := fun e => hq ⟨e, by simp⟩
        simp [this]
    have ww : wwB x = digB x := by
      cases x with
      | nil => rfl
      | cons c r => exact ww_ne fun e => hq ⟨e, by simp⟩
    rw [h1] at eq1
    generalize x.take 1 = y at *
    simp [f16, b16, sl1, eq1, c1, ww]
theorem c_ww {d : Nat} {x : Txt} {s : Sto} (h : Tx x) : callF (go (d + 2)) 16 [.str x] s = ok (.bl (wwB x)) s := call_pure rfl (ww_str h) rfl
end K91
end
section
set_option Elab.async false
set_option linter.all false
set_option maxRecDepth 100000
set_option autoImplicit false
namespace K91
open PySem Ev
/-! ### the parts of a fraction -/
theorem part_no : ∀ {x acc : Txt}, (∀ c ∈ x, c ≠ 47) → partT 47 acc x = (acc ++ x, [], [])
  | [], acc, _ => by simp [partT]
  | c :: r, acc, h => by
    unfold partT
    rw [if_neg (h c (List.mem_cons_self ..)), part_no fun d hd => h d (List.mem_cons_of_mem _ hd)]
    simp
theorem part_at : ∀ {x y acc : Txt}, (∀ c ∈ x, c ≠ 47) → partT 47 acc (x ++ 47 :: y) = (acc ++ x, [47], y)
  | [], y, acc, _ => by simp [partT]
  | c :: r, y, acc, h => by
    rw [List.cons_append]
    unfold partT
    rw [if_neg (h c (List.mem_cons_self ..)), part_at fun d hd => h d (List.mem_cons_of_mem _ hd)]
    simp
theorem met_part {x p q r : Txt} {s : Sto} (hx : Ev.small x.length = true) (h : partT 47 [] x = (p, q, r)) : metF .partition (.str x) [.str [47]] s = some (.tup [.str p, .str q, .str r], s) := by
  simp [metF, hx, h]
theorem part_sub : ∀ {x acc p q r : Txt}, partT 47 acc x = (p, q, r) → ∃ u, acc ++ x = p ++ u ∧ u = q ++ r
  | [], acc, p, q, r, h => by
    simp only [partT, Prod.mk.injEq] at h
    obtain ⟨rfl, rfl, rfl⟩ := h
    exact ⟨[], by simp⟩
  | c :: t, acc, p, q, r, h => by
    unfold partT at h
    split at h
    · rename_i e
      simp only [Prod.mk.injEq] at h
      obtain ⟨rfl, rfl, rfl⟩ := h
      exact ⟨c :: t, by simp, by simp [e]⟩
    · obtain ⟨u, h1, h2⟩ := part_sub h
      exact ⟨u, by simpa using h1, h2⟩
theorem part_tx {x p q r : Txt} (hx : Tx x) (h : partT 47 [] x = (p, q, r)) : Tx p ∧ Tx r := by
  obtain ⟨u, h1, h2⟩ := part_sub h
  simp only [List.nil_append] at h1
  subst h2
  have hc := hx.cp
  have hl := hx.len
  rw [h1] at hc hl
  unfold cpB at hc
  simp only [List.all_append, Bool.and_eq_true, List.length_append] at hc hl
  exact ⟨⟨hc.1, by omega⟩, ⟨hc.2.2, by omega⟩⟩
theorem fraction_int {d : Nat} {i j : Int} {s : Sto} : callF (go (d + 2)) 7 [.tup [.int i, .int j]] s = ok (.bl (decide (0 < j) && ((Nat.gcd i.natAbs j.natAbs : Nat) : Int) == 1)) s := by
  refine call_pure rfl (s' := []) ?_ rfl
  rw [go_at (t := f7) rfl rfl]
  have i0 : ∀ s : Sto, ixF tab.cds (.tup [.int i, .int j]) (.int 0) s = some (.int i) := fun s => rfl
  have i1 : ∀ s : Sto, ixF tab.cds (.tup [.int i, .int j]) (.int 1) s = some (.int j) := fun s => rfl
  have g : ∀ s : Sto, biF .gcd [.int i, .int j] s = some (.int (Nat.gcd i.natAbs j.natAbs : Nat), s) := fun s => rfl
  cases h : decide (0 < j) <;> simp [f7, b7, i0, i1, whole_int, h, g]
abbrev readE (env' : Ev.Env) : Prop := True
theorem read_env {x p q r : Txt} (hx : Tx x) (h : partT 47 [] x = (p, q, r)) {cf : CF} {s : Sto} : evS tab.cds cf hotL tab.sub (.asg (.tp [2, 3, 4]) (.met .partition (.var 0) (.cons (.cst (.str [47])) .nil))) [some (.str x), none, none, none, none] s = ok (.nx [some (.str x), none, some (.str p), some (.str q), some (.str r)]) s := by
  simp [met_part hx.small h, asgK_tp, setAll]
/-- what a text that is no fraction gives -/
theorem read_bad {d : Nat} {x p q r : Txt} (hx : Tx x) (h : partT 47 [] x = (p, q, r)) (hb : wwB p = false ∨ (q ≠ [] ∧ digB r = false) ∨ (q ≠ [] ∧ ∃ i j, numT p = some i ∧ numT r = some j ∧ (j < 2 ∨ Nat.gcd i.natAbs j.natAbs ≠ 1))) (hq : cpB q = true) :
    go (d + 3) 18 [.str x] [] = some (.exc 3 [.str x] []) := by
  rw [go_at (t := f18) rfl rfl]
  obtain ⟨tp, tr⟩ := part_tx hx h
  rw [show f18.body = b18 from rfl]
  unfold b18
  rw [show (List.map some [D.str x] ++ List.replicate (f18.nl - f18.np) none : Ev.Env) = [some (.str x), none, none, none, none] from rfl]
  rw [step (read_env hx h)]
  have c1 := fun s => c_ww (d := d) (s := s) tp
  have c2 := fun s => c_are_digits (d := d + 1) (s := s) tr
  cases hw : wwB p with
  | false => simp [c1, hw, rseK_ok]
  | true =>
    rw [hw] at hb
    simp only [Bool.true_eq_false, false_or] at hb
    have hq0 : q ≠ [] := by rcases hb with h | h <;> exact h.1
    have eq0 := fun s => eq_str (s := s) hq (by decide : cpB [] = true)
    rw [decide_eq_false hq0] at eq0
    cases hd2 : digB r with
    | false => simp [c1, hw, eq0, c2, hd2, rseK_ok]
    | true =>
      rw [hd2] at hb
      simp only [Bool.true_eq_false, and_false, false_or] at hb
      obtain ⟨_, i, j, hi, hj, hg⟩ := hb
      have bi : ∀ s : Sto, biF .int [.str p] s = some (.int i, s) := fun s => by simp only [biF, hi, Option.map_some]
      have bj : ∀ s : Sto, biF .int [.str r] s = some (.int j, s) := fun s => by simp only [biF, hj, Option.map_some]
      have i1 : ∀ s : Sto, ixF tab.cds (.tup [.int i, .int j]) (.int 1) s = some (.int j) := fun s => rfl
      have fr := fun s => fraction_int (d := d) (i := i) (j := j) (s := s)
      cases hlt : decide (j < 2) with
      | true => simp [c1, hw, eq0, c2, hd2, bi, bj, i1, hlt, rseK_ok]
      | false =>
        have h2 : ¬ j < 2 := of_decide_eq_false hlt
        have hgg : (((Nat.gcd i.natAbs j.natAbs : Nat) : Int) == 1) = false := by
          rcases hg with hg | hg
          · exact absurd hg h2
          · rw [beq_eq_false_iff_ne]
            omega
        rw [hgg, Bool.and_false] at fr
        simp [c1, hw, eq0, c2, hd2, bi, bj, i1, hlt, fr, rseK_ok]
theorem read_whole {d : Nat} {x : Txt} {i : Int} (hx : Tx x) (h : partT 47 [] x = (x, [], [])) (hw : wwB x = true) (hi : numT x = some i) : go (d + 3) 18 [.str x] [] = ok (.tup [.int i, .int 1]) [] := by
  rw [go_at (t := f18) rfl rfl]
  rw [show f18.body = b18 from rfl]
  unfold b18
  rw [show (List.map some [D.str x] ++ List.replicate (f18.nl - f18.np) none : Ev.Env) = [some (.str x), none, none, none, none] from rfl]
  rw [step (read_env hx h)]
  have c1 := fun s => c_ww (d := d) (s := s) hx
  have bi : ∀ s : Sto, biF .int [.str x] s = some (.int i, s) := fun s => by simp only [biF, hi, Option.map_some]
  simp [c1, hw, eq_str, bi, (by decide : cpB [] = true)]
theorem read_frac {d : Nat} {x p r : Txt} {i j : Int} (hx : Tx x) (h : partT 47 [] x = (p, [47], r)) (hw : wwB p = true) (hdr : digB r = true) (hi : numT p = some i) (hj : numT r = some j) (h2 : 2 ≤ j) (hg : Nat.gcd i.natAbs j.natAbs = 1) : go (d + 3) 18 [.str x] [] = ok (.tup [.int i, .int j]) [] := by
  rw [go_at (t := f18) rfl rfl]
  obtain ⟨tp, tr⟩ := part_tx hx h
  rw [show f18.body = b18 from rfl]
  unfold b18
  rw [show (List.map some [D.str x] ++ List.replicate (f18.nl - f18.np) none : Ev.Env) = [some (.str x), none, none, none, none] from rfl]
  rw [step (read_env hx h)]
  have c1 := fun s => c_ww (d := d) (s := s) tp
  have c2 := fun s => c_are_digits (d := d + 1) (s := s) tr
  have bi : ∀ s : Sto, biF .int [.str p] s = some (.int i, s) := fun s => by simp only [biF, hi, Option.map_some]
  have bj : ∀ s : Sto, biF .int [.str r] s = some (.int j, s) := fun s => by simp only [biF, hj, Option.map_some]
  have i1 : ∀ s : Sto, ixF tab.cds (.tup [.int i, .int j]) (.int 1) s = some (.int j) := fun s => rfl
  have fr := fun s => fraction_int (d := d) (i := i) (j := j) (s := s)
  have hlt : decide (j < 2) = false := decide_eq_false (by omega)
  rw [hg, decide_eq_true (show 0 < j by omega)] at fr
  simp [c1, hw, eq_str (by decide : cpB [47] = true) (by decide : cpB [] = true), c2, hdr, bi, bj, i1, hlt, fr]
theorem told_bad {d : Nat} {x : Txt} (h : go (d + 3) 18 [.str x] [] = some (.exc 3 [.str x] [])) {s : Sto} : callF (go (d + 4)) 103 [.str x, .int 2] s = ok (.tup [.str tFrac, .str x]) s := by
  refine call_pure rfl (s' := []) ?_ rfl
  rw [go_at (t := f103) rfl rfl]
  have e2 : ∀ s : Sto, callF (go (d + 3)) 18 [.str x] s = some (.exc 3 [.str x] s) := fun s => call_exc rfl h rfl
  simp [f103, b103, e2]
  rw [hand_frac]
  simp
theorem told_good {d : Nat} {x : Txt} {i j : Int} (h : go (d + 3) 18 [.str x] [] = ok (.tup [.int i, .int j]) []) {s : Sto} : callF (go (d + 4)) 103 [.str x, .int 2] s = ok (.tup [.str tTold, .tup [.int i, .int j]]) s := by
  refine call_pure rfl (s' := []) ?_ rfl
  rw [go_at (t := f103) rfl rfl]
  have e2 : ∀ s : Sto, callF (go (d + 3)) 18 [.str x] s = ok (.tup [.int i, .int j]) s := fun s => call_pure rfl h rfl
  simp [f103, b103, e2]
end K91
end
section
set_option Elab.async false
set_option linter.all false
set_option maxRecDepth 100000
set_option autoImplicit false
namespace K91
open PySem Ev
/-! ### the law of fractions -/
theorem dig_no {x : Txt} {c : Nat} (hc : c ∈ x) (h : inL c dg10 = false) : digB x = false := by
  have : x.all (fun c => inL c dg10) = false := by
    rw [List.all_eq_false]
    exact ⟨c, hc, by rw [h]; exact Bool.false_ne_true⟩
  unfold digB
  rw [this]
  simp
theorem dig_zero {y : Txt} (hy : y ≠ []) : digB (48 :: y) = false := by
  unfold digB
  have h1 : decide ((48 :: y).length = 1) = false := by
    cases y with
    | nil => exact absurd rfl hy
    | cons c r => simp
  rw [h1, show (hd (48 :: y) == 48) = true from rfl]
  simp
theorem decN_mem {n c : Nat} (h : c ∈ decN n) : inL c dg10 = true := List.all_eq_true.mp (decN_all n) c h
theorem dg_range {c : Nat} (h : inL c dg10 = true) : 48 ≤ c ∧ c ≤ 57 := by
  unfold inL at h
  obtain ⟨z, hz, e⟩ := List.any_eq_true.mp h
  have e := of_decide_eq_true e
  subst e
  have : ∀ z ∈ dg10, 48 ≤ z ∧ z ≤ 57 := by decide
  exact this z hz
theorem decI_mem {i : Int} {c : Nat} (h : c ∈ decI i) : c = 45 ∨ (48 ≤ c ∧ c ≤ 57) := by
  unfold decI at h
  split at h
  · rcases List.mem_cons.mp h with e | h
    · exact .inl e
    · exact .inr (dg_range (decN_mem h))
  · exact .inr (dg_range (decN_mem h))
theorem decI_ne {i : Int} : decI i ≠ [] := by
  unfold decI
  split
  · simp
  · exact decN_ne _
theorem decI_len {i : Int} (h : i.natAbs < 10 ^ 9) : (decI i).length ≤ 10 := by
  have := decN_len h
  unfold decI
  split
  · simp; omega
  · omega
theorem decI_tx {i : Int} (h : i.natAbs < 10 ^ 9) : Tx (decI i) := by
  refine ⟨?_, by have := decI_len h; omega⟩
  unfold cpB
  rw [List.all_eq_true]
  intro c hc
  rcases decI_mem hc with e | e
  · subst e; rfl
  · exact decide_eq_true (by omega)
theorem decI_47 {i : Int} : ∀ c ∈ decI i, c ≠ 47 := fun c hc e => by
  rcases decI_mem hc with h | h <;> omega
theorem decI_pos {j : Int} (h : 0 ≤ j) : decI j = decN j.natAbs := by
  unfold decI
  rw [if_neg (by omega)]
theorem ww_bad {x : Txt} {c : Nat} (h1 : hd x ≠ 45) (h2 : c ∈ x) (h3 : inL c dg10 = false) : wwB x = false := by
  rw [ww_ne h1, dig_no h2 h3]
theorem ww_app {i : Int} : wwB (decI i ++ [32]) = false := by
  have h32 : inL 32 dg10 = false := by decide
  unfold decI
  split
  · show (digB (decN i.natAbs ++ [32]) && _) = false
    rw [dig_no (c := 32) (by simp) h32]
    rfl
  · refine ww_bad (c := 32) ?_ (by simp) h32
    rw [hd_app (decN_ne _)]
    exact hd_dig (decN_all _) (decN_ne _)
/-- a fraction's text -/
def fracT (i j : Int) : Txt := if j = 1 then decI i else decI i ++ 47 :: decI j
theorem fracT_tx {i j : Int} (hi : i.natAbs < 10 ^ 9) (hj : j.natAbs < 10 ^ 9) : Tx (fracT i j) ∧ (fracT i j).length ≤ 30 := by
  have a := decI_tx hi
  have b := decI_tx hj
  have l1 := decI_len hi
  have l2 := decI_len hj
  unfold fracT
  split
  · exact ⟨a, by omega⟩
  · refine ⟨⟨?_, by simp; omega⟩, by simp; omega⟩
    have ha := a.cp
    have hb := b.cp
    unfold cpB at ha hb ⊢
    rw [List.all_append, List.all_cons, ha, hb]
    rfl
theorem fracT_part {i j : Int} {u v : Txt} (hu : ∀ c ∈ u, c ≠ 47) (hv : ∀ c ∈ v, c ≠ 47) : partT 47 [] (u ++ fracT i j ++ v) = if j = 1 then (u ++ decI i ++ v, [], []) else (u ++ decI i, [47], decI j ++ v) := by
  unfold fracT
  have h1 : ∀ c ∈ u ++ decI i, c ≠ 47 := fun c hc => by
    rcases List.mem_append.mp hc with h | h
    · exact hu c h
    · exact decI_47 c h
  split
  · rw [part_no]
    · simp
    · intro c hc
      rcases List.mem_append.mp hc with h | h
      · exact h1 c h
      · exact hv c h
  · have : u ++ (decI i ++ 47 :: decI j) ++ v = (u ++ decI i) ++ 47 :: (decI j ++ v) := by simp
    rw [this, part_at h1]
    simp
theorem read_T {d : Nat} {i j : Int} (hi : i.natAbs < 10 ^ 9) (hj : j.natAbs < 10 ^ 9) (h1 : 1 ≤ j) (hg : Nat.gcd i.natAbs j.natAbs = 1) : go (d + 3) 18 [.str (fracT i j)] [] = ok (.tup [.int i, .int j]) [] := by
  have hp := fracT_part (i := i) (j := j) (u := []) (v := []) (by simp) (by simp)
  simp only [List.nil_append, List.append_nil] at hp
  have tx := (fracT_tx hi hj).1
  by_cases hj1 : j = 1
  · rw [if_pos hj1] at hp
    have e : fracT i j = decI i := by unfold fracT; rw [if_pos hj1]
    rw [e] at hp tx ⊢
    rw [hj1]
    exact read_whole tx hp (dec_ww hi) (num_dec hi)
  · rw [if_neg hj1] at hp
    exact read_frac tx hp (dec_ww hi) (by rw [decI_pos (by omega)]; exact dec_dig hj) (num_dec hi) (num_dec hj) (by omega) hg
def nearL (t : Txt) : List Txt := [t ++ [47, 49], 48 :: t, 32 :: t, t ++ [32], 43 :: t, [], [45], [45, 48], [49, 47, 48], [49, 47, 45, 50], [49, 47, 48, 50], [47, 50], [49, 47], [49, 47, 50, 47, 51]]
theorem near_tx {t : Txt} (h : Tx t) (hl : t.length ≤ 30) : ∀ x ∈ nearL t, Tx x ∧ x.length ≤ 40 := by
  have hc := h.cp
  intro x hx
  simp only [nearL, List.mem_cons, List.not_mem_nil, or_false] at hx
  have a : ∀ u v : Txt, cpB u = true → cpB v = true → u.length + v.length ≤ 5 → Tx (u ++ t ++ v) ∧ (u ++ t ++ v).length ≤ 40 := fun u v hu hv hl2 => by
    refine ⟨⟨?_, by simp; omega⟩, by simp; omega⟩
    unfold cpB at hc hu hv ⊢
    rw [List.all_append, List.all_append, hu, hc, hv]
    rfl
  rcases hx with rfl | rfl | rfl | rfl | rfl | rfl | rfl | rfl | rfl | rfl | rfl | rfl | rfl | rfl
  · exact a [] [47, 49] rfl rfl (by decide)
  · have := a [48] [] rfl rfl (by decide); simpa using this
  · have := a [32] [] rfl rfl (by decide); simpa using this
  · exact a [] [32] rfl rfl (by decide)
  · have := a [43] [] rfl rfl (by decide); simpa using this
  all_goals exact ⟨⟨rfl, by decide⟩, by decide⟩
theorem near_bad {d : Nat} {i j : Int} (hi : i.natAbs < 10 ^ 9) (hj : j.natAbs < 10 ^ 9) (h1 : 1 ≤ j) : ∀ x ∈ nearL (fracT i j), go (d + 3) 18 [.str x] [] = some (.exc 3 [.str x] []) := by
  intro x hx
  have tx := (near_tx (fracT_tx hi hj).1 (fracT_tx hi hj).2 x hx).1
  have closed : ∀ (y p q r : Txt), x = y → partT 47 [] y = (p, q, r) → cpB q = true → (wwB p = false ∨ (q ≠ [] ∧ digB r = false) ∨ (q ≠ [] ∧ ∃ i j, numT p = some i ∧ numT r = some j ∧ (j < 2 ∨ Nat.gcd i.natAbs j.natAbs ≠ 1))) → go (d + 3) 18 [.str x] [] = some (.exc 3 [.str x] []) := fun y p q r e h hq hb => by
    subst e
    exact read_bad tx h hb hq
  have part : ∀ u v : Txt, (∀ c ∈ u, c ≠ 47) → (∀ c ∈ v, c ≠ 47) → x = u ++ fracT i j ++ v → (j = 1 → wwB (u ++ decI i ++ v) = false) → (j ≠ 1 → wwB (u ++ decI i) = false ∨ digB (decI j ++ v) = false) → go (d + 3) 18 [.str x] [] = some (.exc 3 [.str x] []) := fun u v hu hv e k1 k2 => by
    have hp := fracT_part (i := i) (j := j) hu hv
    by_cases hj1 : j = 1
    · rw [if_pos hj1] at hp
      exact closed _ _ _ _ e hp rfl (.inl (k1 hj1))
    · rw [if_neg hj1] at hp
      refine closed _ _ _ _ e hp rfl ?_
      rcases k2 hj1 with k | k
      · exact .inl k
      · exact .inr (.inl ⟨by simp, k⟩)
  have hx' := hx
  simp only [nearL, List.mem_cons, List.not_mem_nil, or_false] at hx
  rcases hx with rfl | rfl | rfl | rfl | rfl | rfl | rfl | rfl | rfl | rfl | rfl | rfl | rfl | rfl
  · by_cases hj1 : j = 1
    · have e : fracT i j ++ [47, 49] = decI i ++ 47 :: [49] := by unfold fracT; rw [if_pos hj1]
      have hp := part_at (x := decI i) (y := [49]) (acc := []) decI_47
      exact closed _ _ _ _ e hp rfl (.inr (.inr ⟨by simp, i, 1, num_dec hi, by decide, .inl (by decide)⟩))
    · have e : fracT i j ++ [47, 49] = decI i ++ 47 :: (decI j ++ [47, 49]) := by unfold fracT; rw [if_neg hj1]; simp
      have hp := part_at (x := decI i) (y := decI j ++ [47, 49]) (acc := []) decI_47
      exact closed _ _ _ _ e hp rfl (.inr (.inl ⟨by simp, dig_no (c := 47) (by simp) (by decide)⟩))
  · refine part [48] [] (by simp) (by simp) (by simp) (fun _ => ?_) (fun _ => .inl ?_)
    · rw [List.append_nil]
      show wwB (48 :: decI i) = false
      rw [ww_ne (by show (48 : Nat) ≠ 45; decide), dig_zero decI_ne]
    · show wwB (48 :: decI i) = false
      rw [ww_ne (by show (48 : Nat) ≠ 45; decide), dig_zero decI_ne]
  · refine part [32] [] (by simp) (by simp) (by simp) (fun _ => ?_) (fun _ => .inl ?_)
    · exact ww_bad (c := 32) (by show (32 : Nat) ≠ 45; decide) (by simp) (by decide)
    · exact ww_bad (c := 32) (by show (32 : Nat) ≠ 45; decide) (by simp) (by decide)
  · refine part [] [32] (by simp) (by simp) (by simp) (fun _ => ?_) (fun _ => .inr ?_)
    · rw [List.nil_append]; exact ww_app
    · exact dig_no (c := 32) (by simp) (by decide)
  · refine part [43] [] (by simp) (by simp) (by simp) (fun _ => ?_) (fun _ => .inl ?_)
    · exact ww_bad (c := 43) (by show (43 : Nat) ≠ 45; decide) (by simp) (by decide)
    · exact ww_bad (c := 43) (by show (43 : Nat) ≠ 45; decide) (by simp) (by decide)
  · exact closed _ [] [] [] rfl rfl rfl (.inl rfl)
  · exact closed _ [45] [] [] rfl rfl rfl (.inl rfl)
  · exact closed _ [45, 48] [] [] rfl rfl rfl (.inl rfl)
  · exact closed _ [49] [47] [48] rfl rfl rfl (.inr (.inr ⟨by simp, 1, 0, by decide, by decide, .inl (by decide)⟩))
  · exact closed _ [49] [47] [45, 50] rfl rfl rfl (.inr (.inl ⟨by simp, by decide⟩))
  · exact closed _ [49] [47] [48, 50] rfl rfl rfl (.inr (.inl ⟨by simp, by decide⟩))
  · exact closed _ [] [47] [50] rfl rfl rfl (.inl rfl)
  · exact closed _ [49] [47] [] rfl rfl rfl (.inr (.inl ⟨by simp, by decide⟩))
  · exact closed _ [49] [47] [50, 47, 51] rfl rfl rfl (.inr (.inl ⟨by simp, by decide⟩))
end K91
end
section
set_option Elab.async false
set_option linter.all false
set_option maxRecDepth 100000
set_option autoImplicit false
namespace K91
open PySem Ev
abbrev gcdB : Ss := match b105 with
  | .cons (.for _ _ b) _ => b
  | _ => .nil
theorem gcd_loop {cf : CF} {s : Sto} : ∀ (xs : List D) (a b : Int) (o : Option D), 0 ≤ b → b.toNat < xs.length → ∃ g o', g.natAbs = Int.gcd a b ∧ loopL (turn tab.cds cf hotL tab.sub (.nm 2) gcdB) xs [some (.int a), some (.int b), o] s = ok (.nx [some (.int g), some (.int 0), o']) s
  | [], a, b, o, _, h => by simp at h
  | y :: xs, a, b, o, hb, h => by
    simp only [List.length_cons] at h
    rw [loopL]
    by_cases h0 : b = 0
    · subst h0
      refine ⟨a, some y, by simp, ?_⟩
      simp [gcdB, b105, nextL]
    · have hq : (b == 0) = false := by rw [beq_eq_false_iff_ne]; exact h0
      have hpos : 0 < b := by omega
      have h1 : 0 ≤ a % b := Int.emod_nonneg _ h0
      have h2 : a % b < b := Int.emod_lt_of_pos _ hpos
      obtain ⟨g, o', e1, e2⟩ := gcd_loop (cf := cf) (s := s) xs b (a % b) (some y) h1 (by omega)
      refine ⟨g, o', ?_, ?_⟩
      · rw [e1]
        have e := Int.gcd_add_mul_left_right b (a % b) (a / b)
        rw [Int.emod_add_mul_ediv] at e
        rw [← e, Int.gcd_comm]
      · have e0 : turn tab.cds cf hotL tab.sub (.nm 2) gcdB y [some (.int a), some (.int b), o] s = ok (.nx [some (.int b), some (.int (a % b)), some y]) s := by
          simp [gcdB, b105, hq, hpos]
        rw [e0, bind_okS, nextL, e2]
theorem c_gcd {d : Nat} {p q : Int} {s : Sto} (h1 : 1 ≤ q) (h2 : q ≤ 40) : callF (go (d + 1)) 105 [.int p, .int q] s = ok (.int (Int.gcd p q : Nat)) s := by
  refine call_pure rfl (s' := []) ?_ rfl
  rw [go_at (t := f105) rfl rfl]
  obtain ⟨g, o', e1, e2⟩ := gcd_loop (cf := go d) (s := []) (upto 0 60) p q none (by omega) (by rw [upto_length]; omega)
  rw [show f105.body = b105 from rfl]
  unfold b105
  rw [show (List.map some [D.int p, D.int q] ++ List.replicate (f105.nl - f105.np) none : Ev.Env) = [some (.int p), some (.int q), none] from rfl]
  rw [step (env' := [some (.int g), some (.int 0), o']) (s' := []) (by
    simp [rngK_1 (show -1000000 < (60 : Int) ∧ (60 : Int) < 1000000 by decide)]
    exact e2)]
  have e3 : (if g < 0 then -g else g) = ((Int.gcd p q : Nat) : Int) := by
    rw [← e1]
    split <;> omega
  simp [zi_abs, e3]
theorem write_whole_int {d : Nat} {i : Int} {s : Sto} (h : i.natAbs < 10 ^ 9) : callF (go (d + 1)) 13 [.int i] s = ok (.str (decI i)) s := by
  refine call_pure rfl (s' := []) ?_ rfl
  rw [go_at (t := f13) rfl rfl]
  have hl : i.natAbs.log2 < 1920 := by
    by_cases h0 : i.natAbs = 0
    · rw [h0]; decide
    · exact (Nat.log2_lt h0).mpr (Nat.lt_of_lt_of_le h (Nat.le_trans (show 10 ^ 9 ≤ 2 ^ 30 by decide) (Nat.pow_le_pow_right (by decide) (by decide))))
  have hs : biF .str [.int i] [] = some (.str (decI i), []) := by simp only [biF, if_pos hl]
  have a1 : ∀ B : Int, 1000000000 ≤ B → (B ≤ i) = False := fun B hB => eq_false (by omega)
  have a2 : ∀ B : Int, 1000000000 ≤ B → (i ≤ -B) = False := fun B hB => eq_false (by omega)
  simp [f13, b13, a1, a2, hs]
theorem write_frac {d : Nat} {i j : Int} {s : Sto} (hi : i.natAbs < 10 ^ 9) (hj : j.natAbs < 10 ^ 9) : callF (go (d + 2)) 14 [.tup [.int i, .int j]] s = ok (.str (fracT i j)) s := by
  refine call_pure rfl (s' := []) ?_ rfl
  rw [go_at (t := f14) rfl rfl]
  have i0 : ∀ s : Sto, ixF tab.cds (.tup [.int i, .int j]) (.int 0) s = some (.int i) := fun s => rfl
  have i1 : ∀ s : Sto, ixF tab.cds (.tup [.int i, .int j]) (.int 1) s = some (.int j) := fun s => rfl
  have w0 := fun s => write_whole_int (d := d) (s := s) hi
  have w1 := fun s => write_whole_int (d := d) (s := s) hj
  have l1 := decI_len hi
  have l2 := decI_len hj
  have sm1 : Ev.small ((decI i).length + 1) = true := small_le (m := 11) (by omega) (by decide)
  have sm2 : Ev.small ((decI i).length + 1 + (decI j).length) = true := small_le (m := 21) (by omega) (by decide)
  unfold fracT
  cases hq : (j == 1) with
  | true =>
    rw [if_pos (by simpa using hq)]
    simp [f14, b14, i0, i1, w0, w1, hq]
  | false =>
    rw [if_neg (by simpa using hq)]
    simp [f14, b14, i0, i1, w0, w1, hq, binF, sm1, sm2]
theorem str_int {i : Int} (h : i.natAbs < 10 ^ 9) {s : Sto} : biF .str [.int i] s = some (.str (decI i), s) := by
  have hl : i.natAbs.log2 < 1920 := by
    by_cases h0 : i.natAbs = 0
    · rw [h0]; decide
    · exact (Nat.log2_lt h0).mpr (Nat.lt_of_lt_of_le h (Nat.le_trans (show 10 ^ 9 ≤ 2 ^ 30 by decide) (Nat.pow_le_pow_right (by decide) (by decide))))
  simp only [biF, if_pos hl]
theorem add_txt {x y : Txt} {s : Sto} (h : x.length + y.length ≤ 100) : binF .add (.str x) (.str y) s = some (.str (x ++ y), s) := by
  have : Ev.small (x.length + y.length) = true := small_le (m := 100) h (by decide)
  simp only [binF, this, if_true]
abbrev frEnv (p q n : Int) (g i j : Int) (t : Txt) : Ev.Env := [some (.int p), some (.int q), some (.int n), some (.int g), some (.tup [.int i, .int j]), some (.str t), none, none]
theorem fractions_ok {d : Nat} {p q n : Int} (hp : p.natAbs ≤ 1000000) (h1 : 1 ≤ q) (h2 : q ≤ 40) : ∃ s', go (d + 5) 106 [.int p, .int q, .int n] [] = ok (.bl true) s' := by
  obtain ⟨g, hg⟩ : ∃ g : Nat, g = Int.gcd p q := ⟨_, rfl⟩
  have gpos : 0 < g := by rw [hg]; exact Int.gcd_pos_of_ne_zero_right _ (by omega)
  have gp : (g : Int) ∣ p := by rw [hg]; exact Int.gcd_dvd_left ..
  have gq : (g : Int) ∣ q := by rw [hg]; exact Int.gcd_dvd_right ..
  obtain ⟨i, hi0⟩ := gp
  obtain ⟨j, hj0⟩ := gq
  have hgz : (g : Int) ≠ 0 := by omega
  have di : p / (g : Int) = i := by rw [hi0]; exact Int.mul_ediv_cancel_left _ hgz
  have dj : q / (g : Int) = j := by rw [hj0]; exact Int.mul_ediv_cancel_left _ hgz
  have hj1 : 1 ≤ j := by
    have : 0 < (g : Int) * j := by omega
    have := Int.pos_of_mul_pos_right this (by omega)
    omega
  have gle : (g : Int) ≤ q := by
    rw [hj0]
    have := Int.mul_le_mul_of_nonneg_left hj1 (show (0 : Int) ≤ g by omega)
    omega
  have jle : j ≤ q := by
    rw [hj0]
    have := Int.mul_le_mul_of_nonneg_right (show (1 : Int) ≤ g by omega) (show 0 ≤ j by omega)
    omega
  have ile : i.natAbs ≤ 1000000 := by
    have e := congrArg Int.natAbs hi0
    rw [Int.natAbs_mul] at e
    have : i.natAbs ≤ (g : Int).natAbs * i.natAbs := Nat.le_mul_of_pos_left _ (by omega)
    omega
  have cop : Nat.gcd i.natAbs j.natAbs = 1 := by
    have := Int.gcd_ediv_gcd_ediv_gcd (i := p) (j := q) (by omega)
    rw [← hg, di, dj] at this
    exact this
  have bi : i.natAbs < 10 ^ 9 := by omega
  have bj : j.natAbs < 10 ^ 9 := by omega
  have bp : p.natAbs < 10 ^ 9 := by omega
  have bq : q.natAbs < 10 ^ 9 := by omega
  obtain ⟨tx, tl⟩ := fracT_tx bi bj
  have i0 : ∀ s : Sto, ixF tab.cds (.tup [.int i, .int j]) (.int 0) s = some (.int i) := fun s => rfl
  have i1 : ∀ s : Sto, ixF tab.cds (.tup [.int i, .int j]) (.int 1) s = some (.int j) := fun s => rfl
  have same_s : ∀ (x : Txt) (s : Sto), Tx x → callF (go (d + 4)) 98 [.str x, .str x] s = ok (.bl true) s := fun x s h => c_same (by simp only [good]; exact h.cp) (by simp [dp])
  have same_f : ∀ (x : Txt) (s : Sto), Tx x → callF (go (d + 4)) 98 [.tup [.str tFrac, .str x], .tup [.str tFrac, .str x]] s = ok (.bl true) s := fun x s h => c_same (by simp [good, goodL, h.cp, (by decide : cpB tFrac = true)]) (by simp [dp, dpL])
  have same_v : ∀ s : Sto, callF (go (d + 4)) 98 [.tup [.str tTold, .tup [.int i, .int j]], .tup [.str tTold, .tup [.int i, .int j]]] s = ok (.bl true) s := fun s => c_same (by simp [good, goodL, (by decide : cpB tTold = true)]) (by simp [dp, dpL])
  rw [go_at (t := f106) rfl rfl]
  refine ⟨[.lst ((nearL (fracT i j)).map .str)], ?_⟩
  rw [show f106.body = b106 from rfl]
  unfold b106
  rw [show (List.map some [D.int p, D.int q, D.int n] ++ List.replicate (f106.nl - f106.np) none : Ev.Env) = [some (.int p), some (.int q), some (.int n), none, none, none, none, none] from rfl]
  rw [step (env' := [some (.int p), some (.int q), some (.int n), some (.int g), none, none, none, none]) (s' := []) (by simp [c_gcd h1 h2, hg])]
  rw [step (env' := [some (.int p), some (.int q), some (.int n), some (.int g), some (.tup [.int i, .int j]), none, none, none]) (s' := []) (by
    have e1 : binF .fdiv (.int p) (.int g) [] = some (.int i, []) := by rw [zb_div ⟨by omega, by omega⟩, di]
    have e2 : binF .fdiv (.int q) (.int g) [] = some (.int j, []) := by rw [zb_div ⟨by omega, by omega⟩, dj]
    simp [e1, e2])]
  rw [step (env' := frEnv p q n g i j (decI i)) (s' := []) (by simp [i0, str_int bi])]
  have l1 := decI_len bi
  have l2 := decI_len bj
  rw [step (env' := frEnv p q n g i j (fracT i j)) (s' := []) (by
    by_cases hj' : j = 1
    · have h1 : ¬ (1 : Int) < j := by omega
      have ft : fracT i j = decI i := by unfold fracT; rw [if_pos hj']
      rw [ft]
      simp [i1, h1]
    · have h1 : (1 : Int) < j := by omega
      have ft : fracT i j = decI i ++ 47 :: decI j := by unfold fracT; rw [if_neg hj']
      have a1 : ∀ s : Sto, binF .add (.str (decI i)) (.str [47]) s = some (.str (decI i ++ [47]), s) := fun s => add_txt (by simp; omega)
      have a2 : ∀ s : Sto, binF .add (.str (decI i ++ [47])) (.str (decI j)) s = some (.str (decI i ++ 47 :: decI j), s) := fun s => by
        rw [add_txt (by simp; omega)]
        simp
      rw [ft]
      simp [i1, h1, a1, a2, str_int bj])]
  rw [step (env' := frEnv p q n g i j (fracT i j)) (s' := []) (by
    have w := fun s => write_frac (d := d + 2) (s := s) bi bj
    have t := fun s => told_good (d := d) (s := s) (read_T (d := d) bi bj hj1 cop)
    have e := fun s => same_s (fracT i j) s tx
    simp [w, e, t, same_v])]
  rw [step (env' := frEnv p q n g i j (fracT i j)) (s' := []) (by
    by_cases hg1 : (1 : Int) < g
    · have e1 : binF .add (.str (decI p)) (.str [47]) [] = some (.str (decI p ++ [47]), []) := add_txt (by have := decI_len bp; simp; omega)
      have e2 : binF .add (.str (decI p ++ [47])) (.str (decI q)) [] = some (.str (decI p ++ 47 :: decI q), []) := by
        rw [add_txt (by have := decI_len bp; have := decI_len bq; simp; omega)]
        simp
      have hpq := part_at (x := decI p) (y := decI q) (acc := []) decI_47
      have tpq : Tx (decI p ++ 47 :: decI q) := by
        have a := decI_tx bp
        have b := decI_tx bq
        have := decI_len bp
        have := decI_len bq
        refine ⟨?_, by simp; omega⟩
        have ha := a.cp
        have hb := b.cp
        unfold cpB at ha hb ⊢
        rw [List.all_append, List.all_cons, ha, hb]
        rfl
      have rb : go (d + 3) 18 [.str (decI p ++ 47 :: decI q)] [] = some (.exc 3 [.str (decI p ++ 47 :: decI q)] []) := read_bad tpq hpq (.inr (.inr ⟨by simp, p, q, num_dec bp, num_dec bq, .inr (by
        have : Nat.gcd p.natAbs q.natAbs = g := hg.symm
        omega)⟩)) rfl
      have tb := fun s => told_bad (d := d) (s := s) rb
      have sf := fun s => same_f _ s tpq
      simp [hg1, str_int bp, str_int bq, e1, e2, tb, sf]
    · simp [hg1])]
  have nt := near_tx tx tl
  have n1 : ∀ x y : Txt, x.length + y.length ≤ 100 → ∀ s : Sto, binF .add (.str x) (.str y) s = some (.str (x ++ y), s) := fun x y h s => add_txt h
  have nr : 0 ≤ n % 14 ∧ n % 14 < 14 := ⟨by omega, by omega⟩
  obtain ⟨k, hk⟩ := Int.eq_ofNat_of_zero_le nr.1
  have hk14 : k < (nearL (fracT i j)).length := by show k < 14; omega
  obtain ⟨x, hx⟩ : ∃ x, (nearL (fracT i j))[k]? = some x := ⟨_, List.getElem?_eq_getElem hk14⟩
  have hm := List.mem_of_getElem? hx
  have ixn : ixF tab.cds (.ref 0) (.int (n % 14)) [.lst ((nearL (fracT i j)).map .str)] = some (.str x) := by
    rw [hk]
    simp only [ixF, List.getElem?_cons_zero]
    rw [at_nat, List.getElem?_map, hx]
    rfl
  have near_bad' : ∀ x ∈ nearL (fracT i j), go (d + 3) 18 [.str x] [] = some (.exc 3 [.str x] []) := near_bad bi bj hj1
  generalize fracT i j = T at *
  rw [step (env' := [some (.int p), some (.int q), some (.int n), some (.int g), some (.tup [.int i, .int j]), some (.str T), some (.ref 0), none]) (s' := [.lst ((nearL T).map .str)]) (by
    have m := fun x y h => n1 x y h []
    simp [m T [47, 49] (by simp; omega), m [48] T (by simp; omega), m [32] T (by simp; omega), m T [32] (by simp; omega), m [43] T (by simp; omega), nearL])]
  rw [step (env' := [some (.int p), some (.int q), some (.int n), some (.int g), some (.tup [.int i, .int j]), some (.str T), some (.ref 0), some (.str x)]) (s' := [.lst ((nearL T).map .str)]) (by simp [ixn])]
  have rb : go (d + 3) 18 [.str x] [] = some (.exc 3 [.str x] []) := near_bad' x hm
  have tb := fun s => told_bad (d := d) (s := s) rb
  have sf := fun s => same_f x s (nt x hm).1
  simp [tb, sf]
end K91
end
section
set_option Elab.async false
set_option linter.all false
set_option maxRecDepth 100000
set_option autoImplicit false
namespace K91
open PySem Ev
/-! ### the shelf's rows -/
structure Row where
  r : Nat
  x : Txt
  l : Int
deriving DecidableEq
def kT : List Txt := [[100, 114, 97, 119, 105, 110, 103], [98, 105, 108, 108], [114, 111, 117, 116, 105, 110, 103], [109, 97, 99, 104, 105, 110, 101], [116, 111, 111, 108], [112, 101, 114, 115, 111, 110], [103, 97, 117, 103, 101], [112, 114, 105, 99, 101], [99, 104, 97, 110, 103, 101]]
def kindT (r : Nat) : Txt := kT.getD r []
structure Row.Ok (q : Row) : Prop where
  r : q.r < 9
  x : cpB q.x = true
  xl : q.x.length ≤ 10
theorem kind_inj {r r' : Nat} (h : r < 9) (h' : r' < 9) (e : kindT r = kindT r') : r = r' := by
  have : ∀ a < 9, ∀ b < 9, kindT a = kindT b → a = b := by decide
  exact this r h r' h' e
theorem kind_cp {r : Nat} (h : r < 9) : cpB (kindT r) = true := by
  have : ∀ a < 9, cpB (kindT a) = true := by decide
  exact this r h
def rowD (q : Row) : D := .tup [.int q.r, .str q.x, .int q.l]
def keyD (q : Row) : D := .tup [.str (kindT q.r), .str q.x, .int q.l]
def keyK (q : Row) : List K1 := [.inr (kindT q.r), .inr q.x, .inl q.l]
def rowP (q : Row) : PyData := .tuple [.int q.r, .str ⟨q.x.toArray⟩, .int q.l]
theorem keyK_d (q : Row) : D.tup ((keyK q).map K1.d) = keyD q := rfl
theorem keyK_inj {q q' : Row} (h : q.Ok) (h' : q'.Ok) (e : keyK q = keyK q') : q = q' := by
  obtain ⟨r, x, l⟩ := q
  obtain ⟨r', x', l'⟩ := q'
  simp only [keyK, List.cons.injEq, Sum.inr.injEq, Sum.inl.injEq, and_true] at e
  obtain ⟨e1, e2, e3⟩ := e
  have e1 : r = r' := kind_inj h.r h'.r e1
  rw [e1, e2, e3]
theorem str_ok {x : Txt} (h : cpB x = true) : PyData.strOk ⟨x.toArray⟩ = true := by
  unfold PyData.strOk
  simp only [List.all_toArray]
  exact h
theorem toP_row (rf : Nat → Option PyData) (q : Row) : (rowD q).toP rf = some (rowP q) := by
  simp only [rowD, D.toP, toPL, rowP, Option.map_some]
theorem lay_row {q : Row} (h : q.Ok) : (rowP q).canLay0 = true := by
  simp only [rowP, PyData.canLay0, PyData.canLayAll0, str_ok h.x, Bool.and_self]
theorem depth_row (q : Row) : (rowP q).depth = 1 := by
  simp [rowP, PyData.depth, PyData.depthAll]
theorem data_row {q : Row} (h : q.Ok) {s : Sto} : toData s (rowD q) = some (rowP q) := by
  have e : SeqAt.shaped (rowP q) = true := by
    unfold SeqAt.shaped
    rw [lay_row h, depth_row]
    rfl
  unfold toData
  rw [toP_row]
  simp only [e, if_true]
theorem toPL_rows (rf : Nat → Option PyData) : ∀ R : List Row, toPL rf (R.map rowD) = some (R.map rowP)
  | [] => rfl
  | q :: R => by simp only [List.map_cons, toPL, toP_row, toPL_rows rf R]
theorem lay_rows {R : List Row} (h : ∀ q ∈ R, q.Ok) : PyData.canLayAll0 (R.map rowP) = true := by
  induction R with
  | nil => rfl
  | cons q R ih => simp only [List.map_cons, PyData.canLayAll0, lay_row (h q (List.mem_cons_self ..)), ih fun p hp => h p (List.mem_cons_of_mem _ hp), Bool.and_self]
theorem depth_rows (R : List Row) : PyData.depthAll (R.map rowP) ≤ 1 := by
  induction R with
  | nil => simp [PyData.depthAll]
  | cons q R ih =>
    simp only [List.map_cons, PyData.depthAll, depth_row]
    omega
theorem data_rows {R : List Row} (h : ∀ q ∈ R, q.Ok) {s : Sto} {a : Nat} (hs : s[a]? = some (.lst (R.map rowD))) : toData s (.ref a) = some (.list (R.map rowP)) := by
  have e : SeqAt.shaped (.list (R.map rowP)) = true := by
    have d := depth_rows R
    show (PyData.canLayAll0 (R.map rowP) && decide (PyData.depthAll (R.map rowP) + 1 ≤ 64)) = true
    rw [lay_rows h, decide_eq_true (show PyData.depthAll (R.map rowP) + 1 ≤ 64 by omega)]
    rfl
  unfold toData
  simp only [D.toP, rfN, hs, toPL_rows, Option.map_some, e, if_true]
theorem eqv_row {q q' : Row} : PyData.eqv (rowP q) (rowP q') = decide (q = q') := by
  have e : PyData.eqv (rowP q) (rowP q') = ((q.r : Int) == q'.r && (decide (q.x = q'.x) && (q.l == q'.l && true))) := by
    rw [← eqv_txt]
    rfl
  rw [e]
  obtain ⟨r, x, l⟩ := q
  obtain ⟨r', x', l'⟩ := q'
  rw [Bool.eq_iff_iff]
  simp only [Bool.and_eq_true, beq_iff_eq, decide_eq_true_eq, and_true, Row.mk.injEq]
  constructor
  · rintro ⟨a, b, c⟩; exact ⟨by omega, b, c⟩
  · rintro ⟨a, b, c⟩; exact ⟨by omega, b, c⟩
theorem in_rows {q : Row} {R : List Row} (hq : q.Ok) (h : ∀ q ∈ R, q.Ok) {s : Sto} {a : Nat} (hs : s[a]? = some (.lst (R.map rowD))) : inF tab.cds (rowD q) (.ref a) s = some (decide (q ∈ R)) := by
  have e : ((R.map rowP).any fun z => PyData.eqv z (rowP q)) = decide (q ∈ R) := by
    clear h hs
    induction R with
    | nil => rfl
    | cons p R ih =>
      rw [List.map_cons, List.any_cons, ih, eqv_row]
      by_cases hp : p = q
      · simp [hp]
      · have : ¬ q = p := fun e => hp e.symm
        simp [hp, this]
  have d1 := data_row hq (s := s)
  have d2 := data_rows h hs
  unfold rowD at d1 ⊢
  simp only [inF, hs, D.flat, Bool.false_and, Bool.false_eq_true, if_false, d1, d2, e]
/-! ### the shop -/
/-- the nine records -/
def recs : List D := match go 18 107 [] [] with
  | some (.ok _ [.lst xs]) => xs
  | _ => []
def isRecs : O D → Bool
  | some (.ok (.ref 0) [.lst _]) => true
  | _ => false
theorem recs_run : go 18 107 [] [] = ok (.ref 0) [.lst recs] := by
  have h : isRecs (go 18 107 [] []) = true := by decide +kernel
  unfold recs
  generalize go 18 107 [] [] = r at h ⊢
  unfold isRecs at h
  split at h
  · rfl
  · cases h
def bodyD (r : Nat) : D := match recs[r]? with
  | some (.tup [_, b]) => b
  | _ => .non
def recOk (r : Nat) : Bool := match recs[r]? with
  | some (.tup [.tup [.str k, .str _, .int _], b]) => decide (k = kindT r) && (good b && Nat.ble (dp b) 8)
  | _ => false
theorem recs_ok : ((List.range 9).all recOk) = true := by decide +kernel
theorem rec_at {r : Nat} (h : r < 9) : ∃ k : D, recs[r]? = some (.tup [k, bodyD r]) ∧ good (bodyD r) = true ∧ dp (bodyD r) ≤ 8 := by
  have := List.all_eq_true.mp recs_ok r (List.mem_range.mpr h)
  unfold recOk at this
  split at this
  · rename_i k x i b e
    simp only [Bool.and_eq_true] at this
    have eb : bodyD r = b := by unfold bodyD; rw [e]
    rw [eb]
    exact ⟨_, e, this.2.1, Nat.le_of_ble_eq_true this.2.2⟩
  · cases this
def shopO (R : List Row) : Ob := if R = [] then .dK [] else .dT (R.map fun q => (keyK q, bodyD q.r))
theorem shop_put {R : List Row} {q : Row} (hq : q.Ok) (h : ∀ q ∈ R, q.Ok) (hl : R.length ≤ 1000) (hn : q ∉ R) : dput (shopO R) (keyD q) (bodyD q.r) = some (shopO (R ++ [q])) := by
  cases R with
  | nil => rfl
  | cons p R =>
    have hsm : Ev.small ((p :: R).map fun q => (keyK q, bodyD q.r)).length = true := small_le (m := 1000) (by simpa using hl) (by decide)
    have hp : Ev.put ((p :: R).map fun q => (keyK q, bodyD q.r)) (keyK q) (bodyD q.r) = ((p :: R) ++ [q]).map fun q => (keyK q, bodyD q.r) := by
      unfold Ev.put
      rw [if_neg]
      · simp
      · intro e
        obtain ⟨z, hz, e2⟩ := List.any_eq_true.mp e
        obtain ⟨w, hw, rfl⟩ := List.mem_map.mp hz
        have e3 := of_decide_eq_true e2
        have := keyK_inj (h w hw) hq e3
        subst this
        exact hn hw
    show (if Ev.small ((p :: R).map fun q => (keyK q, bodyD q.r)).length = true then _ else none) = _
    rw [if_pos hsm]
    show some (Ob.dT (Ev.put ((p :: R).map fun q => (keyK q, bodyD q.r)) (keyK q) (bodyD q.r))) = _
    rw [hp]
    rfl
theorem shop_keys (R : List Row) : keysOf (shopO R) = some (R.map keyD) := by
  cases R with
  | nil => rfl
  | cons p R =>
    show some (((p :: R).map fun q => (keyK q, bodyD q.r)).map fun p => D.tup (p.1.map K1.d)) = _
    rw [List.map_map]
    rfl
theorem shop_get {R : List Row} {q : Row} (h : ∀ q ∈ R, q.Ok) (hq : q ∈ R) : dget (shopO R) (keyD q) = some (some (bodyD q.r)) := by
  cases R with
  | nil => cases hq
  | cons p R =>
    show some (look ((p :: R).map fun q => (keyK q, bodyD q.r)) (keyK q)) = _
    congr 1
    unfold look
    have hqo := h q hq
    generalize p :: R = L at *
    induction L with
    | nil => cases hq
    | cons p L ih =>
      rw [List.map_cons, List.find?_cons]
      by_cases e : keyK p = keyK q
      · have := keyK_inj (h p (List.mem_cons_self ..)) hqo e
        subst this
        simp
      · simp only [e, decide_false]
        refine ih (fun q hq => h q (List.mem_cons_of_mem _ hq)) ?_
        rcases List.mem_cons.mp hq with e2 | e2
        · subst e2; exact absurd rfl e
        · exact e2
end K91
end
section
set_option Elab.async false
set_option linter.all false
set_option maxRecDepth 100000
set_option autoImplicit false
namespace K91
open PySem Ev
/-! ### the shelf is filled -/
structure Sh (s0 : Sto) (R : List Row) (s : Sto) : Prop where
  len : s0.length + 4 ≤ s.length
  kp : ∀ b, b < s0.length → s[b]? = s0[b]?
  knd : s[s0.length]? = some (.lst (kT.map .str))
  shp : s[s0.length + 1]? = some (shopO R)
  row : s[s0.length + 2]? = some (.lst (R.map rowD))
  rcs : s[s0.length + 3]? = some (.lst recs)
theorem app_at {s t : Sto} {b : Nat} (h : b < s.length) : (s ++ t)[b]? = s[b]? := List.getElem?_append_left h
theorem Sh.app {s0 s t : Sto} {R : List Row} (h : Sh s0 R s) : Sh s0 R (s ++ t) := by
  have := h.len
  refine ⟨by simp; omega, fun b hb => ?_, ?_, ?_, ?_, ?_⟩
  · rw [app_at (by omega)]; exact h.kp b hb
  · rw [app_at (by omega)]; exact h.knd
  · rw [app_at (by omega)]; exact h.shp
  · rw [app_at (by omega)]; exact h.row
  · rw [app_at (by omega)]; exact h.rcs
theorem Sh.add {s0 s : Sto} {R : List Row} {q : Row} (h : Sh s0 R s) : Sh s0 (R ++ [q]) ((s.set (s0.length + 2) (.lst (R.map rowD ++ [rowD q]))).set (s0.length + 1) (shopO (R ++ [q]))) := by
  have hl := h.len
  refine ⟨by simp; omega, fun b hb => ?_, ?_, ?_, ?_, ?_⟩
  · rw [List.getElem?_set_ne (by omega), List.getElem?_set_ne (by omega)]; exact h.kp b hb
  · rw [List.getElem?_set_ne (by omega), List.getElem?_set_ne (by omega)]; exact h.knd
  · rw [List.getElem?_set_self (by simp; omega)]
  · rw [List.getElem?_set_ne (by omega), List.getElem?_set_self (by omega)]
    simp
  · rw [List.getElem?_set_ne (by omega), List.getElem?_set_ne (by omega)]; exact h.rcs
theorem putF_shop {s : Sto} {a : Nat} {R : List Row} {q : Row} (hs : s[a]? = some (shopO R)) (hq : q.Ok) (h : ∀ q ∈ R, q.Ok) (hl : R.length ≤ 1000) (hn : q ∉ R) : putF (.ref a) (keyD q) (bodyD q.r) s = some (s.set a (shopO (R ++ [q]))) := by
  have e := shop_put hq h hl hn
  cases R with
  | nil =>
    have hs : s[a]? = some (.dK []) := hs
    simp only [putF, hs]
    rw [show (Ob.dK []) = shopO [] from rfl, e]
    rfl
  | cons p R =>
    have hs' : s[a]? = some (.dT ((p :: R).map fun q => (keyK q, bodyD q.r))) := hs
    simp only [putF, hs']
    rw [show (Ob.dT ((p :: R).map fun q => (keyK q, bodyD q.r))) = shopO (p :: R) from rfl, e]
    rfl
abbrev nm4 : List Txt := [[97], [97, 49], [98], [97, 98]]
theorem nm_at {i : Int} (h1 : 0 ≤ i) (h2 : i < 4) {s : Sto} : ∃ x, cpB x = true ∧ x.length ≤ 10 ∧ ixF tab.cds (.ref s.length) (.int i) (s ++ [.lst [.str [97], .str [97, 49], .str [98], .str [97, 98]]]) = some (.str x) := by
  obtain ⟨k, rfl⟩ := Int.eq_ofNat_of_zero_le h1
  have hk : k < nm4.length := by show k < 4; omega
  refine ⟨nm4[k], ?_, ?_, ?_⟩
  · have : ∀ x ∈ nm4, cpB x = true := by decide
    exact this _ (List.getElem_mem hk)
  · have : ∀ x ∈ nm4, x.length ≤ 10 := by decide
    exact this _ (List.getElem_mem hk)
  · have e : (nm4.map D.str)[k]? = some (.str nm4[k]) := by rw [List.getElem?_map, List.getElem?_eq_getElem hk]; rfl
    simp [ixF, at_nat]
    exact e
abbrev shB : Ss := match b109 with
  | .cons _ (.cons _ (.cons _ (.cons _ (.cons (.for _ _ b) _)))) => b
  | _ => .nil
abbrev shEnv (a N : Nat) (o5 o8 o9 o10 : Option D) : Ev.Env := [some (.ref a), some (.ref N), some (.ref (N + 1)), some (.ref (N + 2)), some (.ref (N + 3)), o5, none, none, o8, o9, o10, none, none, none]
theorem fill_turn {cf : CF} {a k : Nat} {ns : List Int} {s0 s : Sto} {R : List Row} {o5 o8 o9 o10 : Option D} (hs : Sh s0 R s) (hR : ∀ q ∈ R, q.Ok) (hl : R.length ≤ k) (hk : k < 12) (ha : s0[a]? = some (.lst (ns.map .int))) (hn : ns.length = 20) (hr : ∀ n ∈ ns, 0 ≤ n ∧ n < 1000) :
    ∃ R' s' p8 p9 p10, Sh s0 R' s' ∧ (∀ q ∈ R', q.Ok) ∧ R'.length ≤ k + 1 ∧ turn tab.cds cf hotL tab.sub (.nm 5) shB (.int k) (shEnv a s0.length o5 o8 o9 o10) s = ok (.nx (shEnv a s0.length (some (.int k)) p8 p9 p10)) s' := by
  have haN : a < s0.length := (List.getElem?_eq_some_iff.mp ha).1
  have hlk : k + 1 < ns.length := by omega
  obtain ⟨m, hm⟩ : ∃ m, ns[k + 1]? = some m := ⟨_, List.getElem?_eq_getElem hlk⟩
  obtain ⟨m0, m1⟩ := hr m (List.mem_of_getElem? hm)
  have ixn : ∀ t : Sto, (∀ b, b < s0.length → t[b]? = s0[b]?) → ixF tab.cds (.ref a) (.int ((k : Int) + 1)) t = some (.int m) := fun t ht => by
    have : ((k : Int) + 1) = ((k + 1 : Nat) : Int) := by omega
    simp only [ixF, ht a haN, ha]
    rw [this, at_nat, List.getElem?_map, hm]
    rfl
  obtain ⟨x, x1, x2, x3⟩ := nm_at (i := m / 9 % 4) (s := s) (by omega) (by omega)
  obtain ⟨r, hrk⟩ := Int.eq_ofNat_of_zero_le (show 0 ≤ m % 9 by omega)
  have hr9 : r < 9 := by omega
  obtain ⟨l, hll⟩ : ∃ l : Int, l = if m % 9 < 3 then 1 + m / 36 % 12 else 0 := ⟨_, rfl⟩
  obtain ⟨s1, hs1⟩ : ∃ s1 : Sto, s1 = s ++ [.lst [.str [97], .str [97, 49], .str [98], .str [97, 98]]] := ⟨_, rfl⟩
  have S1 : Sh s0 R s1 := by rw [hs1]; exact hs.app
  rw [← hs1] at x3
  have qok : (Row.mk r x l).Ok := ⟨hr9, x1, x2⟩
  have st1 : evS tab.cds cf hotL tab.sub (.asg (.nm 8) (.bin .mod (.bi .int (.cons (.ix (.var 0) (.bin .add (.var 5) (.cst (.int 1)))) .nil)) (.cst (.int 9)))) (shEnv a s0.length (some (.int k)) o8 o9 o10) s = ok (.nx (shEnv a s0.length (some (.int k)) (some (.int (m % 9))) o9 o10)) s := by
    simp [shEnv, ixn s hs.kp]
  have st2 : evS tab.cds cf hotL tab.sub (.asg (.nm 9) (.ix (.lst (.cons (.cst (.str [97])) (.cons (.cst (.str [97, 49])) (.cons (.cst (.str [98])) (.cons (.cst (.str [97, 98])) .nil))))) (.bin .mod (.bin .fdiv (.bi .int (.cons (.ix (.var 0) (.bin .add (.var 5) (.cst (.int 1)))) .nil)) (.cst (.int 9))) (.cst (.int 4))))) (shEnv a s0.length (some (.int k)) (some (.int (m % 9))) o9 o10) s = ok (.nx (shEnv a s0.length (some (.int k)) (some (.int (m % 9))) (some (.str x)) o10)) s1 := by
    have e := ixn s1 S1.kp
    rw [hs1] at e x3 ⊢
    simp [shEnv, e, zb_div, x3]
  have st3 : ∀ o10, evS tab.cds cf hotL tab.sub (.asg (.nm 10) (.cst (.int 0))) (shEnv a s0.length (some (.int k)) (some (.int (m % 9))) (some (.str x)) o10) s1 = ok (.nx (shEnv a s0.length (some (.int k)) (some (.int (m % 9))) (some (.str x)) (some (.int 0)))) s1 := fun o10 => by
    simp [shEnv]
  have st4 : evS tab.cds cf hotL tab.sub (.ite (.cmp .lt (.var 8) (.cst (.int 3))) (.cons (.asg (.nm 10) (.bin .add (.cst (.int 1)) (.bin .mod (.bin .fdiv (.bi .int (.cons (.ix (.var 0) (.bin .add (.var 5) (.cst (.int 1)))) .nil)) (.cst (.int 36))) (.cst (.int 12))))) .nil) .nil) (shEnv a s0.length (some (.int k)) (some (.int (m % 9))) (some (.str x)) (some (.int 0))) s1 = ok (.nx (shEnv a s0.length (some (.int k)) (some (.int (m % 9))) (some (.str x)) (some (.int l)))) s1 := by
    have e := ixn s1 S1.kp
    by_cases h3 : m % 9 < 3
    · rw [if_pos h3] at hll
      rw [hll]
      simp [shEnv, e, zb_div, h3]
    · rw [if_neg h3] at hll
      rw [hll]
      simp [shEnv, h3]
  have hin := in_rows qok hR S1.row
  rw [turn_nm]
  show ∃ R' s' p8 p9 p10, Sh s0 R' s' ∧ (∀ q ∈ R', q.Ok) ∧ R'.length ≤ k + 1 ∧ evSs tab.cds cf hotL tab.sub (.cons _ (.cons _ (.cons _ (.cons _ (.cons _ .nil))))) (shEnv a s0.length (some (.int k)) o8 o9 o10) s = _
  by_cases hq : (Row.mk r x l) ∈ R
  · refine ⟨R, s1, some (.int (m % 9)), some (.str x), some (.int l), S1, hR, by omega, ?_⟩
    rw [step st1, step st2, step (st3 _), step st4]
    rw [decide_eq_true hq] at hin
    simp only [rowD] at hin
    simp [shEnv, hrk, hin]
  · obtain ⟨s2, hs2⟩ : ∃ s2 : Sto, s2 = s1.set (s0.length + 2) (.lst (R.map rowD ++ [rowD ⟨r, x, l⟩])) := ⟨_, rfl⟩
    refine ⟨R ++ [⟨r, x, l⟩], s2.set (s0.length + 1) (shopO (R ++ [⟨r, x, l⟩])), some (.int (m % 9)), some (.str x), some (.int l), by rw [hs2]; exact S1.add, fun q hm => ?_, by simp; omega, ?_⟩
    · rcases List.mem_append.mp hm with hm | hm
      · exact hR q hm
      · simp only [List.mem_cons, List.not_mem_nil, or_false] at hm
        subst hm
        exact qok
    · rw [step st1, step st2, step (st3 _), step st4]
      rw [decide_eq_false hq] at hin
      simp only [rowD] at hin
      have hl1 := S1.len
      have hrow := S1.row
      have m1' : metK tab.cds cf .append (.cons (.tup (.cons (.var 8) (.cons (.var 9) (.cons (.var 10) .nil)))) .nil) (shEnv a s0.length (some (.int k)) (some (.int r)) (some (.str x)) (some (.int l))) (.ref (s0.length + 2)) s1 = ok .non s2 := by
        have sm : Ev.small (R.map rowD).length = true := small_le (m := 12) (by simp; omega) (by decide)
        rw [metK_t (by simp only [recv, hrow])]
        simp only [List.length_map] at sm
        simp [shEnv, metF, hrow, sm, hs2, rowD]
      obtain ⟨kd, rec1, _, _⟩ := rec_at hr9
      have g1 : s2[s0.length + 3]? = some (.lst recs) := by rw [hs2, List.getElem?_set_ne (by omega)]; exact S1.rcs
      have g2 : s2[s0.length]? = some (.lst (kT.map .str)) := by rw [hs2, List.getElem?_set_ne (by omega)]; exact S1.knd
      have g3 : s2[s0.length + 1]? = some (shopO R) := by rw [hs2, List.getElem?_set_ne (by omega)]; exact S1.shp
      have ixr : ixF tab.cds (.ref (s0.length + 3)) (.int r) s2 = some (.tup [kd, bodyD r]) := by simp only [ixF, g1, at_nat, rec1]
      have ixb : ixF tab.cds (.tup [kd, bodyD r]) (.int 1) s2 = some (bodyD r) := rfl
      have ixk : ixF tab.cds (.ref s0.length) (.int r) s2 = some (.str (kindT r)) := by
        have : r < kT.length := hr9
        simp only [ixF, g2, at_nat, List.getElem?_map]
        unfold kindT
        rw [List.getD_eq_getElem?_getD, List.getElem?_eq_getElem this]
        rfl
      have pt := putF_shop g3 qok hR (by omega) hq
      simp only [keyD] at pt
      have hrk' : m % 9 = (r : Int) := hrk
      rw [hrk'] at *
      simp [shEnv, hin]
      simp only [shEnv] at m1'
      rw [m1']
      simp [ixr, ixb, ixk, putK3_some pt]
end K91
end
section
set_option Elab.async false
set_option linter.all false
set_option maxRecDepth 100000
set_option autoImplicit false
namespace K91
open PySem Ev
theorem fill_loop {cf : CF} {a : Nat} {ns : List Int} {s0 : Sto} (ha : s0[a]? = some (.lst (ns.map .int))) (hn : ns.length = 20) (hr : ∀ n ∈ ns, 0 ≤ n ∧ n < 1000) : ∀ (m j : Nat) (R : List Row) (s : Sto) (o5 o8 o9 o10 : Option D), j + m ≤ 12 → Sh s0 R s → (∀ q ∈ R, q.Ok) → R.length ≤ j →
    ∃ R' s' p5 p8 p9 p10, Sh s0 R' s' ∧ (∀ q ∈ R', q.Ok) ∧ R'.length ≤ 12 ∧ loopL (turn tab.cds cf hotL tab.sub (.nm 5) shB) (upto j m) (shEnv a s0.length o5 o8 o9 o10) s = ok (.nx (shEnv a s0.length p5 p8 p9 p10)) s'
  | 0, j, R, s, o5, o8, o9, o10, hj, h1, h2, h3 => ⟨R, s, o5, o8, o9, o10, h1, h2, by omega, rfl⟩
  | m + 1, j, R, s, o5, o8, o9, o10, hj, h1, h2, h3 => by
    obtain ⟨R1, s1, p8, p9, p10, k1, k2, k3, k4⟩ := fill_turn (cf := cf) (k := j) (o5 := o5) (o8 := o8) (o9 := o9) (o10 := o10) h1 h2 h3 (by omega) ha hn hr
    obtain ⟨R2, s2, q5, q8, q9, q10, l1, l2, l3, l4⟩ := fill_loop (cf := cf) ha hn hr m (j + 1) R1 s1 (some (.int j)) p8 p9 p10 (by omega) k1 k2 k3
    refine ⟨R2, s2, q5, q8, q9, q10, l1, l2, l3, ?_⟩
    rw [upto, loopL, k4, bind_okS, nextL, ← l4]
    rfl
/-! ### sorting -/
def rle (q q' : Row) : Bool := dle (rowD q) (rowD q')
theorem enc_row (q : Row) : encD (rowD q) = rowP q := by
  unfold encD
  rw [toP_row]
  rfl
theorem sort_ok {R : List Row} (hl : R.length ≤ 1000) : sortOk (R.map rowD) = true := by
  have sm : Ev.small (R.map rowD).length = true := small_le (m := 1000) (by simpa using hl) (by decide)
  unfold sortOk
  simp only [Bool.and_eq_true, Bool.or_eq_true, List.all_eq_true, List.mem_map, forall_exists_index, and_imp, forall_apply_eq_imp_iff₂]
  refine ⟨⟨⟨fun q _ => ?_, fun q _ q' _ => ?_⟩, .inl fun q _ => ?_⟩, sm⟩
  · rw [toP_row, enc_row, depth_row]
    exact ⟨rfl, rfl⟩
  · rw [enc_row, enc_row]
    simp [rowP, PySem.W.alike, PySem.W.alikeAll]
  · rw [enc_row]
    rfl
theorem sort_rows {R : List Row} (hl : R.length ≤ 1000) : sortF (R.map rowD) = some ((isort rle R).map rowD) := by
  unfold sortF
  rw [if_pos (sort_ok hl), isort_map rowD rle dle (fun _ _ => rfl)]
theorem zip_maps {α β γ : Type} (f : α → β) (g : α → γ) : ∀ l : List α, (l.map f).zip (l.map g) = l.map fun x => (f x, g x)
  | [] => rfl
  | x :: l => by simp [zip_maps f g l]
theorem sort_keyed (R : List Row) : (isort (fun p q : D × D => dle p.1 q.1) ((R.map rowD).zip (R.map keyD))).map (·.2) = (isort rle R).map keyD := by
  rw [zip_maps, ← isort_map (fun q : Row => (rowD q, keyD q)) rle (fun p q : D × D => dle p.1 q.1) (fun _ _ => rfl), List.map_map]
  rfl
theorem rank_at {r : Nat} (h : r < 9) : findT (kindT r) kT 0 = some r := by
  have : ∀ a < 9, findT (kindT a) kT 0 = some a := by decide
  exact this r h
theorem key_rank {d : Nat} {q : Row} (h : q.Ok) : go (d + 1) 46 [keyD q] [] = ok (rowD q) [] := by
  rw [go_at (t := f46) rfl rfl]
  have hf := rank_at h.r
  have i0 : ∀ s : Sto, ixF tab.cds (keyD q) (.int 0) s = some (.str (kindT q.r)) := fun s => rfl
  have i1 : ∀ s : Sto, ixF tab.cds (keyD q) (.int 1) s = some (.str q.x) := fun s => rfl
  have i2 : ∀ s : Sto, ixF tab.cds (keyD q) (.int 2) s = some (.int q.l) := fun s => rfl
  have mi : metF .index (.frz true (kT.map .str)) [.str (kindT q.r)] [] = some (.int q.r, []) := by
    have st : strsOf (kT.map D.str) = some kT := rfl
    simp only [metF, st, hf, Option.map_some]
  have mk : metK tab.cds (go d) .index (.cons (.ix (.var 0) (.cst (.int 0))) .nil) [some (keyD q)] (.frz true (kT.map .str)) [] = ok (.int q.r) [] := by
    rw [metK_t rfl]
    simp [i0, mi]
  rw [show f46.body = b46 from rfl]
  unfold b46
  have e : (E.met .index (.cst (.frz true [(.str [100, 114, 97, 119, 105, 110, 103]), (.str [98, 105, 108, 108]), (.str [114, 111, 117, 116, 105, 110, 103]), (.str [109, 97, 99, 104, 105, 110, 101]), (.str [116, 111, 111, 108]), (.str [112, 101, 114, 115, 111, 110]), (.str [103, 97, 117, 103, 101]), (.str [112, 114, 105, 99, 101]), (.str [99, 104, 97, 110, 103, 101])])) (.cons (.ix (.var 0) (.cst (.int 0))) .nil)) = E.met .index (.cst (.frz true (kT.map .str))) (.cons (.ix (.var 0) (.cst (.int 0))) .nil) := rfl
  rw [e, show (List.map some [keyD q] ++ List.replicate (f46.nl - f46.np) none : Ev.Env) = [some (keyD q)] from rfl]
  generalize kT.map D.str = kk at mk ⊢
  simp [mk, i1, i2, rowD]
theorem keysF_rank {d : Nat} : ∀ {R : List Row}, (∀ q ∈ R, q.Ok) → keysF (go (d + 1)) 46 (R.map keyD) = some (R.map rowD)
  | [], _ => rfl
  | q :: R, h => by
    have h1 := key_rank (d := d) (h q (List.mem_cons_self ..))
    have h2 := keysF_rank (d := d) (R := R) fun p hp => h p (List.mem_cons_of_mem _ hp)
    have p1 : pureL [keyD q] = true := rfl
    have p2 : (rowD q).pure = true := rfl
    simp only [List.map_cons, keysF, p1, h1, h2, ok, p2, if_true]
theorem dictOf_shop {R : List Row} {i a : Nat} {env : Ev.Env} {s : Sto} (hv : env[i]? = some (some (.ref a))) (hs : s[a]? = some (shopO R)) : dictOf (.seq (.var i)) env s = some (a, shopO R, R.map keyD) := by
  simp only [dictOf, hv, hs, shop_keys, Option.map_some]
theorem filterMap_some {α : Type} (l : List α) : l.filterMap some = l := by simp
theorem sorted_keys_ok {d a : Nat} {R : List Row} {s : Sto} (hs : s[a]? = some (shopO R)) (h : ∀ q ∈ R, q.Ok) (hl : R.length ≤ 1000) : go (d + 2) 47 [.ref a] s = ok (.ref (s.length + 1)) (s ++ [.lst (R.map keyD), .lst ((isort rle R).map keyD)]) := by
  rw [go_at (t := f47) rfl rfl]
  rw [show f47.body = b47 from rfl]
  unfold b47
  rw [show (List.map some [D.ref a] ++ List.replicate (f47.nl - f47.np) none : Ev.Env) = [some (.ref a), none] from rfl]
  have e1 := e_compD (cds := tab.cds) (cf := go (d + 1)) (e := .var 1) (t := .nm 1) (src := .seq (.var 0)) (cond := .none) (own := [1]) (env := [some (.ref a), none]) (s := s) (f := some) (dictOf_shop rfl hs) hs (fun x _ => by rw [compG_n]; simp [wipeE]) (by simpa using Nat.le_trans hl (by decide))
  rw [filterMap_some] at e1
  have e2 := srtK_ok (cf := go (d + 1)) (f := 46) (a := s.length) (xs := R.map keyD) (ks := R.map rowD) (s := s ++ [.lst (R.map keyD)]) (by simp) (keysF_rank h) (sort_ok hl)
  rw [sort_keyed] at e2
  simp [e1, e2]
end K91
end
section
set_option Elab.async false
set_option linter.all false
set_option maxRecDepth 100000
set_option autoImplicit false
namespace K91
open PySem Ev
def sel (κ : Nat) (x : Txt) (q : Row) : Bool := decide (q.r = κ) && decide (q.x = x)
def ile (a b : Int) : Bool := decide (a ≤ b)
theorem dle_int (a b : Int) : dle (.int a) (.int b) = ile a b := by
  unfold dle ile
  rw [PySem.W.dataLe_eq]
  show (!PySem.W.dataLt (.int b) (.int a)) = _
  rw [PySem.W.dataLt_int, PySem.W.not_lt_int]
theorem rle_sel {q q' : Row} (h1 : q.r = q'.r) (h2 : q.x = q'.x) : rle q q' = ile q.l q'.l := by
  unfold rle dle ile
  rw [PySem.W.dataLe_eq]
  show (!PySem.W.dataLt (encD (rowD q')) (encD (rowD q))) = _
  rw [enc_row, enc_row]
  unfold rowP
  rw [PySem.W.dataLt_tuple, PySem.W.dataLt_cons (by simp [PySem.W.alike]), h1, if_pos (by simp [PyData.eqv]), PySem.W.dataLt_cons (by simp [PySem.W.alike]), h2, if_pos (by simp [PyData.eqv]), PySem.W.dataLt_cons (by simp [PySem.W.alike])]
  have e0 : PyProof.Rows.lexLt PyProof.Rows.itemOrd (PySem.W.keyToksAll []) (PySem.W.keyToksAll []) = false := PyProof.Rows.lex_irrefl _
  rw [e0, PySem.W.dataLt_int]
  simp only [PyData.eqv, beq_iff_eq]
  by_cases h : q'.l = q.l
  · rw [if_pos h, h]
    simp
  · rw [if_neg h]
    by_cases h2 : q'.l < q.l
    · rw [decide_eq_true h2, decide_eq_false (by omega)]
      rfl
    · rw [decide_eq_false h2, decide_eq_true (by omega)]
      rfl
theorem isort_perm {α : Type} {le : α → α → Bool} (tr : ∀ a b c, le a b = true → le b c = true → le a c = true) (to : ∀ a b, (le a b || le b a) = true) (l : List α) : (isort le l).Perm l := by
  rw [isort_ms tr to]
  exact List.mergeSort_perm l le
theorem isort_sorted {α : Type} {le : α → α → Bool} (tr : ∀ a b c, le a b = true → le b c = true → le a c = true) (to : ∀ a b, (le a b || le b a) = true) (l : List α) : (isort le l).Pairwise fun a b => le a b = true := by
  rw [isort_ms tr to]
  exact List.pairwise_mergeSort tr to l
theorem rle_tr : ∀ a b c, rle a b = true → rle b c = true → rle a c = true := fun a b c => (dle_total encD).1 (rowD a) (rowD b) (rowD c)
theorem rle_to : ∀ a b, (rle a b || rle b a) = true := fun a b => (dle_total encD).2 (rowD a) (rowD b)
theorem ile_tr : ∀ a b c, ile a b = true → ile b c = true → ile a c = true := fun a b c h1 h2 => decide_eq_true (by have := of_decide_eq_true h1; have := of_decide_eq_true h2; omega)
theorem ile_to : ∀ a b, (ile a b || ile b a) = true := fun a b => by
  unfold ile
  by_cases h : a ≤ b
  · rw [decide_eq_true h]; rfl
  · rw [decide_eq_true (show b ≤ a by omega), Bool.or_true]
theorem lots_eq (κ : Nat) (x : Txt) (R : List Row) : ((isort rle R).filter (sel κ x)).map (·.l) = isort ile ((R.filter (sel κ x)).map (·.l)) := by
  refine List.Perm.eq_of_pairwise (le := fun a b => ile a b = true) (fun a b _ _ h1 h2 => ?_) ?_ (isort_sorted ile_tr ile_to _) ?_
  · have := of_decide_eq_true h1
    have := of_decide_eq_true h2
    omega
  · rw [List.pairwise_map]
    refine List.Pairwise.imp_of_mem (fun {a b} ha hb hab => ?_) ((isort_sorted rle_tr rle_to R).filter (sel κ x))
    have h1 := (List.mem_filter.mp ha).2
    have h2 := (List.mem_filter.mp hb).2
    unfold sel at h1 h2
    simp only [Bool.and_eq_true, decide_eq_true_eq] at h1 h2
    rw [← rle_sel (by rw [h1.1, h2.1]) (by rw [h1.2, h2.2])]
    exact hab
  · exact (((isort_perm rle_tr rle_to R).filter (sel κ x)).map _).trans (isort_perm ile_tr ile_to _).symm
end K91
end
section
set_option Elab.async false
set_option linter.all false
set_option maxRecDepth 100000
set_option autoImplicit false
namespace K91
open PySem Ev
theorem ix_shop {R : List Row} {q : Row} {a : Nat} {s : Sto} (hs : s[a]? = some (shopO R)) (h : ∀ q ∈ R, q.Ok) (hq : q ∈ R) : ixF tab.cds (.ref a) (keyD q) s = some (bodyD q.r) := by
  have g := shop_get h hq
  cases R with
  | nil => cases hq
  | cons p R =>
    have hs' : s[a]? = some (.dT ((p :: R).map fun q => (keyK q, bodyD q.r))) := hs
    have g' : dget (.dT ((p :: R).map fun q => (keyK q, bodyD q.r))) (keyD q) = some (some (bodyD q.r)) := g
    unfold ixF
    simp only [hs', g', Option.join_some]
theorem lst_of_set {s : Sto} {a b : Nat} {o : Ob} (h : a ≠ b) : (s.set a o)[b]? = s[b]? := List.getElem?_set_ne h
/-- is the key of the kind and the name -/
theorem key_test {κ : Nat} {x : Txt} {q : Row} (hk : κ < 9) (hx : cpB x = true) (hq : q.Ok) {cf : CF} {env : Ev.Env} {j i1 i2 : Nat} {s : Sto} (hj : env[j]? = some (some (keyD q))) (h1 : env[i1]? = some (some (.str (kindT κ)))) (h2 : env[i2]? = some (some (.str x))) :
    evE tab.cds cf (.and (.cmp .eq (.ix (.var j) (.cst (.int 0))) (.var i1)) (.cmp .eq (.ix (.var j) (.cst (.int 1))) (.var i2))) env s = ok (.bl (sel κ x q)) s := by
  have i0 : ixF tab.cds (keyD q) (.int 0) s = some (.str (kindT q.r)) := rfl
  have i1' : ixF tab.cds (keyD q) (.int 1) s = some (.str q.x) := rfl
  have c1 := eq_str (s := s) (kind_cp hq.r) (kind_cp hk)
  have c2 := eq_str (s := s) hq.x hx
  have e : decide (kindT q.r = kindT κ) = decide (q.r = κ) := by
    by_cases h : q.r = κ
    · rw [h]; simp
    · have : ¬ kindT q.r = kindT κ := fun e => h (kind_inj hq.r hk e)
      simp [h, this]
  rw [e] at c1
  unfold sel
  cases hr : decide (q.r = κ) <;> simp [hj, h1, h2, i0, i1', c1, c2, hr]
def itemD (κ : Nat) (l : Int) : D := .tup [.int l, bodyD κ]
def dueL (κ : Nat) (x : Txt) (R : List Row) : List D := ((isort rle R).filter (sel κ x)).map fun q => itemD κ q.l
theorem fm_map {α β γ : Type} (f : α → β) (p : α → Bool) (g : β → Option γ) (h : α → γ) : ∀ l : List α, (∀ q ∈ l, g (f q) = if p q then some (h q) else none) → (l.map f).filterMap g = (l.filter p).map h
  | [], _ => rfl
  | q :: l, hq => by
    rw [List.map_cons, List.filterMap_cons, hq q (List.mem_cons_self ..), List.filter_cons]
    have ih := fm_map f p g h l fun z hz => hq z (List.mem_cons_of_mem _ hz)
    cases p q with
    | true => exact congrArg (h q :: ·) ih
    | false => exact ih
theorem row_of {q : Row} : ∃ f : D → Row, ∀ q : Row, q.r < 9 → f (keyD q) = q := by
  refine ⟨fun d => match d with
    | .tup [.str k, .str x, .int l] => ⟨(findT k kT 0).getD 0, x, l⟩
    | _ => ⟨0, [], 0⟩, fun q hq => ?_⟩
  show Row.mk ((findT (kindT q.r) kT 0).getD 0) q.x q.l = q
  rw [rank_at hq]
  rfl
theorem due_comp {cf : CF} {κ : Nat} {x : Txt} {R : List Row} {s : Sto} {P Y : Nat} {e0 e1 e3 e4 e5 e8 e10 e11 e12 e13 : Option D} (hk : κ < 9) (hx : cpB x = true) (h : ∀ q ∈ R, q.Ok) (hl : R.length ≤ 1000) (hs : s[P]? = some (shopO R)) (hy : s[Y]? = some (.lst ((isort rle R).map keyD))) :
    evE tab.cds cf (.comp (.tup (.cons (.ix (.var 13) (.cst (.int 2))) (.cons (.ix (.var 2) (.var 13)) .nil))) (.nm 13) (.seq (.var 6)) (.some (.and (.cmp .eq (.ix (.var 13) (.cst (.int 0))) (.var 7)) (.cmp .eq (.ix (.var 13) (.cst (.int 1))) (.var 9)))) [13])
      [e0, e1, some (.ref P), e3, e4, e5, some (.ref Y), some (.str (kindT κ)), e8, some (.str x), e10, e11, e12, e13] s = ok (.ref s.length) (s ++ [.lst (dueL κ x R)]) := by
  obtain ⟨f, hf⟩ := row_of (q := ⟨0, [], 0⟩)
  have hm : ∀ q ∈ isort rle R, q ∈ R := fun q hq => mem_isort hq
  rw [e_comp (dictOf_lst (a := Y) rfl hy), i_seq, e_var]
  have q1 := compK_lst (g := compG tab.cds cf (.tup (.cons (.ix (.var 13) (.cst (.int 2))) (.cons (.ix (.var 2) (.var 13)) .nil))) (.nm 13) (.some (.and (.cmp .eq (.ix (.var 13) (.cst (.int 0))) (.var 7)) (.cmp .eq (.ix (.var 13) (.cst (.int 1))) (.var 9)))) [13] [e0, e1, some (.ref P), e3, e4, e5, some (.ref Y), some (.str (kindT κ)), e8, some (.str x), e10, e11, e12, e13])
    (f := fun d => if sel κ x (f d) then some (itemD κ (f d).l) else none) hy (fun d hd => by
      obtain ⟨q, hq, rfl⟩ := List.mem_map.mp hd
      have hqo := h q (hm q hq)
      rw [hf q hqo.r, compG_c, key_test (κ := κ) (x := x) (q := q) hk hx hqo rfl rfl rfl]
      have i2 : ixF tab.cds (keyD q) (.int 2) s = some (.int q.l) := rfl
      have ib := ix_shop hs h (hm q hq)
      cases hsel : sel κ x q with
      | true =>
        have hr : q.r = κ := by
          unfold sel at hsel
          simp only [Bool.and_eq_true, decide_eq_true_eq] at hsel
          exact hsel.1
        rw [hr] at ib
        simp [wipeE, i2, ib, itemD]
      | false => simp) (by
        have : (isort rle R).length = R.length := (isort_perm rle_tr rle_to R).length_eq
        rw [List.length_map, this]
        omega)
  have e2 := fm_map keyD (sel κ x) (fun d => if sel κ x (f d) then some (itemD κ (f d).l) else none) (fun q => itemD κ q.l) (isort rle R) (fun q hq => by rw [hf q (h q (hm q hq)).r])
  rw [e2] at q1
  show ((varK s (some (some (D.ref Y)))).bind seqK).bind _ = _
  rw [varK_some, bind_okS, seqK_ref hy, bind_okS, q1]
  rfl
theorem named_ok {d P : Nat} {κ : Nat} {x : Txt} {R : List Row} {s : Sto} (hk : κ < 9) (hx : cpB x = true) (h : ∀ q ∈ R, q.Ok) (hl : R.length ≤ 1000) (hs : s[P]? = some (shopO R)) :
    ∃ b s', go (d + 1) 48 [.ref P, .str (kindT κ), .str x] s = ok (.ref b) s' ∧ Pre s s' ∧ s'[b]? = some (.lst (dueL κ x R)) := by
  rw [go_at (t := f48) rfl rfl]
  obtain ⟨f, hf⟩ := row_of (q := ⟨0, [], 0⟩)
  rw [show f48.body = b48 from rfl]
  unfold b48
  rw [show (List.map some [D.ref P, D.str (kindT κ), D.str x] ++ List.replicate (f48.nl - f48.np) none : Ev.Env) = [some (.ref P), some (.str (kindT κ)), some (.str x), none, none, none] from rfl]
  have e1 := e_compD (cds := tab.cds) (cf := go d) (e := .ix (.var 5) (.cst (.int 2))) (t := .nm 5) (src := .seq (.var 0)) (cond := .some (.and (.cmp .eq (.ix (.var 5) (.cst (.int 0))) (.var 1)) (.cmp .eq (.ix (.var 5) (.cst (.int 1))) (.var 2)))) (own := [5]) (env := [some (.ref P), some (.str (kindT κ)), some (.str x), none, none, none]) (s := s)
    (f := fun d => if sel κ x (f d) then some (.int (f d).l) else none) (dictOf_shop rfl hs) hs (fun d hd => by
      obtain ⟨q, hq, rfl⟩ := List.mem_map.mp hd
      have hqo := h q hq
      rw [hf q hqo.r, compG_c, key_test (κ := κ) (x := x) (q := q) hk hx hqo rfl rfl rfl]
      have i2 : ∀ s : Sto, ixF tab.cds (keyD q) (.int 2) s = some (.int q.l) := fun s => rfl
      cases hsel : sel κ x q <;> simp [wipeE, i2]) (by simpa using Nat.le_trans hl (by decide))
  have e2 := fm_map keyD (sel κ x) (fun d => if sel κ x (f d) then some (.int (f d).l) else none) (fun q => D.int q.l) R (fun q hq => by rw [hf q (h q hq).r])
  rw [e2] at e1
  obtain ⟨LI, hLI⟩ : ∃ LI, LI = (R.filter (sel κ x)).map (·.l) := ⟨_, rfl⟩
  have e3 : (R.filter (sel κ x)).map (fun q => D.int q.l) = LI.map .int := by rw [hLI, List.map_map]; rfl
  rw [e3] at e1
  have hLl : LI.length ≤ 1000 := by
    rw [hLI, List.length_map]
    exact Nat.le_trans (List.length_filter_le _ _) hl
  have so : sortF (LI.map D.int) = some ((isort ile LI).map .int) := by
    have sm : Ev.small (LI.map D.int).length = true := small_le (m := 1000) (by simpa using hLl) (by decide)
    have ok1 : sortOk (LI.map D.int) = true := by
      unfold sortOk
      simp only [Bool.and_eq_true, Bool.or_eq_true, List.all_eq_true, List.mem_map, forall_exists_index, and_imp, forall_apply_eq_imp_iff₂]
      refine ⟨⟨⟨fun q _ => ⟨rfl, rfl⟩, fun q _ q' _ => ?_⟩, .inr fun q _ => rfl⟩, sm⟩
      show PySem.W.alike (.int q) (.int q') = true
      simp [PySem.W.alike]
    unfold sortF
    rw [if_pos ok1, isort_map D.int ile dle (fun a b => (dle_int a b).symm)]
  have hs1 : (s ++ [.lst (LI.map D.int)])[P]? = some (shopO R) := (Pre.app).get hs
  obtain ⟨S2, hS2⟩ : ∃ S2 : Sto, S2 = s ++ [.lst (LI.map D.int), .lst ((isort ile LI).map .int)] := ⟨_, rfl⟩
  have g2 : S2[s.length + 1]? = some (.lst ((isort ile LI).map .int)) := by rw [hS2]; simp
  have gP : S2[P]? = some (shopO R) := by rw [hS2]; exact (Pre.app).get hs
  have bs : biF .sorted [.ref s.length] (s ++ [.lst (LI.map D.int)]) = some (.ref (s.length + 1), S2) := by
    have g1 : (s ++ [.lst (LI.map D.int)])[s.length]? = some (.lst (LI.map D.int)) := by simp
    simp only [biF, g1, so, Option.map_some, new, hS2]
    simp
  rw [step (env' := [some (.ref P), some (.str (kindT κ)), some (.str x), some (.ref (s.length + 1)), none, none]) (s' := S2) (by simp [e1, bs])]
  have mem : ∀ l ∈ isort ile LI, ∃ q ∈ R, q.r = κ ∧ q.x = x ∧ q.l = l := fun l hm => by
    have := mem_isort hm
    rw [hLI] at this
    obtain ⟨q, hq, rfl⟩ := List.mem_map.mp this
    obtain ⟨h1, h2⟩ := List.mem_filter.mp hq
    unfold sel at h2
    simp only [Bool.and_eq_true, decide_eq_true_eq] at h2
    exact ⟨q, h1, h2.1, h2.2, rfl⟩
  have q2 := compK_lst (g := compG tab.cds (go d) (.tup (.cons (.var 4) (.cons (.ix (.var 0) (.tup (.cons (.var 1) (.cons (.var 2) (.cons (.var 4) .nil))))) .nil))) (.nm 4) .none [4] [some (.ref P), some (.str (kindT κ)), some (.str x), some (.ref (s.length + 1)), none, none])
    (f := fun d => match d with | .int l => some (itemD κ l) | _ => none) g2 (fun y hy => by
      obtain ⟨l, hm, rfl⟩ := List.mem_map.mp hy
      obtain ⟨q, hq, h1, h2, h3⟩ := mem l hm
      have ib := ix_shop gP h hq
      simp only [keyD, h1, h2, h3] at ib
      rw [compG_n]
      simp [wipeE, ib, itemD]) (by
        have : (isort ile LI).length = LI.length := (isort_perm ile_tr ile_to LI).length_eq
        rw [List.length_map, this]
        omega)
  have e5 : ((isort ile LI).map D.int).filterMap (fun d => match d with | .int l => some (itemD κ l) | _ => none) = dueL κ x R := by
    unfold dueL
    have := lots_eq κ x R
    rw [← hLI] at this
    rw [← this, List.map_map, List.filterMap_map]
    generalize (isort rle R).filter (sel κ x) = L
    induction L with
    | nil => rfl
    | cons q L ih => exact congrArg (itemD κ q.l :: ·) ih
  rw [e5] at q2
  refine ⟨S2.length, S2 ++ [.lst (dueL κ x R)], ?_, ?_, by simp⟩
  · have e6 := e_comp (cds := tab.cds) (cf := go d) (e := .tup (.cons (.var 4) (.cons (.ix (.var 0) (.tup (.cons (.var 1) (.cons (.var 2) (.cons (.var 4) .nil))))) .nil))) (t := .nm 4) (src := .seq (.var 3)) (cond := .none) (own := [4]) (env := [some (.ref P), some (.str (kindT κ)), some (.str x), some (.ref (s.length + 1)), none, none]) (s := S2) (dictOf_lst (a := s.length + 1) rfl g2)
    rw [i_seq, e_var, show ([some (.ref P), some (.str (kindT κ)), some (.str x), some (.ref (s.length + 1)), none, none] : Ev.Env)[3]? = some (some (.ref (s.length + 1))) from rfl, varK_some, bind_okS, seqK_ref g2, bind_okS, q2] at e6
    simp [e6]
  · rw [hS2]
    exact Pre.app.trans Pre.app
end K91
end
section
set_option Elab.async false
set_option linter.all false
set_option maxRecDepth 100000
set_option autoImplicit false
namespace K91
open PySem Ev
theorem goodL_of {l : List D} (h : ∀ x ∈ l, good x = true) : goodL l = true := by
  induction l with
  | nil => rfl
  | cons x l ih => simp only [goodL, h x (List.mem_cons_self ..), ih fun y hy => h y (List.mem_cons_of_mem _ hy), Bool.and_self]
theorem dpL_of {l : List D} {n : Nat} (h : ∀ x ∈ l, dp x ≤ n) : dpL l ≤ n := by
  induction l with
  | nil => exact Nat.zero_le _
  | cons x l ih =>
    simp only [dpL]
    have := h x (List.mem_cons_self ..)
    have := ih fun y hy => h y (List.mem_cons_of_mem _ hy)
    omega
theorem due_good {κ : Nat} {x : Txt} {R : List Row} (hk : κ < 9) : goodL (dueL κ x R) = true ∧ dpL (dueL κ x R) ≤ 9 := by
  obtain ⟨_, _, g, dq⟩ := rec_at hk
  refine ⟨goodL_of fun y hy => ?_, dpL_of fun y hy => ?_⟩
  · obtain ⟨q, _, rfl⟩ := List.mem_map.mp hy
    simp [itemD, good, goodL, g]
  · obtain ⟨q, _, rfl⟩ := List.mem_map.mp hy
    simp only [itemD, dp, dpL]
    omega
theorem due_len {κ : Nat} {x : Txt} {R : List Row} : (dueL κ x R).length ≤ R.length := by
  unfold dueL
  rw [List.length_map]
  refine Nat.le_trans (List.length_filter_le _ _) ?_
  rw [(isort_perm rle_tr rle_to R).length_eq]
  exact Nat.le_refl _
theorem keys_good {R : List Row} (h : ∀ q ∈ R, q.Ok) : goodL ((isort rle R).map keyD) = true ∧ dpL ((isort rle R).map keyD) ≤ 9 := by
  refine ⟨goodL_of fun y hy => ?_, dpL_of fun y hy => ?_⟩
  · obtain ⟨q, hq, rfl⟩ := List.mem_map.mp hy
    have := h q (mem_isort hq)
    simp [keyD, good, goodL, kind_cp this.r, this.x]
  · obtain ⟨q, _, rfl⟩ := List.mem_map.mp hy
    simp [keyD, dp, dpL]
/-- behind the keys -/
structure Sk (s0 : Sto) (R : List Row) (Y : Nat) (s : Sto) : Prop where
  sh : Sh s0 R s
  key : s[Y]? = some (.lst ((isort rle R).map keyD))
theorem Sk.pre {s0 s s' : Sto} {R : List Row} {Y : Nat} (h : Sk s0 R Y s) (p : Pre s s') : Sk s0 R Y s' := by
  refine ⟨?_, p.get h.key⟩
  obtain ⟨t, rfl⟩ := p
  exact h.sh.app
abbrev outB : Ss := match b109 with
  | .cons _ (.cons _ (.cons _ (.cons _ (.cons _ (.cons _ (.cons _ (.cons (.for _ _ b) _))))))) => b
  | _ => .nil
abbrev innB : Ss := match outB with
  | .cons (.for _ _ b) _ => b
  | _ => .nil
abbrev skEnv (a N Y : Nat) (o5 o7 o8 o9 o10 o12 : Option D) : Ev.Env := [some (.ref a), some (.ref N), some (.ref (N + 1)), some (.ref (N + 2)), some (.ref (N + 3)), o5, some (.ref Y), o7, o8, o9, o10, none, o12, none]
theorem inn_turn {d a Y κ : Nat} {x : Txt} {R : List Row} {s0 s : Sto} {o5 o8 o9 o10 o12 : Option D} (hd : 9 ≤ d) (hk : κ < 9) (hx : cpB x = true) (h : Sk s0 R Y s) (hR : ∀ q ∈ R, q.Ok) (hl : R.length ≤ 12) :
    ∃ s' p12, Pre s s' ∧ turn tab.cds (go (d + 2)) hotL tab.sub (.nm 9) innB (.str x) (skEnv a s0.length Y o5 (some (.str (kindT κ))) o8 o9 o10 o12) s = ok (.nx (skEnv a s0.length Y o5 (some (.str (kindT κ))) o8 (some (.str x)) o10 p12)) s' := by
  have e1 := due_comp (cf := go (d + 2)) (κ := κ) (x := x) (R := R) (s := s) (P := s0.length + 1) (Y := Y) (e0 := some (.ref a)) (e1 := some (.ref s0.length)) (e3 := some (.ref (s0.length + 2))) (e4 := some (.ref (s0.length + 3))) (e5 := o5) (e8 := o8) (e10 := o10) (e11 := none) (e12 := o12) (e13 := none) hk hx hR (by omega) h.sh.shp h.key
  obtain ⟨s1, hs1⟩ : ∃ s1 : Sto, s1 = s ++ [.lst (dueL κ x R)] := ⟨_, rfl⟩
  rw [← hs1] at e1
  have p1 : Pre s s1 := ⟨_, hs1⟩
  have g1 : s1[s.length]? = some (.lst (dueL κ x R)) := by rw [hs1]; simp
  have k1 := h.pre p1
  obtain ⟨b, s2, e2, p2, g2⟩ := named_ok (d := d + 1) (κ := κ) (x := x) hk hx hR (by omega) k1.sh.shp
  have c2 : callF (go (d + 2)) 48 [.ref (s0.length + 1), .str (kindT κ), .str x] s1 = ok (.ref b) s2 := by rw [call_ref rfl]; exact e2
  obtain ⟨dg, dd⟩ := due_good (κ := κ) (x := x) (R := R) hk
  have c3 := c_same_lists (d := d) g2 (p2.get g1) (Nat.le_trans due_len (by omega)) dg (by omega)
  refine ⟨s2, some (.ref s.length), p1.trans p2, ?_⟩
  rw [turn_nm]
  show evSs tab.cds (go (d + 2)) hotL tab.sub (.cons _ (.cons _ .nil)) (skEnv a s0.length Y o5 (some (.str (kindT κ))) o8 (some (.str x)) o10 o12) s = _
  rw [step (env' := skEnv a s0.length Y o5 (some (.str (kindT κ))) o8 (some (.str x)) o10 (some (.ref s.length))) (s' := s1) (by rw [s_asg]; erw [e1]; rfl)]
  simp [skEnv, c2, c3]
theorem inn_loop {d a Y κ : Nat} {R : List Row} {s0 : Sto} {o5 o8 o10 : Option D} (hd : 9 ≤ d) (hk : κ < 9) (hR : ∀ q ∈ R, q.Ok) (hl : R.length ≤ 12) : ∀ (xs : List Txt) (s : Sto) (o9 o12 : Option D), (∀ x ∈ xs, cpB x = true) → Sk s0 R Y s →
    ∃ s' p9 p12, Pre s s' ∧ loopL (turn tab.cds (go (d + 2)) hotL tab.sub (.nm 9) innB) (xs.map .str) (skEnv a s0.length Y o5 (some (.str (kindT κ))) o8 o9 o10 o12) s = ok (.nx (skEnv a s0.length Y o5 (some (.str (kindT κ))) o8 p9 o10 p12)) s'
  | [], s, o9, o12, _, _ => ⟨s, o9, o12, Pre.refl, rfl⟩
  | x :: xs, s, o9, o12, hx, h => by
    obtain ⟨s1, p12, p1, e1⟩ := inn_turn (a := a) (o5 := o5) (o8 := o8) (o9 := o9) (o10 := o10) (o12 := o12) hd hk (hx x (List.mem_cons_self ..)) h hR hl
    obtain ⟨s2, q9, q12, p2, e2⟩ := inn_loop hd hk hR hl xs s1 (some (.str x)) p12 (fun y hy => hx y (List.mem_cons_of_mem _ hy)) (h.pre p1)
    refine ⟨s2, q9, q12, p1.trans p2, ?_⟩
    rw [List.map_cons, loopL, e1, bind_okS, nextL, e2]
theorem out_turn {d a Y κ : Nat} {R : List Row} {s0 s : Sto} {o5 o7 o8 o9 o10 o12 : Option D} (hd : 9 ≤ d) (hk : κ < 9) (h : Sk s0 R Y s) (hR : ∀ q ∈ R, q.Ok) (hl : R.length ≤ 12) :
    ∃ s' p9 p12, Pre s s' ∧ turn tab.cds (go (d + 2)) hotL tab.sub (.nm 7) outB (.str (kindT κ)) (skEnv a s0.length Y o5 o7 o8 o9 o10 o12) s = ok (.nx (skEnv a s0.length Y o5 (some (.str (kindT κ))) o8 p9 o10 p12)) s' := by
  obtain ⟨nm, hnm⟩ : ∃ nm : List Txt, nm = [[97], [97, 49], [122, 122]] := ⟨_, rfl⟩
  obtain ⟨s1, hs1⟩ : ∃ s1 : Sto, s1 = s ++ [.lst (nm.map .str)] := ⟨_, rfl⟩
  have p1 : Pre s s1 := ⟨_, hs1⟩
  have g1 : s1[s.length]? = some (.lst (nm.map .str)) := by rw [hs1]; simp
  have hcp : ∀ x ∈ nm, cpB x = true := by rw [hnm]; decide
  obtain ⟨s2, q9, q12, p2, e2⟩ := inn_loop (a := a) (o5 := o5) (o8 := o8) (o10 := o10) hd hk hR hl nm s1 o9 o12 hcp (h.pre p1)
  have q := forK_lst (cds := tab.cds) (cf := go (d + 2)) (hot := hotL) (sub := tab.sub) (t := .nm 9) (b := innB) (env := skEnv a s0.length Y o5 (some (.str (kindT κ))) o8 o9 o10 o12) (s := s1) (a := s.length) (xs := nm.map .str)
    (fun _ env s' => Pre s1 s' ∧ ∃ o9 o12, env = skEnv a s0.length Y o5 (some (.str (kindT κ))) o8 o9 o10 o12) ⟨Pre.refl, o9, o12, rfl⟩ (fun _ env s' hi => hi.1.get g1)
    (fun i y env s' hy ⟨hp, o9, o12, he⟩ f s3 ht => by
      subst he
      obtain ⟨x, hx, rfl⟩ := List.mem_map.mp (List.mem_of_getElem? hy)
      obtain ⟨s4, p12, p4, e4⟩ := inn_turn (a := a) (o5 := o5) (o8 := o8) (o9 := o9) (o10 := o10) (o12 := o12) hd hk (hcp x hx) (h.pre (p1.trans hp)) hR hl
      rw [e4] at ht
      cases ht
      exact ⟨fun e h => (by cases h; exact ⟨hp.trans p4, _, _, rfl⟩), fun e h => (by cases h)⟩)
  refine ⟨s2, q9, q12, p1.trans p2, ?_⟩
  rw [turn_nm]
  show evSs tab.cds (go (d + 2)) hotL tab.sub (.cons (.for _ _ innB) .nil) (skEnv a s0.length Y o5 (some (.str (kindT κ))) o8 o9 o10 o12) s = _
  have sq : seqK (.ref s.length) s1 = ok (.lst s.length 0) s1 := seqK_ref g1
  rw [step (env' := skEnv a s0.length Y o5 (some (.str (kindT κ))) o8 q9 o10 q12) (s' := s2) (by
    rw [s_for, i_seq]
    have e : evE tab.cds (go (d + 2)) (.lst (.cons (.cst (.str [97])) (.cons (.cst (.str [97, 49])) (.cons (.cst (.str [122, 122])) .nil)))) (skEnv a s0.length Y o5 (some (.str (kindT κ))) o8 o9 o10 o12) s = ok (.ref s.length) s1 := by
      rw [hs1, hnm]
      simp
    rw [e, bind_okS, sq, bind_okS, q, e2])]
  simp
theorem out_loop {d a Y : Nat} {R : List Row} {s0 : Sto} {o5 o8 o10 : Option D} (hd : 9 ≤ d) (hR : ∀ q ∈ R, q.Ok) (hl : R.length ≤ 12) : ∀ (xs : List Txt) (s : Sto) (o7 o9 o12 : Option D), (∀ x ∈ xs, ∃ κ, κ < 9 ∧ x = kindT κ) → Sk s0 R Y s →
    ∃ s' p7 p9 p12, Pre s s' ∧ loopL (turn tab.cds (go (d + 2)) hotL tab.sub (.nm 7) outB) (xs.map .str) (skEnv a s0.length Y o5 o7 o8 o9 o10 o12) s = ok (.nx (skEnv a s0.length Y o5 p7 o8 p9 o10 p12)) s'
  | [], s, o7, o9, o12, _, _ => ⟨s, o7, o9, o12, Pre.refl, rfl⟩
  | x :: xs, s, o7, o9, o12, hx, h => by
    obtain ⟨κ, hk, rfl⟩ := hx x (List.mem_cons_self ..)
    obtain ⟨s1, p9, p12, p1, e1⟩ := out_turn (a := a) (o5 := o5) (o7 := o7) (o8 := o8) (o9 := o9) (o10 := o10) (o12 := o12) hd hk h hR hl
    obtain ⟨s2, q7, q9, q12, p2, e2⟩ := out_loop hd hR hl xs s1 (some (.str (kindT κ))) p9 p12 (fun y hy => hx y (List.mem_cons_of_mem _ hy)) (h.pre p1)
    refine ⟨s2, q7, q9, q12, p1.trans p2, ?_⟩
    rw [List.map_cons, loopL, e1, bind_okS, nextL, e2]
theorem kT_all : ∀ x ∈ kT, ∃ κ, κ < 9 ∧ x = kindT κ := fun x hx => by
  obtain ⟨i, hi, e⟩ := List.getElem_of_mem hx
  refine ⟨i, hi, ?_⟩
  unfold kindT
  rw [List.getD_eq_getElem?_getD, List.getElem?_eq_getElem hi, e]
  rfl
theorem out_for {d a Y : Nat} {R : List Row} {s0 s : Sto} {o5 o7 o8 o9 o10 o12 : Option D} (hd : 9 ≤ d) (hR : ∀ q ∈ R, q.Ok) (hl : R.length ≤ 12) (h : Sk s0 R Y s) :
    ∃ s' p7 p9 p12, Pre s s' ∧ forK tab.cds (go (d + 2)) hotL tab.sub (.nm 7) outB (skEnv a s0.length Y o5 o7 o8 o9 o10 o12) (.lst s0.length 0) s = ok (.nx (skEnv a s0.length Y o5 p7 o8 p9 o10 p12)) s' := by
  obtain ⟨s2, q7, q9, q12, p2, e2⟩ := out_loop (a := a) (o5 := o5) (o8 := o8) (o10 := o10) hd hR hl kT s o7 o9 o12 kT_all h
  have q := forK_lst (cds := tab.cds) (cf := go (d + 2)) (hot := hotL) (sub := tab.sub) (t := .nm 7) (b := outB) (env := skEnv a s0.length Y o5 o7 o8 o9 o10 o12) (s := s) (a := s0.length) (xs := kT.map .str)
    (fun _ env s' => Pre s s' ∧ ∃ o7 o9 o12, env = skEnv a s0.length Y o5 o7 o8 o9 o10 o12) ⟨Pre.refl, o7, o9, o12, rfl⟩ (fun _ env s' hi => hi.1.get h.sh.knd)
    (fun i y env s' hy ⟨hp, o7, o9, o12, he⟩ f s3 ht => by
      subst he
      obtain ⟨x, hx, rfl⟩ := List.mem_map.mp (List.mem_of_getElem? hy)
      obtain ⟨κ, hk, rfl⟩ := kT_all x hx
      obtain ⟨s4, p9, p12, p4, e4⟩ := out_turn (a := a) (o5 := o5) (o7 := o7) (o8 := o8) (o9 := o9) (o10 := o10) (o12 := o12) hd hk (h.pre hp) hR hl
      rw [e4] at ht
      cases ht
      exact ⟨fun e h => (by cases h; exact ⟨hp.trans p4, _, _, _, rfl⟩), fun e h => (by cases h)⟩)
  exact ⟨s2, q7, q9, q12, p2, by rw [q, e2]⟩
end K91
end
section
set_option Elab.async false
set_option linter.all false
set_option maxRecDepth 100000
set_option autoImplicit false
namespace K91
open PySem Ev
mutual
theorem sh_pure (k : Nat) : ∀ d : D, d.pure = true → d.sh k = d
  | .non, _ => by simp only [D.sh]
  | .bl _, _ => by simp only [D.sh]
  | .int _, _ => by simp only [D.sh]
  | .str _, _ => by simp only [D.sh]
  | .fn _, _ => by simp only [D.sh]
  | .cd _, _ => by simp only [D.sh]
  | .tup xs, h => by simp only [D.sh]; rw [sh_pureL k xs (by simpa only [D.pure] using h)]
  | .frz t xs, h => by simp only [D.sh]; rw [sh_pureL k xs (by simpa only [D.pure] using h)]
  | .ref n, h => by simp [D.pure] at h
theorem sh_pureL (k : Nat) : ∀ l : List D, pureL l = true → shL k l = l
  | [], _ => by simp only [shL]
  | x :: xs, h => by
    simp only [pureL, Bool.and_eq_true] at h
    simp only [shL, sh_pure k x h.1, sh_pureL k xs h.2]
end
theorem recs_good : goodL recs = true := by decide +kernel
theorem c_recs {s : Sto} : callF (go 18) 107 [] s = ok (.ref s.length) (s ++ [.lst recs]) := by
  rw [call_pureS rfl recs_run rfl]
  simp only [D.sh, List.map_cons, List.map_nil, Ob.sh, Nat.zero_add]
  rw [sh_pureL _ _ (good_pureL _ recs_good)]
theorem keys_comp {cf : CF} {R : List Row} {s0 s : Sto} {a : Nat} {o5 o8 o9 o10 : Option D} (h : Sh s0 R s) (hR : ∀ q ∈ R, q.Ok) (hl : R.length ≤ 12) :
    ∃ s', Pre s s' ∧ Sk s0 R (s.length + 1) s' ∧ evE tab.cds cf (.comp (.tup (.cons (.ix (.var 1) (.ix (.var 11) (.cst (.int 0)))) (.cons (.ix (.var 11) (.cst (.int 1))) (.cons (.ix (.var 11) (.cst (.int 2))) .nil)))) (.nm 11) (.seq (.bi .sorted (.cons (.var 3) .nil))) .none [11]) (shEnv a s0.length o5 o8 o9 o10) s = ok (.ref (s.length + 1)) s' := by
  have hm : ∀ q ∈ isort rle R, q ∈ R := fun q hq => mem_isort hq
  obtain ⟨s1, hs1⟩ : ∃ s1 : Sto, s1 = s ++ [.lst ((isort rle R).map rowD)] := ⟨_, rfl⟩
  have p1 : Pre s s1 := ⟨_, hs1⟩
  have g1 : s1[s.length]? = some (.lst ((isort rle R).map rowD)) := by rw [hs1]; simp
  have knd1 := p1.get h.knd
  have bs : biF .sorted [.ref (s0.length + 2)] s = some (.ref s.length, s1) := by
    simp only [biF, h.row, sort_rows (show R.length ≤ 1000 by omega), Option.map_some, new, hs1]
  have q1 := compK_lst (g := compG tab.cds cf (.tup (.cons (.ix (.var 1) (.ix (.var 11) (.cst (.int 0)))) (.cons (.ix (.var 11) (.cst (.int 1))) (.cons (.ix (.var 11) (.cst (.int 2))) .nil)))) (.nm 11) .none [11] (shEnv a s0.length o5 o8 o9 o10))
    (f := fun d => match d with | .tup [.int r, .str x, .int l] => some (.tup [.str (kindT r.toNat), .str x, .int l]) | _ => none) g1 (fun y hy => by
      obtain ⟨q, hq, rfl⟩ := List.mem_map.mp hy
      have hqo := hR q (hm q hq)
      have i0 : ixF tab.cds (rowD q) (.int 0) s1 = some (.int q.r) := rfl
      have i1 : ixF tab.cds (rowD q) (.int 1) s1 = some (.str q.x) := rfl
      have i2 : ixF tab.cds (rowD q) (.int 2) s1 = some (.int q.l) := rfl
      have ik : ixF tab.cds (.ref s0.length) (.int q.r) s1 = some (.str (kindT q.r)) := by
        have : q.r < kT.length := hqo.r
        simp only [ixF, knd1, at_nat, List.getElem?_map]
        unfold kindT
        rw [List.getD_eq_getElem?_getD, List.getElem?_eq_getElem this]
        rfl
      rw [compG_n]
      simp [shEnv, wipeE, i0, i1, i2, ik]
      rfl) (by
        have : (isort rle R).length = R.length := (isort_perm rle_tr rle_to R).length_eq
        rw [List.length_map, this]
        omega)
  have e5 : ((isort rle R).map rowD).filterMap (fun d => match d with | .tup [.int r, .str x, .int l] => some (D.tup [.str (kindT r.toNat), .str x, .int l]) | _ => none) = (isort rle R).map keyD := by
    rw [List.filterMap_map]
    generalize isort rle R = L
    induction L with
    | nil => rfl
    | cons q L ih => exact congrArg (keyD q :: ·) ih
  rw [e5] at q1
  have p2 : Pre s1 (s1 ++ [.lst ((isort rle R).map keyD)]) := Pre.app
  have hlen : s1.length = s.length + 1 := by rw [hs1]; simp
  refine ⟨s1 ++ [.lst ((isort rle R).map keyD)], p1.trans p2, ⟨?_, ?_⟩, ?_⟩
  · obtain ⟨t, e⟩ := p1.trans p2
    rw [e]
    exact h.app
  · rw [← hlen]; simp
  · rw [e_comp rfl, i_seq]
    have e : evE tab.cds cf (.bi .sorted (.cons (.var 3) .nil)) (shEnv a s0.length o5 o8 o9 o10) s = ok (.ref s.length) s1 := by simp [shEnv, bs]
    rw [e, bind_okS, seqK_ref g1, bind_okS, q1, hlen]
theorem shelf_ok {a : Nat} {ns : List Int} {s0 : Sto} (ha : s0[a]? = some (.lst (ns.map .int))) (hn : ns.length = 20) (hr : ∀ n ∈ ns, 0 ≤ n ∧ n < 1000) : ∃ s', go 19 109 [.ref a] s0 = ok (.bl true) s' ∧ ∀ b, b < s0.length → s'[b]? = s0[b]? := by
  show ∃ s', go (18 + 1) 109 [.ref a] s0 = _ ∧ _
  rw [go_at (t := f109) rfl rfl]
  have haN : a < s0.length := (List.getElem?_eq_some_iff.mp ha).1
  obtain ⟨n0, hn0⟩ : ∃ n0, ns[0]? = some n0 := ⟨_, List.getElem?_eq_getElem (by omega)⟩
  obtain ⟨z0, z1⟩ := hr n0 (List.mem_of_getElem? hn0)
  obtain ⟨S4, hS4⟩ : ∃ S4 : Sto, S4 = s0 ++ [.lst (kT.map .str), .dK [], .lst [], .lst recs] := ⟨_, rfl⟩
  have sh4 : Sh s0 [] S4 := by
    rw [hS4]
    refine ⟨by simp, fun b hb => List.getElem?_append_left hb, by simp, ?_, ?_, ?_⟩
    · simp; rfl
    · simp
    · simp
  obtain ⟨R, S5, p5, p8, p9, p10, k1, k2, k3, k4⟩ := fill_loop (cf := go 18) ha hn hr (n0 % 13).toNat 0 [] S4 none none none none (by omega) sh4 (by simp) (by simp)
  obtain ⟨S6, p6, sk6, e6⟩ := keys_comp (cf := go 18) (a := a) (o5 := p5) (o8 := p8) (o9 := p9) (o10 := p10) k1 k2 k3
  have e7 := sorted_keys_ok (d := 16) sk6.sh.shp k2 (by omega)
  obtain ⟨S7, hS7⟩ : ∃ S7 : Sto, S7 = S6 ++ [.lst (R.map keyD), .lst ((isort rle R).map keyD)] := ⟨_, rfl⟩
  rw [← hS7] at e7
  have p7 : Pre S6 S7 := ⟨_, hS7⟩
  have sk7 := sk6.pre p7
  have g7 : S7[S6.length + 1]? = some (.lst ((isort rle R).map keyD)) := by rw [hS7]; simp
  obtain ⟨kg, kd⟩ := keys_good k2
  have hlr : ((isort rle R).map keyD).length ≤ 1000 := by
    rw [List.length_map, (isort_perm rle_tr rle_to R).length_eq]
    omega
  have e8 := c_same_lists (d := 16) g7 sk7.key hlr kg (by omega)
  have c7 : callF (go 18) 47 [.ref (s0.length + 1)] S6 = ok (.ref (S6.length + 1)) S7 := by rw [call_ref rfl]; exact e7
  obtain ⟨S8, q7, q9, q12, p8', e9⟩ := out_for (d := 16) (a := a) (o5 := p5) (o7 := none) (o8 := p8) (o9 := p9) (o10 := p10) (o12 := none) (by omega) k2 k3 sk7
  refine ⟨S8, ?_, fun b hb => ?_⟩
  · rw [show f109.body = b109 from rfl]
    unfold b109
    rw [show (List.map some [D.ref a] ++ List.replicate (f109.nl - f109.np) none : Ev.Env) = [some (.ref a), none, none, none, none, none, none, none, none, none, none, none, none, none] from rfl]
    rw [step (env' := [some (.ref a), some (.ref s0.length), none, none, none, none, none, none, none, none, none, none, none, none]) (s' := s0 ++ [.lst (kT.map .str)]) (by simp; rfl)]
    rw [step (env' := [some (.ref a), some (.ref s0.length), some (.ref (s0.length + 1)), none, none, none, none, none, none, none, none, none, none, none]) (s' := s0 ++ [.lst (kT.map .str), .dK []]) (by simp)]
    rw [step (env' := [some (.ref a), some (.ref s0.length), some (.ref (s0.length + 1)), some (.ref (s0.length + 2)), none, none, none, none, none, none, none, none, none, none]) (s' := s0 ++ [.lst (kT.map .str), .dK [], .lst []]) (by simp)]
    rw [step (env' := shEnv a s0.length none none none none) (s' := S4) (by rw [hS4]; simp [c_recs, shEnv])]
    rw [step (env' := shEnv a s0.length p5 p8 p9 p10) (s' := S5) (by
      have ix0 : ixF tab.cds (.ref a) (.int 0) S4 = some (.int n0) := by
        have : (0 : Int) = ((0 : Nat) : Int) := rfl
        simp only [ixF, sh4.kp a haN, ha]
        rw [this, at_nat, List.getElem?_map, hn0]
        rfl
      have rr := rngK_1 (s := S4) (k := n0 % 13) (by omega)
      simp [shEnv, ix0, rr]
      exact k4)]
    rw [step (env' := skEnv a s0.length (S5.length + 1) p5 none p8 p9 p10 none) (s' := S6) (by rw [s_asg, e6]; rfl)]
    rw [step (env' := skEnv a s0.length (S5.length + 1) p5 none p8 p9 p10 none) (s' := S7) (by
      simp [skEnv, c7, e8])]
    rw [step (env' := skEnv a s0.length (S5.length + 1) p5 q7 p8 q9 p10 q12) (s' := S8) (by
      have sq : seqK (.ref s0.length) S7 = ok (.lst s0.length 0) S7 := seqK_ref sk7.sh.knd
      rw [s_for, i_seq]
      have ev : evE tab.cds (go 18) (.var 1) (skEnv a s0.length (S5.length + 1) p5 none p8 p9 p10 none) S7 = ok (.ref s0.length) S7 := by simp [skEnv]
      rw [ev, bind_okS, sq, bind_okS]
      exact e9)]
    simp
  · have := (sk7.pre p8').sh.kp b hb
    exact this
end K91
end
section
set_option Elab.async false
set_option linter.all false
set_option maxRecDepth 100000
set_option autoImplicit false
namespace K91
open PySem Ev
/-! ### the records, all of them written -/
mutual
def deq : D → D → Bool
  | .non, .non => true
  | .bl a, .bl b => decide (a = b)
  | .int a, .int b => decide (a = b)
  | .str a, .str b => decide (a = b)
  | .tup a, .tup b => deqL a b
  | _, _ => false
def deqL : List D → List D → Bool
  | [], [] => true
  | x :: xs, y :: ys => deq x y && deqL xs ys
  | _, _ => false
end
mutual
theorem deq_ok : ∀ a b : D, deq a b = true → a = b
  | .non, b, h => by cases b <;> simp [deq] at h; rfl
  | .bl _, b, h => by cases b <;> simp [deq] at h; rw [h]
  | .int _, b, h => by cases b <;> simp [deq] at h; rw [h]
  | .str _, b, h => by cases b <;> simp [deq] at h; rw [h]
  | .tup xs, b, h => by cases b <;> simp [deq] at h; rw [deqL_ok xs _ h]
  | .frz _ _, b, h => by cases b <;> simp [deq] at h
  | .ref _, b, h => by cases b <;> simp [deq] at h
  | .fn _, b, h => by cases b <;> simp [deq] at h
  | .cd _, b, h => by cases b <;> simp [deq] at h
theorem deqL_ok : ∀ a b : List D, deqL a b = true → a = b
  | [], b, h => by cases b <;> simp [deqL] at h; rfl
  | x :: xs, b, h => by
    cases b <;> simp [deqL] at h
    rw [deq_ok x _ h.1, deqL_ok xs _ h.2]
end
def keyR (r : Nat) : D := match recs[r]? with
  | some (.tup [k, _]) => k
  | _ => .non
def txtR (r : Nat) : Txt := match go 19 96 [keyR r, bodyD r] [] with
  | some (.ok (.str t) _) => t
  | _ => []
def isStr (t : Txt) : O D → Bool
  | some (.ok (.str x) _) => decide (x = t)
  | _ => false
def isD (v : D) : O D → Bool
  | some (.ok d _) => deq d v
  | _ => false
theorem isStr_ok {t : Txt} {r : O D} (h : isStr t r = true) : ∃ s', r = ok (.str t) s' := by
  unfold isStr at h
  split at h
  · rw [of_decide_eq_true h]; exact ⟨_, rfl⟩
  · cases h
theorem isD_ok {v : D} {r : O D} (h : isD v r = true) : ∃ s', r = ok v s' := by
  unfold isD at h
  split at h
  · rw [deq_ok _ _ h]; exact ⟨_, rfl⟩
  · cases h
def take2 : D → D
  | .tup xs => .tup (xs.take 2)
  | d => d
def shapeR (r : Nat) : Bool := match keyR r, bodyD r with
  | .tup [.str k, .str _, .int _], .tup _ => decide (k = kindT r)
  | _, _ => false
def ckR (r : Nat) : Bool := good (keyR r) && (good (bodyD r) && ((recs[r]?).isSome && (shapeR r && (isT (go 19 44 [keyR r, bodyD r] []) && (isStr (txtR r) (go 19 96 [keyR r, bodyD r] []) &&
  (isD (.tup [keyR r, bodyD r]) (go 19 93 [.str (txtR r)] []) && (isF (go 19 44 [take2 (keyR r), bodyD r] []) && (isF (go 19 44 [keyR r, .non] []) && (isT (go 18 26 [keyR r] []) && (cpB (txtR r) && Nat.ble (txtR r).length 5000))))))))))
theorem ckR_all : ((List.range 9).all ckR) = true := by decide +kernel
structure RecF (r : Nat) : Prop where
  gk : good (keyR r) = true
  gb : good (bodyD r) = true
  at_ : recs[r]? = some (.tup [keyR r, bodyD r])
  shape : shapeR r = true
  is_ : ∀ s : Sto, callF (go 19) 44 [keyR r, bodyD r] s = ok (.bl true) s
  wr : ∀ s : Sto, callF (go 19) 96 [keyR r, bodyD r] s = ok (.str (txtR r)) s
  rd : ∀ s : Sto, callF (go 19) 93 [.str (txtR r)] s = ok (.tup [keyR r, bodyD r]) s
  no2 : ∀ s : Sto, callF (go 19) 44 [take2 (keyR r), bodyD r] s = ok (.bl false) s
  noN : ∀ s : Sto, callF (go 19) 44 [keyR r, .non] s = ok (.bl false) s
  key : ∀ s : Sto, callF (go 18) 26 [keyR r] s = ok (.bl true) s
  tl : (txtR r).length ≤ 5000
theorem rec_f {r : Nat} (h : r < 9) : RecF r := by
  have c := List.all_eq_true.mp ckR_all r (List.mem_range.mpr h)
  unfold ckR at c
  simp only [Bool.and_eq_true] at c
  obtain ⟨c1, c2, c3, c4, c5, c6, c7, c8, c9, c10, c11, c12⟩ := c
  have p1 : (keyR r).pure = true := good_pure _ c1
  have p2 : (bodyD r).pure = true := good_pure _ c2
  have pp : pureL [keyR r, bodyD r] = true := by simp [pureL, p1, p2]
  refine ⟨c1, c2, ?_, c4, fun s => c_isT pp c5, fun s => ?_, fun s => ?_, fun s => c_isF ?_ c8, fun s => c_isF (by simp [pureL, p1, D.pure]) c9, fun s => c_isT (by simp [pureL, p1]) c10, Nat.le_of_ble_eq_true c12⟩
  · obtain ⟨k, e, _, _⟩ := rec_at h
    have : keyR r = k := by unfold keyR; rw [e]
    rw [this]
    exact e
  · obtain ⟨s', e⟩ := isStr_ok c6
    exact call_pure pp e rfl
  · obtain ⟨s', e⟩ := isD_ok c7
    exact call_pure rfl e (by simp only [D.pure]; exact pp)
  · unfold shapeR at c4
    generalize keyR r = kk at *
    cases kk with
    | tup xs =>
      have : pureL (xs.take 2) = true := by
        have : goodL xs = true := by simp only [good, Bool.and_eq_true] at c1; exact c1.2
        exact good_pureL _ (good_take this)
      simp [take2, pureL, D.pure, this, p2]
    | _ => simp [good] at c1 <;> simp at c4
/-! a body that is a list -/
theorem rows_ref {d a : Nat} {xs : List D} {m n : Int} {s : Sto} (h : s[a]? = some (.lst xs)) : callF (go (d + 1)) 24 [.ref a, .int m, .int n] s = ok (.bl false) s := by
  rw [call_ref rfl, go_at (t := f24) rfl rfl]
  simp [f24, b24, zt_tuple_ref h]
theorem range_ref {d a : Nat} {xs : List D} {s : Sto} (h : s[a]? = some (.lst xs)) : callF (go (d + 1)) 8 [.ref a] s = ok (.bl false) s := by
  rw [call_ref rfl, go_at (t := f8) rfl rfl]
  simp [f8, b8, zt_tuple_ref h]
def bodF : List Nat := [30, 32, 35, 37, 38, 39, 22, 41, 43]
theorem body_ref {d a r : Nat} {xs : List D} {s : Sto} (hr : r < 9) (h : s[a]? = some (.lst xs)) : callF (go (d + 2)) (bodF.getD r 0) [.ref a] s = ok (.bl false) s := by
  have rr := fun m n => rows_ref (d := d) (m := m) (n := n) h
  have rw' := fun n => row_ref (d := d) (n := n) h
  have rg := range_ref (d := d) h
  rw [call_ref rfl]
  have : r = 0 ∨ r = 1 ∨ r = 2 ∨ r = 3 ∨ r = 4 ∨ r = 5 ∨ r = 6 ∨ r = 7 ∨ r = 8 := by omega
  rcases this with rfl | rfl | rfl | rfl | rfl | rfl | rfl | rfl | rfl
  · show go (d + 2) 30 [.ref a] s = _
    rw [go_at (t := f30) rfl rfl]; simp [f30, b30, rw']
  · show go (d + 2) 32 [.ref a] s = _
    rw [go_at (t := f32) rfl rfl]; simp [f32, b32, rr]
  · show go (d + 2) 35 [.ref a] s = _
    rw [go_at (t := f35) rfl rfl]; simp [f35, b35, rr]
  · show go (d + 2) 37 [.ref a] s = _
    rw [go_at (t := f37) rfl rfl]; simp [f37, b37, rw']
  · show go (d + 2) 38 [.ref a] s = _
    rw [go_at (t := f38) rfl rfl]; simp [f38, b38, rw']
  · show go (d + 2) 39 [.ref a] s = _
    rw [go_at (t := f39) rfl rfl]; simp [f39, b39, rw']
  · show go (d + 2) 22 [.ref a] s = _
    rw [go_at (t := f22) rfl rfl]; simp [f22, b22, rg]
  · show go (d + 2) 41 [.ref a] s = _
    rw [go_at (t := f41) rfl rfl]; simp [f41, b41, rw']
  · show go (d + 2) 43 [.ref a] s = _
    rw [go_at (t := f43) rfl rfl]; simp [f43, b43, rr]
theorem bodies_at {r : Nat} (h : r < 9) {s : Sto} : ixF tab.cds (.cd 0) (.str (kindT r)) s = some (.fn (bodF.getD r 0)) := by
  have : r = 0 ∨ r = 1 ∨ r = 2 ∨ r = 3 ∨ r = 4 ∨ r = 5 ∨ r = 6 ∨ r = 7 ∨ r = 8 := by omega
  rcases this with rfl | rfl | rfl | rfl | rfl | rfl | rfl | rfl | rfl <;> rfl
theorem rec_list {r a : Nat} {xs : List D} {s : Sto} (hr : r < 9) (h : s[a]? = some (.lst xs)) : callF (go 19) 44 [keyR r, .ref a] s = ok (.bl false) s := by
  have F := rec_f hr
  rw [call_ref (by simp [pureL, D.pure])]
  show go (18 + 1) 44 [keyR r, .ref a] s = _
  rw [go_at (t := f44) rfl rfl]
  have sh := F.shape
  unfold shapeR at sh
  split at sh
  · rename_i k x i b ek eb
    have hk := of_decide_eq_true sh
    have ix0 : ixF tab.cds (keyR r) (.int 0) s = some (.str (kindT r)) := by rw [ek, ← hk]; rfl
    have bf : callF (go 18) (bodF.getD r 0) [.ref a] s = ok (.bl false) s := body_ref (d := 16) hr h
    rw [show f44.body = b44 from rfl]
    unfold b44
    rw [show (List.map some [keyR r, D.ref a] ++ List.replicate (f44.nl - f44.np) none : Ev.Env) = [some (keyR r), some (.ref a), none] from rfl]
    rw [step (env' := [some (keyR r), some (.ref a), none]) (s' := s) (by simp [F.key])]
    rw [step (env' := [some (keyR r), some (.ref a), some (.fn (bodF.getD r 0))]) (s' := s) (by simp [ix0, bodies_at hr])]
    rw [s_cons, s_ret, e_cvar (f := bodF.getD r 0) rfl]
    simp only [es_cons, es_nil, e_var, consK_eq, consK2_eq, bind_okS, varK_some, List.getElem?_cons_succ, List.getElem?_cons_zero, bf, retK_eq, seqS_rt, fin_rtS]
  · cases sh
end K91
end
section
set_option Elab.async false
set_option linter.all false
set_option maxRecDepth 100000
set_option autoImplicit false
namespace K91
open PySem Ev
/-! ### the law's loops over the records -/
abbrev recB : Ss := match b112 with
  | .cons _ (.cons _ (.cons _ (.cons _ (.cons _ (.cons _ (.cons _ (.cons (.for _ _ b) _))))))) => b
  | _ => .nil
theorem recs_19 : go 19 107 [] [] = ok (.ref 0) [.lst recs] := by
  have e : go 19 107 [] [] = go 18 107 [] [] := by kernel_rfl
  rw [e, recs_run]
theorem c_recs19 {s : Sto} : callF (go 19) 107 [] s = ok (.ref s.length) (s ++ [.lst recs]) := by
  rw [call_pureS rfl recs_19 rfl]
  simp only [D.sh, List.map_cons, List.map_nil, Ob.sh, Nat.zero_add]
  rw [sh_pureL _ _ (good_pureL _ recs_good)]
theorem rec_turn {r : Nat} (hr : r < 9) {e0 e1 e2 e3 e4 e5 e6 o7 o8 e9 e10 : Option D} {s : Sto} :
    ∃ s', Pre s s' ∧ turn tab.cds (go 19) hotL tab.sub (.tp [7, 8]) recB (.tup [keyR r, bodyD r]) [e0, e1, e2, e3, e4, e5, e6, o7, o8, e9, e10] s = ok (.nx [e0, e1, e2, e3, e4, e5, e6, some (keyR r), some (bodyD r), e9, e10]) s' := by
  have F := rec_f hr
  obtain ⟨_, _, _, db⟩ := rec_at hr
  have sh := F.shape
  unfold shapeR at sh
  split at sh
  · rename_i k x i b ek eb
    have sm : ∀ s : Sto, callF (go 19) 98 [.tup [keyR r, bodyD r], .tup [keyR r, bodyD r]] s = ok (.bl true) s := fun s => c_same (by simp [good, goodL, F.gk, F.gb]) (by
      have : dp (keyR r) ≤ 1 := by rw [ek]; simp [dp, dpL]
      simp only [dp, dpL]
      omega)
    have sl : ∀ s : Sto, slF (keyR r) none (some 2) s = some (take2 (keyR r), s) := fun s => by rw [ek]; rfl
    have bl : ∀ s : Sto, biF .list [bodyD r] s = some (.ref s.length, s ++ [.lst b]) := fun s => by rw [eb]; rfl
    have rl : callF (go 19) 44 [keyR r, .ref s.length] (s ++ [.lst b]) = ok (.bl false) (s ++ [.lst b]) := rec_list (xs := b) hr (by simp)
    refine ⟨s ++ [.lst b], Pre.app, ?_⟩
    rw [turn_tp rfl]
    simp [recB, b112, setAll, F.is_, F.wr, F.rd, sm, sl, F.no2, F.noN, bl, rl]
  · cases sh
theorem recs_len : recs.length = 9 := by decide +kernel
theorem recs_mem {v : D} (h : v ∈ recs) : ∃ r, r < 9 ∧ v = .tup [keyR r, bodyD r] := by
  obtain ⟨r, hr, e⟩ := List.getElem_of_mem h
  rw [recs_len] at hr
  refine ⟨r, hr, ?_⟩
  have := (rec_f hr).at_
  rw [List.getElem?_eq_getElem (by rw [recs_len]; exact hr)] at this
  rw [← e]
  exact Option.some.inj this
theorem rec_loop {e0 e1 e2 e3 e4 e5 e6 e9 e10 : Option D} : ∀ (xs : List D) (s : Sto) (o7 o8 : Option D), (∀ v ∈ xs, v ∈ recs) → ∃ s' p7 p8, Pre s s' ∧ loopL (turn tab.cds (go 19) hotL tab.sub (.tp [7, 8]) recB) xs [e0, e1, e2, e3, e4, e5, e6, o7, o8, e9, e10] s = ok (.nx [e0, e1, e2, e3, e4, e5, e6, p7, p8, e9, e10]) s'
  | [], s, o7, o8, _ => ⟨s, o7, o8, Pre.refl, rfl⟩
  | v :: xs, s, o7, o8, h => by
    obtain ⟨r, hr, rfl⟩ := recs_mem (h v (List.mem_cons_self ..))
    obtain ⟨s1, p1, e1'⟩ := rec_turn hr (e0 := e0) (e1 := e1) (e2 := e2) (e3 := e3) (e4 := e4) (e5 := e5) (e6 := e6) (o7 := o7) (o8 := o8) (e9 := e9) (e10 := e10) (s := s)
    obtain ⟨s2, q7, q8, p2, e2'⟩ := rec_loop (e0 := e0) (e1 := e1) (e2 := e2) (e3 := e3) (e4 := e4) (e5 := e5) (e6 := e6) (e9 := e9) (e10 := e10) xs s1 (some (keyR r)) (some (bodyD r)) fun w hw => h w (List.mem_cons_of_mem _ hw)
    exact ⟨s2, q7, q8, p1.trans p2, by rw [loopL, e1', bind_okS, nextL, e2']⟩
theorem rec_for {a : Nat} {e0 e1 e2 e3 e4 e5 e6 o7 o8 e9 e10 : Option D} {s : Sto} (hs : s[a]? = some (.lst recs)) : ∃ s' p7 p8, Pre s s' ∧ forK tab.cds (go 19) hotL tab.sub (.tp [7, 8]) recB [e0, e1, e2, e3, e4, e5, e6, o7, o8, e9, e10] (.lst a 0) s = ok (.nx [e0, e1, e2, e3, e4, e5, e6, p7, p8, e9, e10]) s' := by
  obtain ⟨s2, q7, q8, p2, e2'⟩ := rec_loop (e0 := e0) (e1 := e1) (e2 := e2) (e3 := e3) (e4 := e4) (e5 := e5) (e6 := e6) (e9 := e9) (e10 := e10) recs s o7 o8 fun v h => h
  have q := forK_lst (cds := tab.cds) (cf := go 19) (hot := hotL) (sub := tab.sub) (t := .tp [7, 8]) (b := recB) (env := [e0, e1, e2, e3, e4, e5, e6, o7, o8, e9, e10]) (s := s) (a := a) (xs := recs)
    (fun _ env s' => Pre s s' ∧ ∃ o7 o8, env = [e0, e1, e2, e3, e4, e5, e6, o7, o8, e9, e10]) ⟨Pre.refl, o7, o8, rfl⟩ (fun _ env s' hi => hi.1.get hs)
    (fun i y env s' hy ⟨hp, o7, o8, he⟩ f s3 ht => by
      subst he
      obtain ⟨r, hr, rfl⟩ := recs_mem (List.mem_of_getElem? hy)
      obtain ⟨s4, p4, e4'⟩ := rec_turn hr (e0 := e0) (e1 := e1) (e2 := e2) (e3 := e3) (e4 := e4) (e5 := e5) (e6 := e6) (o7 := o7) (o8 := o8) (e9 := e9) (e10 := e10) (s := s')
      rw [e4'] at ht
      cases ht
      exact ⟨fun e h => (by cases h; exact ⟨hp.trans p4, _, _, rfl⟩), fun e h => (by cases h)⟩)
  exact ⟨s2, q7, q8, p2, by rw [q, e2']⟩
/-! ### the bent ones -/
def spS : Nat × Sto := match go 19 108 [] [] with
  | some (.ok (.ref m) st) => (m, st)
  | _ => (0, [])
def isRef : O D → Bool
  | some (.ok (.ref _) _) => true
  | _ => false
theorem sp_run : go 19 108 [] [] = ok (.ref spS.1) spS.2 := by
  have h : isRef (go 19 108 [] []) = true := by decide +kernel
  unfold spS
  generalize go 19 108 [] [] = r at h ⊢
  unfold isRef at h
  split at h
  · rfl
  · cases h
def spL : List D := match spS.2[spS.1]? with
  | some (.lst xs) => xs
  | _ => []
def isLst : Option Ob → Bool
  | some (.lst _) => true
  | _ => false
theorem sp_at : spS.2[spS.1]? = some (.lst spL) := by
  have h : isLst spS.2[spS.1]? = true := by decide +kernel
  unfold spL
  generalize spS.2[spS.1]? = r at h ⊢
  unfold isLst at h
  split at h
  · rfl
  · cases h
def spOk : D → Bool
  | .tup [a, b, c, e] => good a && (good b && (good c && (good e && isF (go 19 44 [.tup [a, b, c], e] []))))
  | _ => false
theorem sp_all : spL.all spOk = true := by decide +kernel
theorem sp_good : goodL spL = true := by
  refine goodL_of fun v hv => ?_
  have := List.all_eq_true.mp sp_all v hv
  unfold spOk at this
  split at this
  · simp only [Bool.and_eq_true] at this
    simp [good, goodL, this.1, this.2.1, this.2.2.1, this.2.2.2.1]
  · cases this
theorem c_sp {s : Sto} : ∃ b s', Pre s s' ∧ s'[b]? = some (.lst spL) ∧ callF (go 19) 108 [] s = ok (.ref b) s' := by
  refine ⟨spS.1 + s.length, s ++ spS.2.map (Ob.sh s.length), Pre.app, ?_, ?_⟩
  · rw [List.getElem?_append_right (by omega), Nat.add_sub_cancel, List.getElem?_map, sp_at]
    simp only [Option.map_some, Ob.sh]
    rw [sh_pureL _ _ (good_pureL _ sp_good)]
  · rw [call_pureS rfl sp_run rfl]
    simp only [D.sh]
abbrev spB : Ss := match b112 with
  | .cons _ (.cons _ (.cons _ (.cons _ (.cons _ (.cons _ (.cons _ (.cons _ (.cons _ (.cons (.for _ _ b) _))))))))) => b
  | _ => .nil
theorem sp_for {a : Nat} {e0 e1 e2 e3 e4 e5 o6 e7 e8 e9 e10 : Option D} {s : Sto} (hs : s[a]? = some (.lst spL)) : ∃ p6, forK tab.cds (go 19) hotL tab.sub (.nm 6) spB [e0, e1, e2, e3, e4, e5, o6, e7, e8, e9, e10] (.lst a 0) s = ok (.nx [e0, e1, e2, e3, e4, e5, p6, e7, e8, e9, e10]) s := by
  obtain ⟨o', e⟩ := forK_chk (cds := tab.cds) (cf := go 19) (hot := hotL) (sub := tab.sub) (t := .nm 6) (b := spB) (E := fun o => [e0, e1, e2, e3, e4, e5, o, e7, e8, e9, e10]) (p := fun _ => true) (bad := .non) (o := o6) hs fun v hv o => by
    rw [if_pos rfl]
    have := List.all_eq_true.mp sp_all v hv
    unfold spOk at this
    split at this
    · rename_i a b c e
      simp only [Bool.and_eq_true] at this
      obtain ⟨g1, g2, g3, g4, g5⟩ := this
      have cf : ∀ s : Sto, callF (go 19) 44 [.tup [a, b, c], e] s = ok (.bl false) s := fun s => c_isF (by simp [pureL, D.pure, good_pure _ g1, good_pure _ g2, good_pure _ g3, good_pure _ g4]) g5
      have sl : ∀ s : Sto, slF (.tup [a, b, c, e]) none (some 3) s = some (.tup [a, b, c], s) := fun s => rfl
      have ix : ∀ s : Sto, ixF tab.cds (.tup [a, b, c, e]) (.int 3) s = some e := fun s => rfl
      simp [spB, b112, sl, ix, cf]
    · cases this
  refine ⟨o', ?_⟩
  rw [e]
  simp
end K91
end
section
set_option Elab.async false
set_option linter.all false
set_option maxRecDepth 100000
set_option autoImplicit false
namespace K91
open PySem Ev
/-! ### two records in one text -/
def twoR (i k : Nat) : Bool := isT (go 19 110 [.str (txtR i ++ txtR ((i + 1 + k) % 9))] [])
theorem two0 : ((List.range 8).all (twoR 0)) = true := by decide +kernel
theorem two1 : ((List.range 8).all (twoR 1)) = true := by decide +kernel
theorem two2 : ((List.range 8).all (twoR 2)) = true := by decide +kernel
theorem two3 : ((List.range 8).all (twoR 3)) = true := by decide +kernel
theorem two4 : ((List.range 8).all (twoR 4)) = true := by decide +kernel
theorem two5 : ((List.range 8).all (twoR 5)) = true := by decide +kernel
theorem two6 : ((List.range 8).all (twoR 6)) = true := by decide +kernel
theorem two7 : ((List.range 8).all (twoR 7)) = true := by decide +kernel
theorem two8 : ((List.range 8).all (twoR 8)) = true := by decide +kernel
theorem two_all {i k : Nat} (hi : i < 9) (hk : k < 8) : twoR i k = true := by
  have hm : k ∈ List.range 8 := List.mem_range.mpr hk
  have : i = 0 ∨ i = 1 ∨ i = 2 ∨ i = 3 ∨ i = 4 ∨ i = 5 ∨ i = 6 ∨ i = 7 ∨ i = 8 := by omega
  rcases this with rfl | rfl | rfl | rfl | rfl | rfl | rfl | rfl | rfl
  · exact List.all_eq_true.mp two0 k hm
  · exact List.all_eq_true.mp two1 k hm
  · exact List.all_eq_true.mp two2 k hm
  · exact List.all_eq_true.mp two3 k hm
  · exact List.all_eq_true.mp two4 k hm
  · exact List.all_eq_true.mp two5 k hm
  · exact List.all_eq_true.mp two6 k hm
  · exact List.all_eq_true.mp two7 k hm
  · exact List.all_eq_true.mp two8 k hm
theorem c_two {i k : Nat} (hi : i < 9) (hk : k < 8) (s : Sto) : callF (go 19) 110 [.str (txtR i ++ txtR ((i + 1 + k) % 9))] s = ok (.bl true) s := c_isT rfl (two_all hi hk)
theorem c_none (s : Sto) : callF (go 19) 110 [.str [35, 32, 110, 111, 110, 101]] s = ok (.bl true) s := c_isT rfl (by decide +kernel)
end K91
end
section
set_option Elab.async false
set_option linter.all false
set_option maxRecDepth 100000
set_option autoImplicit false
namespace K91
open PySem Ev
abbrev lawEnv (sc o1 o2 o3 o4 o5 o6 o7 o8 o9 o10 : Option D) : Ev.Env := [sc, o1, o2, o3, o4, o5, o6, o7, o8, o9, o10]
theorem frz_pure {l : List Int} : pureL (l.map D.int) = true := by
  induction l with
  | nil => rfl
  | cons x l ih => simp [pureL, D.pure, ih]
abbrev w4 : Txt := [97, 46, 98, 49, 46, 99, 46, 100]
abbrev w5 : Txt := [97, 98, 99, 100, 101, 102, 103, 104, 105, 106, 107, 108]
abbrev w6 : Txt := [97, 98, 99, 100, 101, 102, 103, 104, 105, 106, 107, 108, 109]
theorem cut_30_50 {ns : List Int} (h : ns.length = 60) : ∃ ms : List Int, cut (ns.map D.int) (some 30) (some 50) = ms.map .int ∧ ms.length = 20 ∧ ∀ m ∈ ms, m ∈ ns := by
  refine ⟨(ns.drop 30).take 20, ?_, by simp [h], fun m hm => List.mem_of_mem_drop (List.mem_of_mem_take hm)⟩
  unfold cut
  have b1 : Ev.bound (ns.map D.int).length 0 (some 30) = 30 := by
    unfold Ev.bound
    simp only []
    rw [if_neg (by decide), List.length_map, h]
    rfl
  have b2 : Ev.bound (ns.map D.int).length (ns.map D.int).length (some 50) = 50 := by
    unfold Ev.bound
    simp only []
    rw [if_neg (by decide), List.length_map, h]
    rfl
  rw [b1, b2, List.map_take, List.map_drop]
theorem law_true (script : List Int) : ∃ s', go 20 112 [.frz false (script.map .int)] [] = ok (.bl true) s' := by
  show ∃ s', go (19 + 1) 112 [.frz false (script.map .int)] [] = _
  rw [go_at (t := f112) rfl rfl]
  -- the numbers
  obtain ⟨ns, cells, hN, e1⟩ := stream_ok (d := 18) (script := script)
  obtain ⟨S1, hS1⟩ : ∃ S1 : Sto, S1 = [.lst (ns.map .int), .lst (shL 0 cells)] := ⟨_, rfl⟩
  have c1 : callF (go 19) 97 [.frz false (script.map .int), .int 60] [] = ok (.ref 0) S1 := by
    rw [call_pureS (by simp [pureL, D.pure, frz_pure]) e1 rfl, hS1]
    simp only [D.sh, List.length_nil, List.map_cons, List.map_nil, Ob.sh, List.nil_append]
    rw [sh_pureL _ _ frz_pure]
  have g1 : S1[0]? = some (.lst (ns.map .int)) := by rw [hS1]; rfl
  have ix : ∀ (k : Nat), k < 60 → ∃ n, 0 ≤ n ∧ n < 1000 ∧ ∀ S : Sto, S[0]? = some (.lst (ns.map .int)) → ixF tab.cds (.ref 0) (.int (k : Int)) S = some (.int n) := fun k hk => by
    obtain ⟨n, e, h1, h2⟩ := hN.at_ hk
    exact ⟨n, h1, h2, fun S hS => by simp only [ixF, hS, at_nat, List.getElem?_map, e, Option.map_some]⟩
  -- the words
  obtain ⟨x1, wx1, e2⟩ := word_ok (d := 18) (base := 0) hN g1 (by omega)
  obtain ⟨x2, wx2, e3⟩ := word_ok (d := 18) (base := 15) hN g1 (by omega)
  obtain ⟨x3, wx3, e4⟩ := word_ok (d := 18) (base := 30) hN g1 (by omega)
  have c2 : callF (go 19) 99 [.ref 0, .int 0] S1 = ok (.str x1) S1 := by rw [call_ref rfl]; exact e2
  have c3 : callF (go 19) 99 [.ref 0, .int 15] S1 = ok (.str x2) S1 := by rw [call_ref rfl]; exact e3
  have c4 : callF (go 19) 99 [.ref 0, .int 30] S1 = ok (.str x3) S1 := by rw [call_ref rfl]; exact e4
  obtain ⟨ws, hws⟩ : ∃ ws : List Txt, ws = [x1, x2, x3, w4, w5, w6] := ⟨_, rfl⟩
  have wws : ∀ w ∈ ws, wd w = true := by
    intro w hw
    rw [hws] at hw
    simp only [List.mem_cons, List.not_mem_nil, or_false] at hw
    rcases hw with rfl | rfl | rfl | rfl | rfl | rfl
    · exact wx1
    · exact wx2
    · exact wx3
    · decide
    · decide
    · decide
  obtain ⟨S2, hS2⟩ : ∃ S2 : Sto, S2 = S1 ++ [.lst (ws.map .str)] := ⟨_, rfl⟩
  have L1 : S1.length = 2 := by rw [hS1]; rfl
  have g2 : S2[2]? = some (.lst (ws.map .str)) := by rw [hS2, ← L1]; simp
  have p2 : Pre S1 S2 := ⟨_, hS2⟩
  -- perhaps one of them again
  obtain ⟨n58, n58a, n58b, i58⟩ := ix 58 (by omega)
  obtain ⟨n59, n59a, n59b, i59⟩ := ix 59 (by omega)
  obtain ⟨ws2, S3, hw2, hl2, g3, k3, st3⟩ : ∃ (ws2 : List Txt) (S3 : Sto), (∀ w ∈ ws2, wd w = true) ∧ ws2.length ≤ 7 ∧ S3[2]? = some (.lst (ws2.map .str)) ∧ S3[0]? = some (.lst (ns.map .int)) ∧
      evS tab.cds (go 19) hotL tab.sub (.ite (.cmp .eq (.bin .mod (.bi .int (.cons (.ix (.var 1) (.cst (.int 59))) .nil)) (.cst (.int 2))) (.cst (.int 0))) (.cons (.exp (.met .append (.var 2) (.cons (.ix (.var 2) (.bin .mod (.bi .int (.cons (.ix (.var 1) (.cst (.int 58))) .nil)) (.cst (.int 6)))) .nil))) .nil) .nil) (lawEnv (some (.frz false (script.map .int))) (some (.ref 0)) (some (.ref 2)) none none none none none none none none) S2 =
        ok (.nx (lawEnv (some (.frz false (script.map .int))) (some (.ref 0)) (some (.ref 2)) none none none none none none none none)) S3 := by
    have a59 : ixF tab.cds (.ref 0) (.int 59) S2 = some (.int n59) := i59 S2 (p2.get g1)
    have a58 : ixF tab.cds (.ref 0) (.int 58) S2 = some (.int n58) := i58 S2 (p2.get g1)
    cases hq : (n59 % 2 == 0) with
    | false =>
      refine ⟨ws, S2, wws, by rw [hws]; show 6 ≤ 7; decide, g2, p2.get g1, ?_⟩
      simp [lawEnv, a59, hq]
    | true =>
      obtain ⟨k, hk⟩ := Int.eq_ofNat_of_zero_le (show 0 ≤ n58 % 6 by omega)
      have hk6 : k < ws.length := by rw [hws]; show k < 6; omega
      have aw : ixF tab.cds (.ref 2) (.int (n58 % 6)) S2 = some (.str ws[k]) := by
        rw [hk]
        simp only [ixF, g2, at_nat, List.getElem?_map, List.getElem?_eq_getElem hk6, Option.map_some]
      have hm : ws[k] ∈ ws := List.getElem_mem hk6
      have lws : ws.length = 6 := by rw [hws]; rfl
      generalize ws[k] = w at aw hm
      refine ⟨ws ++ [w], S2.set 2 (.lst (ws.map .str ++ [.str w])), fun y hy => ?_, by simp; omega, ?_, ?_, ?_⟩
      · rcases List.mem_append.mp hy with h | h
        · exact wws y h
        · simp only [List.mem_cons, List.not_mem_nil, or_false] at h
          subst h
          exact wws _ hm
      · rw [List.getElem?_set_self (List.getElem?_eq_some_iff.mp g2).1]
        simp
      · rw [List.getElem?_set_ne (by decide)]
        exact p2.get g1
      · have m : metK tab.cds (go 19) .append (.cons (.ix (.var 2) (.bin .mod (.bi .int (.cons (.ix (.var 1) (.cst (.int 58))) .nil)) (.cst (.int 6)))) .nil) (lawEnv (some (.frz false (script.map .int))) (some (.ref 0)) (some (.ref 2)) none none none none none none none none) (.ref 2) S2 = ok .non (S2.set 2 (.lst (ws.map .str ++ [.str w]))) := by
          rw [metK_t (by simp only [recv, g2])]
          have sm : Ev.small ws.length = true := by rw [lws]; decide
          simp [lawEnv, a58, aw, metF, g2, sm]
        simp only [lawEnv] at m ⊢
        simp [a59, hq, m]
  -- the law of words
  obtain ⟨S4, e5, p4⟩ := words_ok (d := 14) g3 hw2 (by omega)
  have c5 : callF (go 19) 104 [.ref 2] S3 = ok (.bl true) S4 := by rw [call_ref rfl]; exact e5
  have k4 := p4.get k3
  -- fractions
  obtain ⟨n50, a50, b50, i50⟩ := ix 50 (by omega)
  obtain ⟨n51, a51, b51, i51⟩ := ix 51 (by omega)
  obtain ⟨n52, a52, b52, i52⟩ := ix 52 (by omega)
  obtain ⟨n53, a53, b53, i53⟩ := ix 53 (by omega)
  obtain ⟨n54, a54, b54, i54⟩ := ix 54 (by omega)
  obtain ⟨n55, a55, b55, i55⟩ := ix 55 (by omega)
  obtain ⟨n56, a56, b56, i56⟩ := ix 56 (by omega)
  obtain ⟨p, hp⟩ : ∃ p, p = n50 * 1000 + n51 - 400000 := ⟨_, rfl⟩
  obtain ⟨q, hq⟩ : ∃ q, q = 1 + n52 % 40 := ⟨_, rfl⟩
  obtain ⟨_, e6⟩ := fractions_ok (d := 14) (p := p) (q := q) (n := n53) (by omega) (by omega) (by omega)
  have c6 : ∀ s : Sto, callF (go 19) 106 [.int p, .int q, .int n53] s = ok (.bl true) s := fun s => call_pure rfl e6 rfl
  -- the shelf
  obtain ⟨ms, hms, hml, hmm⟩ := cut_30_50 hN.len
  obtain ⟨S5, hS5⟩ : ∃ S5 : Sto, S5 = S4 ++ [.lst (ms.map .int)] := ⟨_, rfl⟩
  have p5 : Pre S4 S5 := ⟨_, hS5⟩
  have g5 : S5[S4.length]? = some (.lst (ms.map .int)) := by rw [hS5]; simp
  obtain ⟨S6, e7, k6'⟩ := shelf_ok g5 hml fun m hm => hN.rng m (hmm m hm)
  have c7 : callF (go 19) 109 [.ref S4.length] S5 = ok (.bl true) S6 := by rw [call_ref rfl]; exact e7
  have k6 : S6[0]? = some (.lst (ns.map .int)) := by
    have := p5.get k4
    rw [k6' 0 (List.getElem?_eq_some_iff.mp this).1]
    exact this
  have sl : slF (.ref 0) (some 30) (some 50) S4 = some (.ref S4.length, S5) := by
    simp only [slF, k4, hms, new, hS5]
  -- the records
  obtain ⟨S7, hS7⟩ : ∃ S7 : Sto, S7 = S6 ++ [.lst recs] := ⟨_, rfl⟩
  have p7 : Pre S6 S7 := ⟨_, hS7⟩
  have g7 : S7[S6.length]? = some (.lst recs) := by rw [hS7]; simp
  have c8 : callF (go 19) 107 [] S6 = ok (.ref S6.length) S7 := by rw [hS7]; exact c_recs19
  obtain ⟨S8, q7, q8, p8, e9⟩ := rec_for (e0 := some (.frz false (script.map .int))) (e1 := some (.ref 0)) (e2 := some (.ref 2)) (e3 := some (.int p)) (e4 := some (.ref S6.length)) (e5 := none) (e6 := none) (o7 := none) (o8 := none) (e9 := none) (e10 := none) g7
  obtain ⟨b, S9, p9, g9, c10⟩ := c_sp (s := S8)
  obtain ⟨q6, e11⟩ := sp_for (e0 := some (.frz false (script.map .int))) (e1 := some (.ref 0)) (e2 := some (.ref 2)) (e3 := some (.int p)) (e4 := some (.ref S6.length)) (e5 := some (.ref b)) (o6 := none) (e7 := q7) (e8 := q8) (e9 := none) (e10 := none) g9
  have p79 := p7.trans (p8.trans p9)
  have k9 := p79.get k6
  have r9 := (p8.trans p9).get g7
  -- two of them
  obtain ⟨i, hi⟩ := Int.eq_ofNat_of_zero_le (show 0 ≤ n54 % 9 by omega)
  obtain ⟨k, hk⟩ := Int.eq_ofNat_of_zero_le (show 0 ≤ n55 % 8 by omega)
  have hi9 : i < 9 := by omega
  have hk8 : k < 8 := by omega
  obtain ⟨j, hj⟩ : ∃ j, j = (i + 1 + k) % 9 := ⟨_, rfl⟩
  have hj9 : j < 9 := by omega
  have hjz : (n54 + 1 + n55 % 8) % 9 = (j : Int) := by omega
  have Fi := rec_f hi9
  have Fj := rec_f hj9
  have ri : ixF tab.cds (.ref S6.length) (.int (i : Int)) S9 = some (.tup [keyR i, bodyD i]) := by simp only [ixF, r9, at_nat, Fi.at_]
  have rj : ixF tab.cds (.ref S6.length) (.int (j : Int)) S9 = some (.tup [keyR j, bodyD j]) := by simp only [ixF, r9, at_nat, Fj.at_]
  have two := c_two hi9 hk8
  rw [← hj] at two
  have sm : Ev.small ((txtR i).length + (txtR j).length) = true := small_le (m := 10000) (by have := Fi.tl; have := Fj.tl; omega) (by decide)
  -- orders
  obtain ⟨_, e12⟩ := orders_ok (a := n56) a56 b56
  have c12 : ∀ s : Sto, callF (go 19) 111 [.int n56] s = ok (.bl true) s := fun s => call_pure rfl e12 rfl
  refine ⟨S9, ?_⟩
  rw [show f112.body = b112 from rfl]
  unfold b112
  rw [show (List.map some [D.frz false (script.map D.int)] ++ List.replicate (f112.nl - f112.np) none : Ev.Env) = lawEnv (some (.frz false (script.map .int))) none none none none none none none none none none from rfl]
  rw [step (env' := lawEnv (some (.frz false (script.map .int))) (some (.ref 0)) none none none none none none none none none) (s' := S1) (by simp [lawEnv, c1])]
  rw [step (env' := lawEnv (some (.frz false (script.map .int))) (some (.ref 0)) (some (.ref 2)) none none none none none none none none) (s' := S2) (by
    simp [lawEnv, c2, c3, c4]
    rw [hS2, hws, L1]
    rfl)]
  rw [step st3]
  rw [step (env' := lawEnv (some (.frz false (script.map .int))) (some (.ref 0)) (some (.ref 2)) none none none none none none none none) (s' := S4) (by simp [lawEnv, c5])]
  rw [step (env' := lawEnv (some (.frz false (script.map .int))) (some (.ref 0)) (some (.ref 2)) (some (.int p)) none none none none none none none) (s' := S4) (by
    have h50 : ixF tab.cds (.ref 0) (.int 50) S4 = some (.int n50) := i50 S4 k4
    have h51 : ixF tab.cds (.ref 0) (.int 51) S4 = some (.int n51) := i51 S4 k4
    simp [lawEnv, h50, h51, zb_mulr (show Nat.blt (1000 : Int).natAbs big = true by decide), hp])]
  rw [step (env' := lawEnv (some (.frz false (script.map .int))) (some (.ref 0)) (some (.ref 2)) (some (.int p)) none none none none none none none) (s' := S6) (by
    have h52 : ixF tab.cds (.ref 0) (.int 52) S4 = some (.int n52) := i52 S4 k4
    have h53 : ixF tab.cds (.ref 0) (.int 53) S4 = some (.int n53) := i53 S4 k4
    rw [hq] at c6
    simp [lawEnv, h52, h53, c6, sl, c7])]
  rw [step (env' := lawEnv (some (.frz false (script.map .int))) (some (.ref 0)) (some (.ref 2)) (some (.int p)) (some (.ref S6.length)) none none none none none none) (s' := S7) (by simp [lawEnv, c8])]
  rw [step (env' := lawEnv (some (.frz false (script.map .int))) (some (.ref 0)) (some (.ref 2)) (some (.int p)) (some (.ref S6.length)) none none q7 q8 none none) (s' := S8) (by
    have sq : seqK (.ref S6.length) S7 = ok (.lst S6.length 0) S7 := seqK_ref g7
    rw [s_for, i_seq]
    have ev : evE tab.cds (go 19) (.var 4) (lawEnv (some (.frz false (script.map .int))) (some (.ref 0)) (some (.ref 2)) (some (.int p)) (some (.ref S6.length)) none none none none none none) S7 = ok (.ref S6.length) S7 := by simp [lawEnv]
    rw [ev, bind_okS, sq, bind_okS]
    exact e9)]
  rw [step (env' := lawEnv (some (.frz false (script.map .int))) (some (.ref 0)) (some (.ref 2)) (some (.int p)) (some (.ref S6.length)) (some (.ref b)) none q7 q8 none none) (s' := S9) (by simp [lawEnv, c10])]
  rw [step (env' := lawEnv (some (.frz false (script.map .int))) (some (.ref 0)) (some (.ref 2)) (some (.int p)) (some (.ref S6.length)) (some (.ref b)) q6 q7 q8 none none) (s' := S9) (by
    have sq : seqK (.ref b) S9 = ok (.lst b 0) S9 := seqK_ref g9
    rw [s_for, i_seq]
    have ev : evE tab.cds (go 19) (.var 5) (lawEnv (some (.frz false (script.map .int))) (some (.ref 0)) (some (.ref 2)) (some (.int p)) (some (.ref S6.length)) (some (.ref b)) none q7 q8 none none) S9 = ok (.ref b) S9 := by simp [lawEnv]
    rw [ev, bind_okS, sq, bind_okS]
    exact e11)]
  have h54 : ixF tab.cds (.ref 0) (.int 54) S9 = some (.int n54) := i54 S9 k9
  have h55 : ixF tab.cds (.ref 0) (.int 55) S9 = some (.int n55) := i55 S9 k9
  have h56 : ixF tab.cds (.ref 0) (.int 56) S9 = some (.int n56) := i56 S9 k9
  rw [step (env' := lawEnv (some (.frz false (script.map .int))) (some (.ref 0)) (some (.ref 2)) (some (.int p)) (some (.ref S6.length)) (some (.ref b)) q6 q7 q8 (some (.tup [keyR i, bodyD i])) (some (.tup [keyR j, bodyD j]))) (s' := S9) (by
    rw [← hi] at ri
    rw [← hjz] at rj
    simp [lawEnv, h54, h55, ri, rj])]
  rw [step (env' := lawEnv (some (.frz false (script.map .int))) (some (.ref 0)) (some (.ref 2)) (some (.int p)) (some (.ref S6.length)) (some (.ref b)) q6 q7 q8 (some (.tup [keyR i, bodyD i])) (some (.tup [keyR j, bodyD j]))) (s' := S9) (by
    have x0 : ∀ r, ixF tab.cds (.tup [keyR r, bodyD r]) (.int 0) S9 = some (keyR r) := fun r => rfl
    have x1 : ∀ r, ixF tab.cds (.tup [keyR r, bodyD r]) (.int 1) S9 = some (bodyD r) := fun r => rfl
    have ad : binF .add (.str (txtR i)) (.str (txtR j)) S9 = some (.str (txtR i ++ txtR j), S9) := by simp only [binF, sm, if_true]
    simp [lawEnv, x0, x1, Fi.wr, Fj.wr, ad, two, c_none])]
  simp [lawEnv, h56, c12]
end K91
end
set_option Elab.async false
set_option linter.all false
set_option maxRecDepth 100000
set_option autoImplicit false
set_option maxHeartbeats 0
namespace K91
open PySem Ev
theorem law_run (script : List Int) : ∃ s', run tab.cds (runH tab.cds tab.sub tab.tbh) tab.sub tab.tb 20 112 [.frz false (script.map .int)] [] = ok (D.bl true) s' := by
  rw [tb_eq]
  exact law_true script
theorem sub_mem : ∀ c j b, tab.sub c j = some b → (c, j, b) ∈ tab.subs := by
  intro c j b h
  have h : (if c < exs.length ∧ j < exs.length then some (subF 9 c j) else none) = some b := h
  split at h
  · rename_i hc
    cases h
    show _ ∈ subs
    unfold subs
    rw [List.mem_flatMap]
    exact ⟨c, List.mem_range.mpr hc.1, List.mem_map.mpr ⟨j, List.mem_range.mpr hc.2, rfl⟩⟩
  · cases h
end K91
open PySem PySem.W PySem.Calls PyProof.Rows
theorem PySem.Challenge.cw_millbench_k91_names_fractions_records_holds : PySem.Challenge.rw_millbench_k91_names_fractions_records.Holds := by
  w_on; o_law
  refine HandSHeadRun.head_imp (r := K91.R) (q := K91.qv) (H := K91.hk) (ob := K91.ob) (M := 8000) (loose := K91.loose) (d := HandSHeadRun.topDef K91.R.prog 156) (kwd := []) K91.ob_eq K91.top_run
    (by kernel_rfl) (by kernel_rfl) (by kernel_rfl) (by rfl) (by first | assumption | decide +kernel) (by decide +kernel) ⟨rfl, rfl, rfl, rfl, rfl, by decide +kernel⟩ ?hw ?hc
  case hw => w_witness2
  case hc =>
    exact Ev.law_end (l := PySem.Challenge.rw_millbench_k91_names_fractions_records) K91.tab K91.as 112 (1, ["script", "numbers", "words", "p", "records", "spoilt", "row", "key", "body", "first", "second"]) (K91.tab.defs.getD 112 K91.noDa) "script"
      rfl (by kernel_rfl) K91.tab_ok K91.sub_mem (by decide +kernel) (by decide +kernel) (by kernel_rfl) (by kernel_rfl) rfl (by kernel_rfl) K91.law_run
