import PyProof.Rows.All
import PySem.Syntax
import PySem.PyData
import PyProof.P3Statements
import PyProof.EqLayable
import HandS.Text
import KE.SortData
import Wide.All
import OpenK.AllK
import Wide.FinOn
import HandS.Base
import HandS.Call
import HandS.List
import HandS.Comp
import HandS.Ends
import HandS.Dict
import HandS.Iter
import HandS.Exc
import HandS.ExcOwn
import HandS.Words
import HandS.WordsExc
import HandS.HeadHook1
import HandS.HeadHook2
import HandS.TupAny
import HandS.Wide
import HandS.Deep
import HandS.OwnEq
import HandS.IsInst
import HandS.Small
import HandS.AnyAll
import HandS.SortInts
import HandS.TupLen
import HandS.More
import HandS.Walk
import HandS.Zip
import HandS.Rev
import KE.GoesEnum
import KE.GoesZip
import KE.GoesMore
import HandS.Style
import HandS.Conv
import HandS.SetFor
import HandS.Strs
import HandS.IterVal
import HandS.Head0
import HandS.Head1
import HandS.Head2
import HandS.HeadEnd
import HandS.HeadHook4
import PySem.Challenge.RW_roundcopies_k09_whole_what_is_lost_for_g
import KE.DataEq
import KE.KStateDown
set_option Elab.async false
set_option linter.all false
set_option maxRecDepth 100000
/-! PyA: a small language of plain data, its values, its heap of named things, and what its texts mean. -/
namespace Py
open PySem (Str PyData)

/-- plain values; obj n: a thing by its name; rol: a list that is only read -/
inductive D where
  | non | bl (b : Bool) | int (i : Int) | str (s : Str) | tup (xs : List D) | obj (n : Nat) | rol (xs : List D)
  | fnv (x : String) | exc (c : String) (fs : List (String × D))
  deriving Inhabited
abbrev Key := Sum Int Str
/-- a dict's pairs: the keys ints and texts, or tuples of them -/
inductive Dc where
  | k (kvs : List (Key × D)) | t (kvs : List (List Key × D))
/-- things that may change -/
inductive O where
  | lst (xs : List D) | dct (d : Dc) (lk : Bool) | ins (c : String) (fs : List (String × D))
/-- things by their names -/
structure Hd where
  sz : Nat
  at_ : Nat → Option O
def Hd.new (h : Hd) (o : O) : Hd := ⟨h.sz + 1, fun n => if n = h.sz then some o else h.at_ n⟩
def Hd.put (h : Hd) (m : Nat) (o : O) : Hd := ⟨h.sz, fun n => if n = m then some o else h.at_ n⟩
def Hd.nil : Hd := ⟨0, fun _ => none⟩
/-- a value on the way: named or plain; a list, a dict that has no name yet -/
inductive TV where
  | v (d : D) | l (xs : List D) | d (d : Dc)

inductive R (α : Type) where
  | ok (a : α) (h : Hd) | ex (c : String) (fs : List (String × D)) (h : Hd)
abbrev Res (α : Type) := Option (R α)
@[reducible] def rok {α : Type} (a : α) (h : Hd) : Res α := some (.ok a h)
def bnd {α β : Type} (m : Res α) (f : α → Hd → Res β) : Res β := match m with
  | some (.ok a h) => f a h
  | some (.ex c fs h) => some (.ex c fs h)
  | none => none
@[simp] theorem bnd_ok {α β : Type} (a : α) (h : Hd) (f : α → Hd → Res β) : bnd (some (.ok a h)) f = f a h := rfl
@[simp] theorem bnd_ex {α β : Type} (c : String) (fs : List (String × D)) (h : Hd) (f : α → Hd → Res β) : bnd (some (.ex c fs h)) f = some (.ex c fs h) := rfl
@[simp] theorem bnd_none {α β : Type} (f : α → Hd → Res β) : bnd none f = none := rfl
/-- within a comprehension nothing is raised -/
def bnn {α β : Type} (m : Res α) (f : α → Hd → Res β) : Res β := match m with
  | some (.ok a h) => f a h
  | _ => none
@[simp] theorem bnn_ok {α β : Type} (a : α) (h : Hd) (f : α → Hd → Res β) : bnn (some (.ok a h)) f = f a h := rfl
@[simp] theorem bnn_ex {α β : Type} (c : String) (fs : List (String × D)) (h : Hd) (f : α → Hd → Res β) : bnn (some (.ex c fs h)) f = none := rfl
@[simp] theorem bnn_none {α β : Type} (f : α → Hd → Res β) : bnn none f = none := rfl
/-- a pure step -/
def lift {α : Type} (o : Option α) (h : Hd) : Res α := match o with
  | some a => some (.ok a h)
  | none => none
@[simp] theorem lift_some {α : Type} (a : α) (h : Hd) : lift (some a) h = some (.ok a h) := rfl
@[simp] theorem lift_none {α : Type} (h : Hd) : lift (none : Option α) h = none := rfl
abbrev Env := List (Option D)

/-- a value gets its name -/
def pro (x : TV) (h : Hd) : D × Hd := match x with
  | .v d => (d, h)
  | .l xs => (.obj h.sz, h.new (.lst xs))
  | .d kvs => (.obj h.sz, h.new (.dct kvs false))
def pros : List TV → Hd → List D × Hd
  | [], h => ([], h)
  | x :: xs, h => ((pro x h).1 :: (pros xs (pro x h).2).1, (pros xs (pro x h).2).2)

abbrev LINE : Nat := 16777216

/-! plain data -/
mutual
def toP : D → Option PyData
  | .non => some .none
  | .bl b => some (.bool b)
  | .int i => some (.int i)
  | .str s => some (.str s)
  | .tup xs => (toPs xs).map .tuple
  | _ => none
def toPs : List D → Option (List PyData)
  | [] => some []
  | x :: xs => match toP x, toPs xs with
    | some y, some ys => some (y :: ys)
    | _, _ => none
end
/-- the items of a list -/
def lstOf (x : TV) (h : Hd) : Option (List D) := match x with
  | .l xs => some xs
  | .v (.obj n) => (match h.at_ n with
    | some (.lst xs) => some xs
    | _ => none)
  | .v (.rol xs) => some xs
  | _ => none
/-- of a list or a tuple -/
def seqOf (x : TV) (h : Hd) : Option (List D) := match x with
  | .v (.tup xs) => some xs
  | x => lstOf x h
/-- of a list that may change -/
def mlst (x : TV) (h : Hd) : Option (List D) := match x with
  | .l xs => some xs
  | .v (.obj n) => (match h.at_ n with
    | some (.lst xs) => some xs
    | _ => none)
  | _ => none
def dctOf (x : TV) (h : Hd) : Option Dc := match x with
  | .d kvs => some kvs
  | .v (.obj n) => (match h.at_ n with
    | some (.dct kvs _) => some kvs
    | _ => none)
  | _ => none
/-- data of a value; a list's items are plain -/
def dat (x : TV) (h : Hd) : Option PyData := match x with
  | .v (.obj _) | .l _ | .v (.rol _) => (lstOf x h).bind fun xs => (toPs xs).map .list
  | .v d => toP d
  | .d _ => none
/-! ### keys -/
def kD : Key → D
  | .inl i => .int i
  | .inr s => .str s
def toKey : D → Option Key
  | .int i => some (.inl i)
  | .str s => some (.inr s)
  | _ => none
def toKeys : List D → Option (List Key)
  | [] => some []
  | x :: xs => match toKey x, toKeys xs with
    | some k, some ks => some (k :: ks)
    | _, _ => none
def tupKey : D → Option (List Key)
  | .tup xs => toKeys xs
  | _ => none
section
variable {κ α : Type} [DecidableEq κ]
def kLook (kvs : List (κ × α)) (k : κ) : Option α := (kvs.find? fun kv => decide (kv.1 = k)).map (·.2)
def kPut (kvs : List (κ × α)) (k : κ) (v : α) : List (κ × α) :=
  if (kvs.any fun kv => decide (kv.1 = k)) = true then kvs.map (fun kv => if kv.1 = k then (kv.1, v) else kv) else kvs ++ [(k, v)]
def kDrop (kvs : List (κ × α)) (k : κ) : List (κ × α) := kvs.filter fun kv => decide (kv.1 ≠ k)
def kMerge (kvs more : List (κ × α)) : List (κ × α) := more.foldl (fun acc kv => kPut acc kv.1 kv.2) kvs
end
def Dc.len : Dc → Nat
  | .k kvs => kvs.length
  | .t kvs => kvs.length
/-- what stands at a key; none: no such key can stand there -/
def Dc.look (d : Dc) (x : D) : Option (Option D) := match d with
  | .k kvs => (toKey x).map fun k => kLook kvs k
  | .t kvs => (tupKey x).map fun k => kLook kvs k
def Dc.put (d : Dc) (x v : D) : Option Dc := match d with
  | .k kvs => (toKey x).map fun k => .k (kPut kvs k v)
  | .t kvs => (tupKey x).map fun k => .t (kPut kvs k v)
def Dc.drop (d : Dc) (x : D) : Option Dc := match d with
  | .k kvs => (toKey x).map fun k => .k (kDrop kvs k)
  | .t kvs => (tupKey x).map fun k => .t (kDrop kvs k)
def Dc.keys : Dc → List D
  | .k kvs => kvs.map fun kv => kD kv.1
  | .t kvs => kvs.map fun kv => .tup (kv.1.map kD)
def Dc.items : Dc → List D
  | .k kvs => kvs.map fun kv => .tup [kD kv.1, kv.2]
  | .t kvs => kvs.map fun kv => .tup [.tup (kv.1.map kD), kv.2]

/-! ### texts -/
inductive BOp where
  | add | sub | mul | fdiv | mod | pow | shl | shr | band | bor
  deriving DecidableEq
inductive COp where
  | eq | ne | lt | le | gt | ge | inn | nin | iss | isn
  deriving DecidableEq

mutual
inductive E where
  | var (i : Nat) | cst (d : D) | gc (x : String) (d : D) | fnr (x : String)
  | bin (o : BOp) (a b : E) | neg (a : E) | nt (a : E)
  | cmp (o : COp) (cs : List String) (a b : E) | chn (o p : COp) (a b c : E)
  | band (a b : E) | bor (a b : E) | ite (c a b : E)
  | fld (a : E) (f : String) (cs : List String) | idx (a b : E) | slc (a lo hi : E) | rev (a : E)
  | tup (es : Es) | lst (es : Es) | dct (t : Bool) (kvs : Es)
  | lc (tg : Tg) (own : List Nat) (it : It) (ifs : Es) (el : E)
  | dc (t : Bool) (tg : Tg) (own : List Nat) (it : It) (ifs : Es) (k v : E)
  | call (f : String) (es : Es) | mk (c : String) (es : Es) | bm (T m : String) (o : E) (es : Es) | meth (c m : String) (o : E) (es : Es)
  | blt (b : String) (es : Es) | itb (b : String) (it : It)
  | isi (a : E) (ts cs : List String) | callv (a : E) (es : Es) | sset (a : E)
inductive Es where
  | nil | cons (e : E) (es : Es)
inductive It where
  | seq (e : E) | rng (es : Es) | enm (e : E) | zip (a b : E) | rvd (e : E)
inductive Tg where
  | nm (i : Nat) | tp (ts : Tgs) | ix (o i : E) | fd (o : E) (f : String) (cs : List String)
inductive Tgs where
  | nil | cons (t : Tg) (ts : Tgs)
end
mutual
inductive S where
  | asg (tg : Tg) (e : E) | par (is : List Nat) (es : Es)
  | aug (i : Nat) (o : BOp) (e : E) | augx (o i : E) (op : BOp) (e : E)
  | ex (e : E) | ret (e : E) | retn | ifs (c : E) (a b : Ss)
  | forr (tg : Tg) (it : It) (b : Ss) | whl (c : E) (b : Ss)
  | rse (c : String) (f : Option String) (es : Es) | pass
  | zret (i : Nat) (a b : E) (f : String) (j : Nat) (tg : Tg) (own : List Nat) (el : E)
  | tri (b : Ss) (hs : Hs)
inductive Ss where
  | nil | cons (s : S) (ss : Ss)
/-- handlers: the class, the name's place, the suite -/
inductive Hs where
  | nil | cons (c : String) (i : Option Nat) (b : Ss) (hs : Hs)
end

/-! ### operations on values -/
def natAbsLt (i : Int) (n : Nat) : Prop := i.natAbs < n
open Classical in
noncomputable def binop (o : BOp) (x y : TV) (h : Hd) : Option TV := match o, x, y with
  | .add, .v (.int i), .v (.int j) => some (.v (.int (i + j)))
  | .sub, .v (.int i), .v (.int j) => some (.v (.int (i - j)))
  | .mul, .v (.int i), .v (.int j) => if (i.natAbs < 2 ^ 64 ∨ j.natAbs < 2 ^ 64) ∨ (i.natAbs < 2 ^ 4000 ∧ j.natAbs < 2 ^ 4000) then some (.v (.int (i * j))) else none
  | .fdiv, .v (.int i), .v (.int j) => if 0 < j ∧ j < 2 ^ 200 then some (.v (.int (i / j))) else none
  | .mod, .v (.int i), .v (.int j) => if 0 < j then some (.v (.int (i % j))) else none
  | .pow, .v (.int i), .v (.int j) => if 0 ≤ j ∧ j ≤ 1000000 ∧ i.natAbs < 2 ^ 64 then some (.v (.int (i ^ j.toNat))) else none
  | .shl, .v (.int i), .v (.int j) => if 0 ≤ j ∧ j ≤ 1000000 ∧ i.natAbs < 2 ^ 64 then some (.v (.int (i * 2 ^ j.toNat))) else none
  | .shr, .v (.int i), .v (.int j) => if 0 ≤ j then some (.v (.int (i / 2 ^ j.toNat))) else none
  | .band, .v (.int i), .v (.int j) => some (.v (.int (PySem.Builtin.bitAnd i j)))
  | .bor, .v (.int i), .v (.int j) => some (.v (.int (PySem.Builtin.bitOr i j)))
  | .add, .v (.str s), .v (.str t) => if s.length + t.length ≤ LINE then some (.v (.str (s ++ t))) else none
  | .add, .v (.tup xs), .v (.tup ys) => if xs.length + ys.length ≤ LINE then some (.v (.tup (xs ++ ys))) else none
  | .add, x, y => match mlst x h, mlst y h with
    | some xs, some ys => if xs.length + ys.length ≤ LINE then some (.l (xs ++ ys)) else none
    | _, _ => none
  | .mul, x, .v (.int k) => match mlst x h with
    | some xs => if xs.length * k.toNat ≤ LINE ∧ k < 2 ^ 60 ∧ -(2 ^ 60) < k then some (.l (List.replicate k.toNat xs).flatten) else none
    | none => none
  | _, _, _ => none
def TV.isNon : TV → Bool
  | .v .non => true
  | _ => false
/-! a comparison of values that are no objects of own classes -/
open Classical in
noncomputable def cmpop (o : COp) (x y : TV) (h : Hd) : Option Bool := match o with
  | .eq => (match x, y with
    | .v (.str a), .v (.str b) => some (decide (a = b))
    | x, y => match dat x h, dat y h with
      | some a, some b => if PySem.SeqAt.shaped a = true ∧ PySem.SeqAt.shaped b = true then some (PyData.eqv a b) else none
      | _, _ => none)
  | .ne => (match x, y with
    | .v (.str a), .v (.str b) => some (!decide (a = b))
    | x, y => match dat x h, dat y h with
      | some a, some b => if PySem.SeqAt.shaped a = true ∧ PySem.SeqAt.shaped b = true then some (!PyData.eqv a b) else none
      | _, _ => none)
  | .lt => (match x, y with
    | .v (.int i), .v (.int j) => some (decide (i < j))
    | _, _ => none)
  | .le => (match x, y with
    | .v (.int i), .v (.int j) => some (decide (i ≤ j))
    | _, _ => none)
  | .gt => (match x, y with
    | .v (.int i), .v (.int j) => some (decide (j < i))
    | _, _ => none)
  | .ge => (match x, y with
    | .v (.int i), .v (.int j) => some (decide (j ≤ i))
    | _, _ => none)
  | .iss => (match y with
    | .v .non => some x.isNon
    | _ => none)
  | .isn => (match y with
    | .v .non => some (!x.isNon)
    | _ => none)
  | .inn => inOp x y h
  | .nin => (inOp x y h).map fun b => !b
where
  inOp (x y : TV) (h : Hd) : Option Bool := match x, y with
    | .v (.str s), .v (.str z) => (match s.cps.toList with
      | [c] => some (decide (c ∈ z.cps.toList))
      | _ => none)
    | .v k, y => match dctOf y h with
      | some d => (d.look k).map fun o => o.isSome
      | none => match seqOf y h with
        | some xs => match toP k, toPs xs with
          | some a, some bs => if PySem.SeqAt.shaped a = true ∧ PySem.SeqAt.shaped (.list bs) = true then some (bs.any fun b => PyData.eqv b a) else none
          | _, _ => none
        | none => none
    | _, _ => none

end Py


set_option Elab.async false
set_option linter.all false
set_option maxRecDepth 100000
/-! PyB: what the texts of PyA mean. -/
namespace Py
open PySem (Str PyData)

/-! ### built-ins -/
def isTy (x : TV) (h : Hd) (T : String) : Bool := match x with
  | .v .non => false
  | .v (.bl _) => T == "bool" || T == "int"
  | .v (.int _) => T == "int"
  | .v (.str _) => T == "str"
  | .v (.tup _) => T == "tuple"
  | .v (.rol _) => T == "list"
  | .v (.obj n) => (match h.at_ n with
    | some (.lst _) => T == "list"
    | some (.dct _ _) => T == "dict"
    | some (.ins _ _) => false
    | none => false)
  | .l _ => T == "list"
  | .d _ => T == "dict"
  | _ => false
def intsD : List D → Option (List Int)
  | [] => some []
  | .int i :: r => (intsD r).map (i :: ·)
  | _ => none
def boolsD : List D → Option (List Bool)
  | [] => some []
  | .bl i :: r => (boolsD r).map (i :: ·)
  | _ => none
def strsD : List D → Option (List Str)
  | [] => some []
  | .str i :: r => (strsD r).map (i :: ·)
  | _ => none
/-- the items of a tuple all of intsD -/
def rowsD : List D → Option (List (List Int))
  | [] => some []
  | .tup xs :: r => (match intsD xs, rowsD r with
    | some y, some ys => some (y :: ys)
    | _, _ => none)
  | _ => none
/-- sorted, of intsD -/
def sortD (xs : List D) : Option (List D) := (intsD xs).map fun is => (is.mergeSort fun a b => decide (a ≤ b)).map .int
def maxI : List Int → Option Int
  | [] => none
  | [x] => some x
  | x :: r => (maxI r).map fun y => max x y
def minI : List Int → Option Int
  | [] => none
  | [x] => some x
  | x :: r => (minI r).map fun y => min x y
/-- of plain lists of anything, the place by -/
def ixN (n : Nat) (i : Int) : Option Nat := if 0 ≤ i then (if i < n then some i.toNat else none) else if -(n : Int) ≤ i then some (i + n).toNat else none
def atI {α : Type} (xs : List α) (i : Int) : Option α := (ixN xs.length i).bind fun j => xs[j]?
def sIx (n d : Nat) : Option Int → Nat
  | none => d
  | some v => if v < 0 then (v + (n : Int)).toNat else min v.toNat n
def cut {α : Type} (xs : List α) (lo hi : Option Int) : List α := (xs.drop (sIx xs.length 0 lo)).take (sIx xs.length xs.length hi - sIx xs.length 0 lo)
open Classical in
noncomputable def bltF (b : String) (xs : List TV) (h : Hd) : Option TV := match b, xs with
  | "len", [.v (.str s)] => if s.length ≤ LINE then some (.v (.int s.length)) else none
  | "len", [x] => (match seqOf x h with
    | some ys => some (.v (.int ys.length))
    | none => (dctOf x h).bind fun d => match d with
      | .k kvs => some (.v (.int kvs.length))
      | _ => none)
  | "tuple", [.v (.tup ys)] => some (.v (.tup ys))
  | "tuple", [x] => (lstOf x h).map fun ys => .v (.tup ys)
  | "list", [x] => (match seqOf x h with
    | some ys => some (.l ys)
    | none => none)
  | "sorted", [x] => (match lstOf x h with
    | some ys => (sortD ys).map .l
    | none => none)
  | "sum", [x] => (match lstOf x h with
    | some ys => (intsD ys).map fun is => .v (.int is.sum)
    | none => none)
  | "max", [.v (.int i), .v (.int j)] => some (.v (.int (if j > i then j else i)))
  | "min", [.v (.int i), .v (.int j)] => some (.v (.int (if j < i then j else i)))
  | "max", [x] => (lstOf x h).bind fun ys => (intsD ys).bind fun is => (maxI is).map fun m => .v (.int m)
  | "min", [x] => (lstOf x h).bind fun ys => (intsD ys).bind fun is => (minI is).map fun m => .v (.int m)
  | "all", [x] => (lstOf x h).bind fun ys => (boolsD ys).map fun bs => .v (.bl (bs.all id))
  | "any", [x] => (lstOf x h).bind fun ys => (boolsD ys).map fun bs => .v (.bl (bs.any id))
  | "abs", [.v (.int i)] => some (.v (.int (if i < 0 then -i else i)))
  | "int", [.v (.int i)] => some (.v (.int i))
  | "int", [.v (.bl k)] => some (.v (.int (if k then 1 else 0)))
  | "int", [.v (.str s)] => if s.length ≤ 640 then (PySem.intText? s).map fun i => .v (.int i) else none
  | "str", [.v (.int i)] => if i.natAbs < 2 ^ 1900 then some (.v (.str (Str.ofString (toString i)))) else none
  | "dict", [x] => (dctOf x h).bind fun d => match d with
    | .k kvs => some (.d (.k kvs))
    | _ => none
  | _, _ => none
open Classical in
noncomputable def methF (m : String) (x : TV) (as : List TV) (h : Hd) : Option (TV × Hd) := match m, x, as with
  | "append", .v (.obj n), [a] => (match h.at_ n with
    | some (.lst xs) => if xs.length < LINE then some (.v .non, (pro a h).2.put n (.lst (xs ++ [(pro a h).1]))) else none
    | _ => none)
  | "extend", .v (.obj n), [a] => (match h.at_ n, mlst a h with
    | some (.lst xs), some ys => if xs.length + ys.length ≤ LINE then some (.v .non, h.put n (.lst (xs ++ ys))) else none
    | _, _ => none)
  | "pop", .v (.obj n), [] => (match h.at_ n with
    | some (.lst xs) => (xs[xs.length - 1]?).map fun y => (.v y, h.put n (.lst xs.dropLast))
    | _ => none)
  | "join", .v (.str s), [a] => (match lstOf a h with
    | some xs => (strsD xs).bind fun ys => if (ys.map (·.length)).sum + ys.length * s.length ≤ LINE then some (.v (.str (PySem.Txt.join s ys)), h) else none
    | none => none)
  | "split", .v (.str s), [.v (.str t)] => if (t.length == 0) = false ∧ s.length + 2 ≤ LINE then some (.l ((PySem.Txt.split s t).map .str), h) else none
  | "get", x, [.v k] => (dctOf x h).bind fun d => (d.look k).map fun o => (.v (o.getD .non), h)
  | "get", x, [.v k, .v y] => (dctOf x h).bind fun d => (d.look k).map fun o => (.v (o.getD y), h)
  | _, _, _ => none
/-- sorted(set(..)) of ints: each once -/
def insI (x : Int) : List Int → List Int
  | [] => [x]
  | y :: r => if x < y then x :: y :: r else if x = y then y :: r else y :: insI x r
def ssI (is : List Int) : List Int := is.foldr insI []
/-- sorted(set(x)) -/
def ssetF (x : TV) (h : Hd) : Option TV := match seqOf x h with
  | some xs => (match intsD xs with
    | some is => if is.length < 1000 then some (.l ((ssI is).map .int)) else none
    | none => none)
  | none => none
/-- x[i] -/
noncomputable def idxF (x i : TV) (h : Hd) : Option D := match x, i with
  | .v (.str s), .v (.int i) => if s.length ≤ LINE then (atI s.cps.toList i).map fun c => .str ⟨#[c]⟩ else none
  | x, .v k => (match seqOf x h with
    | some xs => (match k with
      | .int i => atI xs i
      | _ => none)
    | none => (dctOf x h).bind fun d => (d.look k).bind id)
  | _, _ => none
def isNonE : E → Bool
  | .cst .non => true
  | _ => false
/-- a part of a slice: not there, or an int -/
def partF (e : E) (x : TV) : Option (Option Int) := match isNonE e with
  | true => some none
  | false => (match x with
    | .v (.int i) => some (some i)
    | _ => none)
noncomputable def slcF (x : TV) (lo hi : Option Int) (h : Hd) : Option TV := match x with
    | .v (.tup xs) => some (.v (.tup (cut xs lo hi)))
    | x => (lstOf x h).map fun xs => .l (cut xs lo hi)
noncomputable def revF (x : TV) (h : Hd) : Option TV := match x with
  | .v (.tup xs) => some (.v (.tup xs.reverse))
  | x => (lstOf x h).map fun xs => .l xs.reverse

/-! ### loops -/
/-- what must stay as it is while a loop walks it -/
abbrev Gd := List (Nat × O)
def Gd.ok (g : Gd) (h : Hd) : Prop := ∀ p ∈ g, h.at_ p.1 = some p.2
@[simp] theorem Gd.ok_nil (h : Hd) : Gd.ok [] h = True := by simp [Gd.ok]
@[simp] theorem Gd.ok_cons (p : Nat × O) (g : Gd) (h : Hd) : Gd.ok (p :: g) h = (h.at_ p.1 = some p.2 ∧ Gd.ok g h) := by simp [Gd.ok]
open Classical in
noncomputable def compL {α : Type} (g : Gd) (el : D → Hd → Res (Option α)) : List D → Hd → Res (List α)
  | [], h => if g.ok h then some (.ok [] h) else none
  | x :: xs, h => if g.ok h then bnn (el x h) fun o h1 => bnn (compL g el xs h1) fun ys h2 => some (.ok (o.toList ++ ys) h2) else none
/-- how a statement ends -/
inductive RS where
  | nx (ρ : Env) (h : Hd) | rt (d : D) (h : Hd) | ex (c : String) (fs : List (String × D)) (ρ : Env) (h : Hd)
abbrev ResS := Option RS
def bndS {α : Type} (ρ : Env) (m : Res α) (f : α → Hd → ResS) : ResS := match m with
  | some (.ok a h) => f a h
  | some (.ex c fs h) => some (.ex c fs ρ h)
  | none => none
@[simp] theorem bndS_ok {α : Type} (ρ : Env) (a : α) (h : Hd) (f : α → Hd → ResS) : bndS ρ (some (.ok a h)) f = f a h := rfl
@[simp] theorem bndS_ex {α : Type} (ρ : Env) (c : String) (fs : List (String × D)) (h : Hd) (f : α → Hd → ResS) : bndS ρ (some (.ex c fs h)) f = some (.ex c fs ρ h) := rfl
@[simp] theorem bndS_none {α : Type} (ρ : Env) (f : α → Hd → ResS) : bndS ρ (none : Res α) f = none := rfl
def bnnS {α : Type} (m : Res α) (f : α → Hd → ResS) : ResS := match m with
  | some (.ok a h) => f a h
  | _ => none
@[simp] theorem bnnS_ok {α : Type} (a : α) (h : Hd) (f : α → Hd → ResS) : bnnS (some (.ok a h)) f = f a h := rfl
@[simp] theorem bnnS_ex {α : Type} (c : String) (fs : List (String × D)) (h : Hd) (f : α → Hd → ResS) : bnnS (some (.ex c fs h)) f = none := rfl
@[simp] theorem bnnS_none {α : Type} (f : α → Hd → ResS) : bnnS (none : Res α) f = none := rfl
def thenS (m : ResS) (f : Env → Hd → ResS) : ResS := match m with
  | some (.nx ρ h) => f ρ h
  | r => r
@[simp] theorem thenS_nx (ρ : Env) (h : Hd) (f : Env → Hd → ResS) : thenS (some (.nx ρ h)) f = f ρ h := rfl
@[simp] theorem thenS_rt (d : D) (h : Hd) (f : Env → Hd → ResS) : thenS (some (.rt d h)) f = some (.rt d h) := rfl
@[simp] theorem thenS_ex (c : String) (fs : List (String × D)) (ρ : Env) (h : Hd) (f : Env → Hd → ResS) : thenS (some (.ex c fs ρ h)) f = some (.ex c fs ρ h) := rfl
@[simp] theorem thenS_none (f : Env → Hd → ResS) : thenS none f = none := rfl
open Classical in
noncomputable def forL (g : Gd) (st : D → Env → Hd → ResS) : List D → Env → Hd → ResS
  | [], ρ, h => if g.ok h then some (.nx ρ h) else none
  | x :: xs, ρ, h => if g.ok h then thenS (st x ρ h) fun ρ' h' => forL g st xs ρ' h' else none
/-- f until it tells an end -/
def iter {α β : Type} (f : α → Option (α ⊕ β)) : Nat → α → Option β
  | 0, _ => none
  | n + 1, a => match f a with
    | none => none
    | some (.inr b) => some b
    | some (.inl a') => iter f n a'
open Classical in
noncomputable def wloop {α β : Type} (f : α → Option (α ⊕ β)) (a : α) : Option β := if h : ∃ n b, iter f n a = some b then some (Classical.choose (Classical.choose_spec h)) else none
theorem iter_mono {α β : Type} {f : α → Option (α ⊕ β)} : ∀ {n m : Nat} {a : α} {b : β}, iter f n a = some b → n ≤ m → iter f m a = some b
  | 0, _, _, _, h, _ => by cases h
  | n + 1, 0, _, _, _, h => by omega
  | n + 1, m + 1, a, b, h, hm => by
    unfold iter at h ⊢
    cases e : f a with
    | none => rw [e] at h; cases h
    | some r =>
      rw [e] at h
      cases r with
      | inr c => exact h
      | inl a' => exact iter_mono (n := n) (m := m) (a := a') h (by omega)
theorem wloop_iff {α β : Type} {f : α → Option (α ⊕ β)} {a : α} {b : β} : wloop f a = some b ↔ ∃ n, iter f n a = some b := by
  unfold wloop
  constructor
  · intro h
    split at h
    · rename_i hx
      refine ⟨Classical.choose hx, ?_⟩
      have q := Classical.choose_spec (Classical.choose_spec hx)
      rw [q]
      exact h
    · cases h
  · rintro ⟨n, h⟩
    have hx : ∃ n b, iter f n a = some b := ⟨n, b, h⟩
    rw [dif_pos hx]
    have q := Classical.choose_spec (Classical.choose_spec hx)
    have q1 := iter_mono q (Nat.le_max_left _ n)
    have q2 := iter_mono h (Nat.le_max_right (Classical.choose hx) n)
    rw [q1] at q2
    exact q2
theorem wloop_eq {α β : Type} (f : α → Option (α ⊕ β)) (a : α) : wloop f a = match f a with
    | none => none
    | some (.inr b) => some b
    | some (.inl a') => wloop f a' := by
  cases e : f a with
  | none =>
    show _ = none
    cases q : wloop f a with
    | none => rfl
    | some b =>
      obtain ⟨n, hn⟩ := wloop_iff.mp q
      cases n with
      | zero => cases hn
      | succ n =>
        unfold iter at hn
        rw [e] at hn
        cases hn
  | some r =>
    cases r with
    | inr b =>
      show _ = some b
      exact wloop_iff.mpr ⟨1, by unfold iter; rw [e]⟩
    | inl a' =>
      show _ = wloop f a'
      cases q : wloop f a' with
      | some b =>
        obtain ⟨n, hn⟩ := wloop_iff.mp q
        exact wloop_iff.mpr ⟨n + 1, by unfold iter; rw [e]; exact hn⟩
      | none =>
        cases q2 : wloop f a with
        | none => rfl
        | some b =>
          obtain ⟨n, hn⟩ := wloop_iff.mp q2
          cases n with
          | zero => cases hn
          | succ n =>
            unfold iter at hn
            rw [e] at hn
            have := wloop_iff.mpr ⟨n, hn⟩
            rw [q] at this
            cases this

/-! ### meaning -/
abbrev Calls := String → List D → Hd → Res D
def wipe (ρ : Env) : List Nat → Env
  | [] => ρ
  | v :: vs => (wipe ρ vs).set v none
/-- what is walked: the items, what must stay, what is locked meanwhile -/
structure Wk where
  items : List D
  g : Gd
def gOf (x : TV) (h : Hd) : Gd := match x with
  | .v (.obj n) => (match h.at_ n with
    | some o => [(n, o)]
    | none => [])
  | _ => []
/-- items of a thing that is walked as it is -/
def walkSeq (x : TV) (h : Hd) : Option Wk := match x with
  | .v (.str s) => if s.length ≤ LINE then some ⟨s.cps.toList.map fun c => .str ⟨#[c]⟩, []⟩ else none
  | x => (seqOf x h).map fun xs => ⟨xs, gOf x h⟩
def rngL (lo : Int) (n : Nat) : List D := (List.range n).map fun (i : Nat) => .int (lo + (i : Int))
def walkRng (xs : List TV) : Option (List D) := match xs with
  | [.v (.int j)] => if -LINE ≤ j ∧ j ≤ LINE then some (rngL 0 j.toNat) else none
  | [.v (.int i), .v (.int j)] => if -LINE ≤ i ∧ i ≤ LINE ∧ -LINE ≤ j ∧ j ≤ LINE ∧ j - i ≤ LINE then some (rngL i (j - i).toNat) else none
  | [.v (.int i), .v (.int j), .v (.int c)] => if (c ≠ 0 ∧ c.natAbs < 1073741824 ∧ PySem.Builtin.Range.small i j c = true) ∧ 0 ≤ PySem.Builtin.Range.rangeSize i j c ∧ PySem.Builtin.Range.rangeSize i j c ≤ LINE then some ((List.range (PySem.Builtin.Range.rangeSize i j c).toNat).map fun (k : Nat) => .int (i + (k : Int) * c)) else none
  | _ => none
def enumL (xs : List D) : List D := (List.range xs.length).map fun (i : Nat) => .tup [.int (i : Int), xs.getD i .non]
def zipL (xs ys : List D) : List D := (xs.zip ys).map fun p => .tup [p.1, p.2]
def isTup : TV → Bool
  | .v (.tup _) => true
  | _ => false
/-- both tuples, or neither -/
def setF (fs : List (String × D)) (f : String) (d : D) : List (String × D) := match fs with
  | [] => [(f, d)]
  | (g, e) :: r => if g = f then (g, d) :: r else (g, e) :: setF r f d
/-- x[y] = d -/
noncomputable def setX (x y : TV) (d : D) (h : Hd) : Res Unit := match x, y with
  | .v (.obj n), .v k => (match h.at_ n with
    | some (.lst xs) => (match k with
      | .int i => (match ixN xs.length i with
        | some j => some (.ok () (h.put n (.lst (xs.set j d))))
        | none => none)
      | _ => none)
    | some (.dct c false) => (match c.put k d with
      | some c' => if c.len < LINE then some (.ok () (h.put n (.dct c' false))) else none
      | none => none)
    | _ => none)
  | _, _ => none
/-- x op= y, of ints and of texts -/
def augF (o : BOp) (x : D) (y : TV) : Option D := match o, x, y with
  | .add, .int i, .v (.int j) => some (.int (i + j))
  | .sub, .int i, .v (.int j) => some (.int (i - j))
  | .mul, .int i, .v (.int j) => if i.natAbs < 2 ^ 64 ∨ j.natAbs < 2 ^ 64 then some (.int (i * j)) else none
  | .fdiv, .int i, .v (.int j) => if 0 < j ∧ j < 1073741824 then some (.int (i / j)) else none
  | .mod, .int i, .v (.int j) => if 0 < j then some (.int (i % j)) else none
  | .add, .str s, .v (.str t) => if s.length + t.length ≤ LINE then some (.str (s ++ t)) else none
  | _, _, _ => none
/-- an own class's instance -/
def insOf (x : TV) (h : Hd) : Option String := match x with
  | .v (.obj n) => (match h.at_ n with
    | some (.ins c _) => some c
    | _ => none)
  | _ => none
/-- a field of an instance of one of the classes cs -/
def fldF (cs : List String) (f : String) (x : TV) (h : Hd) : Option D := match x with
  | .v (.obj n) => (match h.at_ n with
    | some (.ins c fs) => if cs.contains c = true then fs.lookup f else none
    | _ => none)
  | .v (.exc c fs) => if cs.contains c = true then fs.lookup f else none
  | _ => none
def lkd (x : TV) (h : Hd) : Bool := match x with
  | .v (.obj n) => (match h.at_ n with
    | some (.dct _ true) => true
    | _ => false)
  | _ => false
def isiF (cs ts : List String) (x : TV) (h : Hd) : Option TV := match insOf x h with
  | some c => if cs.contains c = true then some (.v (.bl (ts.any fun T => T == c))) else none
  | none => if lkd x h = true then none else some (.v (.bl (ts.any fun T => isTy x h T)))
noncomputable def ctest (x : TV) : Option Bool := match x with
  | .v (.bl b) => some b
  | _ => none
def eqName (o : COp) (x : TV) (h : Hd) : Option String := match o with
  | .eq => insOf x h
  | .ne => insOf x h
  | _ => none
noncomputable def cmpE (Φ : Calls) (o : COp) (cs : List String) (x y : TV) (h : Hd) : Res Bool :=
  match eqName o x h with
  | some c => if cs.contains c = true ∧ insOf y h = some c then bnn (Φ (c ++ ".__eq__") (pros [x, y] h).1 (pros [x, y] h).2) fun d h1 => (match d with
    | .bl b => some (.ok (if o = .eq then b else !b) h1)
    | _ => none) else none
  | none => lift (cmpop o x y h) h
def optTest (o : Option Bool) (h : Hd) : Res Bool := lift o h
def mkPairs : List D → List D → List (D × D)
  | k :: ks, v :: vs => (k, v) :: mkPairs ks vs
  | _, _ => []
def keyed {κ : Type} (f : D → Option κ) : List (D × D) → Option (List (κ × D))
  | [] => some []
  | (x, v) :: r => match f x, keyed f r with
    | some k, some ks => some ((k, v) :: ks)
    | _, _ => none
def dctMake (t : Bool) (kvs : List (D × D)) : Option Dc := match t with
  | false => (keyed toKey kvs).map fun ks => .k (kMerge [] ks)
  | true => (keyed tupKey kvs).map fun ks => .t (kMerge [] ks)
mutual
noncomputable def evX (Φ : Calls) : E → Env → Hd → Res TV
  | .var i, ρ, h => (match ρ[i]? with
    | some (some d) => some (.ok (.v d) h)
    | _ => none)
  | .cst d, _, h => some (.ok (.v d) h)
  | .gc _ d, _, h => some (.ok (.v d) h)
  | .fnr x, _, h => some (.ok (.v (.fnv x)) h)
  | .bin o a b, ρ, h => bnd (evX Φ a ρ h) fun x h1 => bnd (evX Φ b ρ h1) fun y h2 => lift (binop o x y h2) h2
  | .neg a, ρ, h => bnd (evX Φ a ρ h) fun x h1 => (match x with
    | .v (.int i) => some (.ok (.v (.int (-i))) h1)
    | _ => none)
  | .nt a, ρ, h => bnd (evX Φ a ρ h) fun x h1 => (match x with
    | .v (.bl b) => some (.ok (.v (.bl (!b))) h1)
    | _ => none)
  | .cmp o cs a b, ρ, h => bnd (evX Φ a ρ h) fun x h1 => bnd (evX Φ b ρ h1) fun y h2 => bnd (cmpE Φ o cs x y h2) fun b h3 => some (.ok (.v (.bl b)) h3)
  | .chn o p a b c, ρ, h => bnd (evX Φ a ρ h) fun x h1 => bnd (evX Φ b ρ h1) fun y h2 => bnd (lift (cmpop o x y h2) h2) fun k h3 =>
      (match k with
      | true => bnd (evX Φ c ρ h3) fun z h4 => bnd (lift (cmpop p y z h4) h4) fun k2 h5 => some (.ok (.v (.bl k2)) h5)
      | false => some (.ok (.v (.bl false)) h3))
  | .band a b, ρ, h => bnd (evX Φ a ρ h) fun x h1 => (match x with
    | .v (.bl true) => evX Φ b ρ h1
    | .v (.bl false) => some (.ok (.v (.bl false)) h1)
    | _ => none)
  | .bor a b, ρ, h => bnd (evX Φ a ρ h) fun x h1 => (match x with
    | .v (.bl true) => some (.ok (.v (.bl true)) h1)
    | .v (.bl false) => evX Φ b ρ h1
    | _ => none)
  | .ite c a b, ρ, h => bnd (evX Φ c ρ h) fun x h1 => (match x with
    | .v (.bl true) => evX Φ a ρ h1
    | .v (.bl false) => evX Φ b ρ h1
    | _ => none)
  | .fld a f cs, ρ, h => bnd (evX Φ a ρ h) fun x h1 => lift ((fldF cs f x h1).map .v) h1
  | .idx a b, ρ, h => bnd (evX Φ a ρ h) fun x h1 => bnd (evX Φ b ρ h1) fun y h2 => lift ((idxF x y h2).map .v) h2
  | .slc a lo hi, ρ, h => bnd (evX Φ a ρ h) fun x h1 => bnd (evX Φ lo ρ h1) fun l h2 => (match partF lo l with
      | some l => bnd (evX Φ hi ρ h2) fun u h3 => (match partF hi u with
        | some u => lift (slcF x l u h3) h3
        | none => none)
      | none => none)
  | .rev a, ρ, h => bnd (evX Φ a ρ h) fun x h1 => lift (revF x h1) h1
  | .tup es, ρ, h => bnd (evXs Φ es ρ h) fun xs h1 => some (.ok (.v (.tup (pros xs h1).1)) (pros xs h1).2)
  | .lst es, ρ, h => bnd (evXs Φ es ρ h) fun xs h1 => some (.ok (.l (pros xs h1).1) (pros xs h1).2)
  | .dct t ps, ρ, h => bnd (evPs Φ ps ρ h) fun kvs h1 => lift ((dctMake t kvs).map .d) h1
  | .lc tg own it ifs el, ρ, h => bnd (evI Φ it ρ h) fun w h1 => bnn (compL w.g (fun d h => bnn (bindT Φ tg d (wipe ρ own) h) fun ρ1 h1 => bnn (evIfs Φ ifs ρ1 h1) fun k h2 =>
      (match k with
      | true => bnn (evX Φ el ρ1 h2) fun x h3 => some (.ok (some (pro x h3).1) (pro x h3).2)
      | false => some (.ok none h2))) w.items h1) fun xs h2 => some (.ok (.l xs) h2)
  | .dc t tg own it ifs k v, ρ, h => bnd (evI Φ it ρ h) fun w h1 => bnn (compL w.g (fun d h => bnn (bindT Φ tg d (wipe ρ own) h) fun ρ1 h1 => bnn (evIfs Φ ifs ρ1 h1) fun b h2 =>
      (match b with
      | true => bnn (evX Φ k ρ1 h2) fun x h3 => bnn (evX Φ v ρ1 h3) fun y h4 => (match x with
        | .v x => some (.ok (some (x, (pro y h4).1)) (pro y h4).2)
        | _ => none)
      | false => some (.ok none h2))) w.items h1) fun kvs h2 => lift ((dctMake t kvs).map .d) h2
  | .call f es, ρ, h => bnd (evXs Φ es ρ h) fun xs h1 => bnd (Φ f (pros xs h1).1 (pros xs h1).2) fun d h2 => some (.ok (.v d) h2)
  | .mk c es, ρ, h => bnd (evXs Φ es ρ h) fun xs h1 => bnd (Φ (c ++ ".__init__") (.obj (pros xs h1).2.sz :: (pros xs h1).1) ((pros xs h1).2.new (.ins c []))) fun d h2 => (match d with
    | .non => some (.ok (.v (.obj (pros xs h1).2.sz)) h2)
    | _ => none)
  | .bm T m o es, ρ, h => bnd (evX Φ o ρ h) fun x h1 => if isTy x h1 T = true ∧ lkd x h1 = false then bnd (evXs Φ es ρ h1) fun xs h2 => (match methF m x xs h2 with
      | some (y, h3) => some (.ok y h3)
      | none => none) else none
  | .meth c m o es, ρ, h => bnd (evX Φ o ρ h) fun x h1 => if insOf x h1 = some c then bnd (evXs Φ es ρ h1) fun xs h2 => bnd (Φ (c ++ "." ++ m) (pros (x :: xs) h2).1 (pros (x :: xs) h2).2) fun d h3 => some (.ok (.v d) h3) else none
  | .blt b es, ρ, h => bnd (evXs Φ es ρ h) fun xs h1 => lift (bltF b xs h1) h1
  | .itb b it, ρ, h => bnd (evI Φ it ρ h) fun w h1 => (match b with
    | "tuple" => some (.ok (.v (.tup w.items)) h1)
    | "list" => some (.ok (.l w.items) h1)
    | _ => none)
  | .isi a ts cs, ρ, h => bnd (evX Φ a ρ h) fun x h1 => lift (isiF cs ts x h1) h1
  | .callv a es, ρ, h => bnd (evX Φ a ρ h) fun x h1 => bnd (evXs Φ es ρ h1) fun xs h2 => (match x with
    | .v (.fnv f) => bnd (Φ f (pros xs h2).1 (pros xs h2).2) fun d h3 => some (.ok (.v d) h3)
    | _ => none)
  | .sset a, ρ, h => bnd (evX Φ a ρ h) fun x h1 => lift (ssetF x h1) h1
noncomputable def evXs (Φ : Calls) : Es → Env → Hd → Res (List TV)
  | .nil, _, h => some (.ok [] h)
  | .cons e es, ρ, h => bnd (evX Φ e ρ h) fun x h1 => bnd (evXs Φ es ρ h1) fun xs h2 => some (.ok (x :: xs) h2)
/-- key, value, key, value .. -/
noncomputable def evPs (Φ : Calls) : Es → Env → Hd → Res (List (D × D))
  | .nil, _, h => some (.ok [] h)
  | .cons k (.cons v vs), ρ, h => bnd (evX Φ k ρ h) fun x h1 => bnd (evX Φ v ρ h1) fun y h2 => bnd (evPs Φ vs ρ (pro y h2).2) fun r h3 => (match x with
    | .v x => some (.ok ((x, (pro y h2).1) :: r) h3)
    | _ => none)
  | _, _, _ => none
noncomputable def evIfs (Φ : Calls) : Es → Env → Hd → Res Bool
  | .nil, _, h => some (.ok true h)
  | .cons e es, ρ, h => bnn (evX Φ e ρ h) fun x h1 => (match x with
    | .v (.bl true) => evIfs Φ es ρ h1
    | .v (.bl false) => some (.ok false h1)
    | _ => none)
noncomputable def evI (Φ : Calls) : It → Env → Hd → Res Wk
  | .seq e, ρ, h => bnd (evX Φ e ρ h) fun x h1 => lift (walkSeq x h1) h1
  | .rng es, ρ, h => bnd (evXs Φ es ρ h) fun xs h1 => lift ((walkRng xs).map fun l => ⟨l, []⟩) h1
  | .enm e, ρ, h => bnd (evX Φ e ρ h) fun x h1 => lift ((seqOf x h1).map fun xs => ⟨enumL xs, gOf x h1⟩) h1
  | .zip a b, ρ, h => bnd (evX Φ a ρ h) fun x h1 => bnd (evX Φ b ρ h1) fun y h2 => (match seqOf x h2, seqOf y h2 with
      | some xs, some ys => if xs.length ≤ LINE then some (.ok ⟨zipL xs ys, gOf x h2 ++ gOf y h2⟩ h2) else none
      | _, _ => none)
  | .rvd e, ρ, h => bnd (evX Φ e ρ h) fun x h1 => (match seqOf x h1 with
    | some xs => if xs.length ≤ LINE then some (.ok ⟨xs.reverse, gOf x h1⟩ h1) else none
    | none => none)
noncomputable def bindT (Φ : Calls) : Tg → D → Env → Hd → Res Env
  | .nm i, d, ρ, h => some (.ok (ρ.set i (some d)) h)
  | .tp ts, d, ρ, h => (match d with
    | .tup xs => bindTs Φ ts xs ρ h
    | _ => none)
  | .ix o i, d, ρ, h => bnd (evX Φ o ρ h) fun x h1 => bnd (evX Φ i ρ h1) fun y h2 => bnd (setX x y d h2) fun _ h3 => some (.ok ρ h3)
  | .fd o f cs, d, ρ, h => bnd (evX Φ o ρ h) fun x h1 => (match x with
    | .v (.obj n) => (match h1.at_ n with
      | some (.ins c fs) => if cs.contains c = true ∧ fs.length < 100 then some (.ok ρ (h1.put n (.ins c (setF fs f d)))) else none
      | _ => none)
    | _ => none)
noncomputable def bindTs (Φ : Calls) : Tgs → List D → Env → Hd → Res Env
  | .nil, [], ρ, h => some (.ok ρ h)
  | .cons t ts, d :: ds, ρ, h => bnd (bindT Φ t d ρ h) fun ρ1 h1 => bindTs Φ ts ds ρ1 h1
  | _, _, _, _ => none
end
def setAll : List Nat → List D → Env → Env
  | i :: is, d :: ds, ρ => setAll is ds (ρ.set i (some d))
  | _, _, ρ => ρ
mutual
noncomputable def evS (Φ : Calls) : S → Env → Hd → ResS
  | .asg tg e, ρ, h => bndS ρ (evX Φ e ρ h) fun x h1 => bnnS (bindT Φ tg (pro x h1).1 ρ (pro x h1).2) fun ρ1 h2 => some (.nx ρ1 h2)
  | .par is es, ρ, h => bndS ρ (evXs Φ es ρ h) fun xs h1 => (match decide (is.length = xs.length) with
    | true => some (.nx (setAll is (pros xs h1).1 ρ) (pros xs h1).2)
    | false => none)
  | .aug i o e, ρ, h => (match ρ[i]? with
    | some (some d) => bndS ρ (evX Φ e ρ h) fun y h1 => bndS ρ (lift (augF o d y) h1) fun z h2 => some (.nx (ρ.set i (some z)) h2)
    | _ => none)
  | .augx o i op e, ρ, h => bndS ρ (evX Φ o ρ h) fun x h1 => bndS ρ (evX Φ i ρ h1) fun k h2 => bndS ρ (lift (idxF x k h2) h2) fun d h3 => bndS ρ (evX Φ e ρ h3) fun y h4 =>
      bndS ρ (lift (augF op d y) h4) fun z h5 => bnnS (setX x k z h5) fun _ h6 => some (.nx ρ h6)
  | .ex e, ρ, h => bndS ρ (evX Φ e ρ h) fun _ h1 => some (.nx ρ h1)
  | .ret e, ρ, h => bndS ρ (evX Φ e ρ h) fun x h1 => some (.rt (pro x h1).1 (pro x h1).2)
  | .retn, _, h => some (.rt .non h)
  | .ifs c a b, ρ, h => bndS ρ (evX Φ c ρ h) fun x h1 => (match x with
    | .v (.bl true) => evSs Φ a ρ h1
    | .v (.bl false) => evSs Φ b ρ h1
    | _ => none)
  | .forr tg it b, ρ, h => bndS ρ (evI Φ it ρ h) fun w h1 => forL w.g (fun d ρ h => bnnS (bindT Φ tg d ρ h) fun ρ1 h2 => evSs Φ b ρ1 h2) w.items ρ h1
  | .whl c b, ρ, h => wloop (fun (p : Env × Hd) => match evX Φ c p.1 p.2 with
      | some (.ok (.v (.bl true)) h1) => (match evSs Φ b p.1 h1 with
        | some (.nx ρ2 h2) => some (.inl (ρ2, h2))
        | some r => some (.inr r)
        | none => none)
      | some (.ok (.v (.bl false)) h1) => some (.inr (.nx p.1 h1))
      | some (.ex k fs h1) => some (.inr (.ex k fs p.1 h1))
      | _ => none) (ρ, h)
  | .rse c f es, ρ, h => none
  | .zret i a b f j tg own el, ρ, h => bndS ρ (evX Φ a ρ h) fun x h1 => bndS ρ (evX Φ b ρ h1) fun y h2 => (match x, y, (ρ.set i none)[j]? with
    | .v (.tup xs), .v (.tup ys), some (some o) => if xs.length ≤ LINE then bnnS (compL [] (fun d h => bnn (bindT Φ tg d (wipe (ρ.set i none) own) h) fun ρ1 h1 => bnn (some (.ok true h1)) fun k h2 => (match k with
        | true => bnn (evX Φ el ρ1 h2) fun y h3 => some (.ok (some (pro y h3).1) (pro y h3).2)
        | false => some (.ok none h2))) (zipL xs ys) h2) fun zs h3 => bndS (ρ.set i none) (Φ f [o, .obj h3.sz] (h3.new (.lst zs))) fun d h4 => some (.rt d h4) else none
    | _, _, _ => none)
  | .pass, ρ, h => some (.nx ρ h)
  | .tri b hs, ρ, h => none
noncomputable def evSs (Φ : Calls) : Ss → Env → Hd → ResS
  | .nil, ρ, h => some (.nx ρ h)
  | .cons s ss, ρ, h => thenS (evS Φ s ρ h) fun ρ1 h1 => evSs Φ ss ρ1 h1
end
/-- a def: how many parameters, how many places, its body -/
structure Fn where
  np : Nat
  nv : Nat
  body : Ss
abbrev Prog := List (String × Fn)
noncomputable def callF (P : Prog) : Nat → Calls
  | 0, _, _, _ => none
  | n + 1, f, ds, h => match P.lookup f with
    | none => none
    | some fn => if ds.length = fn.np then (match evSs (callF P n) fn.body (ds.map some ++ List.replicate (fn.nv - fn.np) none) h with
      | some (.nx _ h1) => some (.ok .non h1)
      | some (.rt d h1) => some (.ok d h1)
      | some (.ex c fs _ h1) => some (.ex c fs h1)
      | none => none) else none
end Py


set_option Elab.async false
set_option linter.all false
set_option maxRecDepth 100000
set_option maxHeartbeats 1000000
/-! PyC: how plain values and named things stand in the hand layer's heap. -/
namespace Py
open PySem PySem.Spec PyProof.Rows L2
/-- a list that nobody changes -/
def RoL (K : PySem.W.Frag) (H : Hp) (a : Addr) (xs : List V) : Prop :=
  (∃ o, H a = some (.frz o (.lst xs))) ∨
    ∃ (o : Obj) (its : Array Value) (n : Nat), K.lookup a = some o ∧ o.cls = .type "list" ∧ o.dict = none ∧ o.data = .seq its n ∧ its.size ≤ sizeLine ∧ Vals xs its.toList
theorem RoL.sq {K : PySem.W.Frag} {H : Hp} {a : Addr} {xs : List V} (h : RoL K H a xs) : SqL K H a xs := by
  rcases h with h | h
  · exact .inl (.inr h)
  · exact .inr h
mutual
inductive RV (K : PySem.W.Frag) (M : List Addr) (H : Hp) : D → V → Prop where
  | non : RV K M H .non .non
  | bl (b : Bool) : RV K M H (.bl b) (.bl b)
  | int (i : Int) : RV K M H (.int i) (.int i)
  | str (s : Str) : RV K M H (.str s) (.str s)
  | tup {a : Addr} {vs : List V} {xs : List D} : H a = some (.tup vs) → RVs K M H xs vs → RV K M H (.tup xs) (.ref a)
  | obj {n : Nat} {a : Addr} : M[n]? = some a → RV K M H (.obj n) (.ref a)
  | rol {a : Addr} {vs : List V} {xs : List D} : RoL K H a vs → RVs K M H xs vs → RV K M H (.rol xs) (.ref a)
inductive RVs (K : PySem.W.Frag) (M : List Addr) (H : Hp) : List D → List V → Prop where
  | nil : RVs K M H [] []
  | cons {d : D} {v : V} {ds : List D} {vs : List V} : RV K M H d v → RVs K M H ds vs → RVs K M H (d :: ds) (v :: vs)
end
/-- what grows: names, what is unnamed stays -/
structure Ext (M : List Addr) (H : Hp) (M' : List Addr) (H' : Hp) : Prop where
  pre : M <+: M'
  new : ∀ n a, M.length ≤ n → M'[n]? = some a → H a = none
  kept : ∀ a o, H a = some o → a ∉ M → H' a = some o
  alive : ∀ a, H a ≠ none → H' a ≠ none
  tups : ∀ a xs, H a = some (.tup xs) → H' a = some (.tup xs)
  frzl : ∀ a o xs, H a = some (.frz o (.lst xs)) → H' a = some (.frz o (.lst xs))
theorem Ext.refl (M : List Addr) (H : Hp) : Ext M H M H :=
  ⟨List.prefix_refl _, fun n a hn e => (by rw [List.getElem?_eq_none hn] at e; cases e), fun _ _ h _ => h, fun _ h => h, fun _ _ h => h, fun _ _ _ h => h⟩
theorem pre_get {M M' : List Addr} (p : M <+: M') {n : Nat} {a : Addr} (h : M[n]? = some a) : M'[n]? = some a := by
  obtain ⟨t, rfl⟩ := p
  have hl : n < M.length := by
    by_cases hn : n < M.length
    · exact hn
    · rw [List.getElem?_eq_none (by omega)] at h; cases h
  rw [List.getElem?_append_left hl]
  exact h
theorem Ext.trans {M M1 M2 : List Addr} {H H1 H2 : Hp} (e : Ext M H M1 H1) (f : Ext M1 H1 M2 H2) : Ext M H M2 H2 := by
  refine ⟨e.pre.trans f.pre, fun n a hn q => ?_, fun a o h hm => f.kept a o (e.kept a o h hm) fun hm1 => ?_, fun a h => f.alive a (e.alive a h), fun a xs h => f.tups a xs (e.tups a xs h), fun a o xs h => f.frzl a o xs (e.frzl a o xs h)⟩
  · by_cases h1 : n < M1.length
    · have q1 : M1[n]? = some M1[n] := List.getElem?_eq_getElem h1
      have q2 := pre_get f.pre q1
      rw [q] at q2
      cases q2
      exact e.new n _ hn q1
    · have q1 := f.new n a (by omega) q
      cases hh : H a with
      | none => rfl
      | some o => exact absurd q1 (e.alive a (by rw [hh]; simp))
  · obtain ⟨n, hn⟩ := List.mem_iff_getElem?.mp hm1
    by_cases h1 : n < M.length
    · have q1 : M[n]? = some M[n] := List.getElem?_eq_getElem h1
      have q2 := pre_get e.pre q1
      rw [hn] at q2
      cases q2
      exact hm (List.mem_of_getElem? q1)
    · rw [e.new n a (by omega) hn] at h
      cases h
theorem Ext.roL {K : PySem.W.Frag} {M M' : List Addr} {H H' : Hp} (e : Ext M H M' H') {a : Addr} {xs : List V} (h : RoL K H a xs) : RoL K H' a xs := by
  rcases h with ⟨o, h⟩ | h
  · exact .inl ⟨o, e.frzl _ _ _ h⟩
  · exact .inr h
mutual
theorem RV.ext {K : PySem.W.Frag} {M M' : List Addr} {H H' : Hp} (e : Ext M H M' H') : ∀ {d : D} {v : V}, RV K M H d v → RV K M' H' d v
  | _, _, .non => .non
  | _, _, .bl b => .bl b
  | _, _, .int i => .int i
  | _, _, .str s => .str s
  | _, _, .tup h r => .tup (e.tups _ _ h) (RVs.ext e r)
  | _, _, .obj h => .obj (pre_get e.pre h)
  | _, _, .rol h r => .rol (e.roL h) (RVs.ext e r)
theorem RVs.ext {K : PySem.W.Frag} {M M' : List Addr} {H H' : Hp} (e : Ext M H M' H') : ∀ {d : List D} {v : List V}, RVs K M H d v → RVs K M' H' d v
  | _, _, .nil => .nil
  | _, _, .cons h r => .cons (RV.ext e h) (RVs.ext e r)
end
theorem RVs.length {K : PySem.W.Frag} {M : List Addr} {H : Hp} : ∀ {ds : List D} {vs : List V}, RVs K M H ds vs → ds.length = vs.length
  | _, _, .nil => rfl
  | _, _, .cons _ r => by rw [List.length_cons, List.length_cons, r.length]
theorem RVs.append {K : PySem.W.Frag} {M : List Addr} {H : Hp} : ∀ {ds es : List D} {vs us : List V}, RVs K M H ds vs → RVs K M H es us → RVs K M H (ds ++ es) (vs ++ us)
  | _, _, _, _, .nil, s => s
  | _, _, _, _, .cons h r, s => .cons h (RVs.append r s)
theorem RVs.get {K : PySem.W.Frag} {M : List Addr} {H : Hp} : ∀ {ds : List D} {vs : List V} {i : Nat} {d : D}, RVs K M H ds vs → ds[i]? = some d → ∃ v, vs[i]? = some v ∧ RV K M H d v
  | _, _, _, _, .nil, e => by simp at e
  | _, _, 0, _, .cons h _, e => by simp at e; subst e; exact ⟨_, rfl, h⟩
  | _, _, i + 1, d, .cons _ r, e => by
    obtain ⟨v, h1, h2⟩ := RVs.get (i := i) (d := d) r (by simpa using e)
    exact ⟨v, by simpa using h1, h2⟩
theorem RVs.get' {K : PySem.W.Frag} {M : List Addr} {H : Hp} : ∀ {ds : List D} {vs : List V} {i : Nat} {v : V}, RVs K M H ds vs → vs[i]? = some v → ∃ d, ds[i]? = some d ∧ RV K M H d v
  | _, _, _, _, .nil, e => by simp at e
  | _, _, 0, _, .cons h _, e => by simp at e; subst e; exact ⟨_, rfl, h⟩
  | _, _, i + 1, d, .cons _ r, e => by
    obtain ⟨v, h1, h2⟩ := RVs.get' (i := i) (v := d) r (by simpa using e)
    exact ⟨v, by simpa using h1, h2⟩
theorem RVs.take {K : PySem.W.Frag} {M : List Addr} {H : Hp} : ∀ {ds : List D} {vs : List V} (n : Nat), RVs K M H ds vs → RVs K M H (ds.take n) (vs.take n)
  | _, _, 0, _ => .nil
  | _, _, _ + 1, .nil => .nil
  | _, _, n + 1, .cons h r => .cons h (RVs.take n r)
theorem RVs.drop {K : PySem.W.Frag} {M : List Addr} {H : Hp} : ∀ {ds : List D} {vs : List V} (n : Nat), RVs K M H ds vs → RVs K M H (ds.drop n) (vs.drop n)
  | _, _, 0, r => r
  | _, _, _ + 1, .nil => .nil
  | _, _, n + 1, .cons _ r => RVs.drop n r
theorem RVs.rev {K : PySem.W.Frag} {M : List Addr} {H : Hp} : ∀ {ds : List D} {vs : List V}, RVs K M H ds vs → RVs K M H ds.reverse vs.reverse
  | _, _, .nil => .nil
  | _, _, .cons h r => by
    rw [List.reverse_cons, List.reverse_cons]
    exact RVs.append r.rev (.cons h .nil)
theorem RVs.set {K : PySem.W.Frag} {M : List Addr} {H : Hp} {d : D} {v : V} (h : RV K M H d v) : ∀ {ds : List D} {vs : List V} (i : Nat), RVs K M H ds vs → RVs K M H (ds.set i d) (vs.set i v)
  | _, _, _, .nil => .nil
  | _, _, 0, .cons _ r => .cons h r
  | _, _, i + 1, .cons q r => .cons q (RVs.set h i r)
theorem RVs.flat {K : PySem.W.Frag} {M : List Addr} {H : Hp} {ds : List D} {vs : List V} (r : RVs K M H ds vs) : ∀ n : Nat, RVs K M H (List.replicate n ds).flatten (List.replicate n vs).flatten
  | 0 => .nil
  | n + 1 => by
    rw [List.replicate_succ, List.replicate_succ, List.flatten_cons, List.flatten_cons]
    exact r.append (r.flat n)

/-! ### named things -/
inductive DK (K : PySem.W.Frag) (M : List Addr) (H : Hp) {κ : Type} : List (κ × D) → List (κ × V) → Prop where
  | nil : DK K M H [] []
  | cons {d : D} {k : κ} {v : V} {ds : List (κ × D)} {vs : List (κ × V)} : RV K M H d v → DK K M H ds vs → DK K M H ((k, d) :: ds) ((k, v) :: vs)
inductive FR (K : PySem.W.Frag) (M : List Addr) (H : Hp) : List (String × D) → List (Str × V) → Prop where
  | nil : FR K M H [] []
  | cons {f : String} {d : D} {v : V} {ds : List (String × D)} {vs : List (Str × V)} : RV K M H d v → FR K M H ds vs → FR K M H ((f, d) :: ds) ((Str.ofString f, v) :: vs)
/-- what stands for a dict -/
def DRel (K : PySem.W.Frag) (M : List Addr) (H : Hp) (d : Dc) (u : HO) : Prop := match d with
  | .k kvs => ∃ ks : List (Key × V), u = .dK ks ∧ DK K M H kvs ks
  | .t kvs => ∃ ks : List (List Key × V), u = .dT ks ∧ DK K M H kvs ks
def RO (K : PySem.W.Frag) (M : List Addr) (H : Hp) : O → Addr → Prop
  | .lst xs, a => ∃ vs, H a = some (.lst vs) ∧ RVs K M H xs vs
  | .dct kvs false, a => ∃ u, H a = some u ∧ DRel K M H kvs u
  | .dct kvs true, a => ∃ o u, H a = some (.frz o u) ∧ DRel K M H kvs u
  | .ins c fs, a => ∃ dx vs, H a = some (.ins (He.ga K (Str.ofString c)) dx vs) ∧ FR K M H fs vs
structure RH (K : PySem.W.Frag) (M : List Addr) (h : Hd) (H : Hp) : Prop where
  len : h.sz = M.length
  nd : M.Nodup
  ob : ∀ n o, h.at_ n = some o → ∃ a, M[n]? = some a ∧ RO K M H o a
  al : ∀ n a, M[n]? = some a → ∃ o, h.at_ n = some o
theorem DK.ext {K : PySem.W.Frag} {M M' : List Addr} {H H' : Hp} (e : Ext M H M' H') {κ : Type} : ∀ {ds : List (κ × D)} {vs : List (κ × V)}, DK K M H ds vs → DK K M' H' ds vs
  | _, _, .nil => .nil
  | _, _, .cons h r => .cons (h.ext e) (DK.ext e r)
theorem FR.ext {K : PySem.W.Frag} {M M' : List Addr} {H H' : Hp} (e : Ext M H M' H') : ∀ {ds : List (String × D)} {vs : List (Str × V)}, FR K M H ds vs → FR K M' H' ds vs
  | _, _, .nil => .nil
  | _, _, .cons h r => .cons (h.ext e) (FR.ext e r)
theorem DRel.ext {K : PySem.W.Frag} {M M' : List Addr} {H H' : Hp} (e : Ext M H M' H') {kvs : Dc} {u : HO} (h : DRel K M H kvs u) : DRel K M' H' kvs u := by
  cases kvs with
  | k kvs => obtain ⟨ks, e1, h⟩ := h; exact ⟨ks, e1, h.ext e⟩
  | t kvs => obtain ⟨ks, e1, h⟩ := h; exact ⟨ks, e1, h.ext e⟩
theorem DRel.is {K : PySem.W.Frag} {M : List Addr} {H : Hp} {d : Dc} {u : HO} (h : DRel K M H d u) : (∃ ks, u = .dK ks) ∨ ∃ ks, u = .dT ks := by
  cases d with
  | k kvs => obtain ⟨ks, e1, _⟩ := h; exact .inl ⟨ks, e1⟩
  | t kvs => obtain ⟨ks, e1, _⟩ := h; exact .inr ⟨ks, e1⟩
/-- one thing's description, where its own object stays -/
theorem RO.ext {K : PySem.W.Frag} {M M' : List Addr} {H H' : Hp} (e : Ext M H M' H') {o : O} {a : Addr} (h : RO K M H o a) (k : H' a = H a) : RO K M' H' o a := by
  cases o with
  | lst xs => obtain ⟨vs, h1, h2⟩ := h; exact ⟨vs, k.trans h1, h2.ext e⟩
  | dct kvs lk =>
    cases lk with
    | false => obtain ⟨u, h1, h2⟩ := h; exact ⟨u, k.trans h1, h2.ext e⟩
    | true => obtain ⟨o, u, h1, h2⟩ := h; exact ⟨o, u, k.trans h1, h2.ext e⟩
  | ins c fs => obtain ⟨dx, vs, h1, h2⟩ := h; exact ⟨dx, vs, k.trans h1, h2.ext e⟩
theorem RO.is {K : PySem.W.Frag} {M : List Addr} {H : Hp} {o : O} {a : Addr} (h : RO K M H o a) : ∃ u, H a = some u ∧ (∀ xs, u ≠ .tup xs) ∧ ∀ ob xs, u ≠ .frz ob (.lst xs) := by
  cases o with
  | lst xs => obtain ⟨vs, h1, h2⟩ := h; exact ⟨_, h1, (by intro x q; cases q), (by intro x y q; cases q)⟩
  | dct kvs lk =>
    cases lk with
    | false =>
      obtain ⟨u, h1, h2⟩ := h
      rcases h2.is with ⟨ks, rfl⟩ | ⟨ks, rfl⟩
      · exact ⟨_, h1, (by intro x q; cases q), (by intro x y q; cases q)⟩
      · exact ⟨_, h1, (by intro x q; cases q), (by intro x y q; cases q)⟩
    | true =>
      obtain ⟨o, u, h1, h2⟩ := h
      rcases h2.is with ⟨ks, rfl⟩ | ⟨ks, rfl⟩
      · exact ⟨_, h1, (by intro x q; cases q), (by intro x y q; cases q)⟩
      · exact ⟨_, h1, (by intro x q; cases q), (by intro x y q; cases q)⟩
  | ins c fs => obtain ⟨dx, vs, h1, h2⟩ := h; exact ⟨_, h1, (by intro x q; cases q), (by intro x y q; cases q)⟩
/-- a named address holds no tuple, no locked list -/
theorem RH.named {K : PySem.W.Frag} {M : List Addr} {h : Hd} {H : Hp} (r : RH K M h H) {a : Addr} (ha : a ∈ M) : ∃ u, H a = some u ∧ (∀ xs, u ≠ .tup xs) ∧ ∀ ob xs, u ≠ .frz ob (.lst xs) := by
  obtain ⟨n, hn⟩ := List.mem_iff_getElem?.mp ha
  obtain ⟨o, ho⟩ := r.al n a hn
  obtain ⟨b, hb, q⟩ := r.ob n o ho
  rw [hn] at hb
  cases hb
  exact q.is
theorem RH.notin {K : PySem.W.Frag} {M : List Addr} {h : Hd} {H : Hp} (r : RH K M h H) {a : Addr} (ha : H a = none) : a ∉ M := fun hm => by
  obtain ⟨u, hu, _⟩ := r.named hm
  rw [ha] at hu; cases hu
theorem RH.at {K : PySem.W.Frag} {M : List Addr} {h : Hd} {H : Hp} (r : RH K M h H) {n : Nat} {o : O} {a : Addr} (ho : h.at_ n = some o) (ha : M[n]? = some a) : RO K M H o a := by
  obtain ⟨b, hb, q⟩ := r.ob n o ho
  rw [ha] at hb
  cases hb
  exact q
/-- a new unnamed object -/
theorem Ext.laid {M : List Addr} {H : Hp} {a : Addr} {u : HO} (ha : H a = none) : Ext M H M (upd H a u) :=
  ⟨List.prefix_refl _, fun n b hn e => (by rw [List.getElem?_eq_none hn] at e; cases e), fun b o h _ => (by rw [upd_ne (ne_of_none h ha)]; exact h),
    fun b h => (by
      by_cases e : b = a
      · subst e; exact absurd ha h
      · rw [upd_ne e]; exact h), fun b xs h => (by rw [upd_ne (ne_of_none h ha)]; exact h), fun b o xs h => (by rw [upd_ne (ne_of_none h ha)]; exact h)⟩
theorem RH.laid {K : PySem.W.Frag} {M : List Addr} {h : Hd} {H : Hp} (r : RH K M h H) {a : Addr} {u : HO} (ha : H a = none) : RH K M h (upd H a u) :=
  ⟨r.len, r.nd, fun n o ho => by
    obtain ⟨b, hb, q⟩ := r.ob n o ho
    refine ⟨b, hb, q.ext (Ext.laid ha) (upd_ne fun e => ?_)⟩
    exact r.notin ha (e ▸ List.mem_of_getElem? hb), r.al⟩
/-- an unnamed object changes -/
theorem Ext.upd' {M : List Addr} {H0 H : Hp} {a : Addr} {u : HO} {M' : List Addr} (e : Ext M H0 M' H) (h0 : H0 a = none) : Ext M H0 M' (upd H a u) :=
  ⟨e.pre, e.new, fun b o h hm => (by rw [upd_ne (ne_of_none h h0)]; exact e.kept b o h hm), fun b h => (by
      by_cases q : b = a
      · rw [q, upd_same]; simp
      · rw [upd_ne q]; exact e.alive b h), fun b xs h => (by rw [upd_ne (ne_of_none h h0)]; exact e.tups b xs h), fun b o xs h => (by rw [upd_ne (ne_of_none h h0)]; exact e.frzl b o xs h)⟩
end Py


set_option Elab.async false
set_option linter.all false
set_option maxRecDepth 100000
set_option maxHeartbeats 1000000
/-! PyD: values on the way, what an expression does. -/
namespace Py
open PySem PySem.Spec PyProof.Rows L2

section
variable {K : PySem.W.Frag} {M M' : List Addr} {H H0 H' : Hp} {h h' : Hd}
/-! ### names only are added -/
theorem pre_mem (p : M <+: M') {a : Addr} (h : a ∈ M) : a ∈ M' := p.subset h
mutual
theorem RV.pre (p : M <+: M') : ∀ {d : D} {v : V}, RV K M H d v → RV K M' H d v
  | _, _, .non => .non
  | _, _, .bl b => .bl b
  | _, _, .int i => .int i
  | _, _, .str s => .str s
  | _, _, .tup h r => .tup h (RVs.pre p r)
  | _, _, .obj h => .obj (pre_get p h)
  | _, _, .rol h r => .rol h (RVs.pre p r)
theorem RVs.pre (p : M <+: M') : ∀ {d : List D} {v : List V}, RVs K M H d v → RVs K M' H d v
  | _, _, .nil => .nil
  | _, _, .cons h r => .cons (RV.pre p h) (RVs.pre p r)
end
theorem DK.pre (p : M <+: M') {κ : Type} : ∀ {ds : List (κ × D)} {vs : List (κ × V)}, DK K M H ds vs → DK K M' H ds vs
  | _, _, .nil => .nil
  | _, _, .cons h r => .cons (h.pre p) (DK.pre p r)
theorem FR.pre (p : M <+: M') : ∀ {ds : List (String × D)} {vs : List (Str × V)}, FR K M H ds vs → FR K M' H ds vs
  | _, _, .nil => .nil
  | _, _, .cons h r => .cons (h.pre p) (FR.pre p r)
theorem DRel.pre (p : M <+: M') {kvs : Dc} {u : HO} (h : DRel K M H kvs u) : DRel K M' H kvs u := by
  cases kvs with
  | k kvs => obtain ⟨ks, e1, h⟩ := h; exact ⟨ks, e1, h.pre p⟩
  | t kvs => obtain ⟨ks, e1, h⟩ := h; exact ⟨ks, e1, h.pre p⟩
theorem RO.pre (p : M <+: M') {o : O} {a : Addr} (h : RO K M H o a) : RO K M' H o a := by
  cases o with
  | lst xs => obtain ⟨vs, h1, h2⟩ := h; exact ⟨vs, h1, h2.pre p⟩
  | dct kvs lk =>
    cases lk with
    | false => obtain ⟨u, h1, h2⟩ := h; exact ⟨u, h1, h2.pre p⟩
    | true => obtain ⟨o, u, h1, h2⟩ := h; exact ⟨o, u, h1, h2.pre p⟩
  | ins c fs => obtain ⟨dx, vs, h1, h2⟩ := h; exact ⟨dx, vs, h1, h2.pre p⟩
/-- an unnamed object gets a name -/
theorem RH.name (r : RH K M h H) {a : Addr} {o : O} (ha : a ∉ M) (q : RO K M H o a) : RH K (M ++ [a]) (h.new o) H := by
  have p : M <+: M ++ [a] := List.prefix_append _ _
  refine ⟨by rw [List.length_append]; exact congrArg (· + 1) r.len, ?_, fun n u hu => ?_, fun n b hb => ?_⟩
  · rw [List.nodup_append]
    exact ⟨r.nd, by simp, fun x hx y hy => (by
      rw [List.mem_singleton] at hy
      subst hy
      intro e; subst e; exact ha hx)⟩
  · have hu : (if n = h.sz then some o else h.at_ n) = some u := hu
    by_cases e : n = h.sz
    · rw [if_pos e] at hu
      cases hu
      refine ⟨a, ?_, q.pre p⟩
      rw [e, r.len]
      simp
    · rw [if_neg e] at hu
      obtain ⟨b, hb, z⟩ := r.ob n u hu
      exact ⟨b, pre_get p hb, z.pre p⟩
  · show ∃ o', (if n = h.sz then some o else h.at_ n) = some o'
    by_cases e : n = h.sz
    · exact ⟨o, by rw [if_pos e]⟩
    · rw [if_neg e]
      refine r.al n b ?_
      rw [List.getElem?_append] at hb
      split at hb
      · exact hb
      · rename_i hn
        rw [r.len] at e
        have : n - M.length ≠ 0 := by omega
        rw [List.getElem?_singleton, if_neg this] at hb
        cases hb
theorem Ext.name (e : Ext M H0 M' H) {a : Addr} (ha : H0 a = none) : Ext M H0 (M' ++ [a]) H :=
  ⟨e.pre.trans (List.prefix_append _ _), fun n b hn q => (by
    rw [List.getElem?_append] at q
    split at q
    · exact e.new n b hn q
    · rw [List.getElem?_singleton] at q
      split at q
      · cases q; exact ha
      · cases q), e.kept, e.alive, e.tups, e.frzl⟩
/-- a named thing changes -/
theorem Ext.put (r : RH K M h H) {n : Nat} {a : Addr} {u : HO} (ha : M[n]? = some a) : Ext M H M (upd H a u) := by
  obtain ⟨w, hw, nt, nf⟩ := r.named (List.mem_of_getElem? ha)
  have ne : ∀ b o, H b = some o → o ≠ w → b ≠ a := fun b o hb q e => by
    subst e
    rw [hw] at hb
    exact q (Option.some.inj hb).symm
  refine ⟨List.prefix_refl _, fun n b hn e => (by rw [List.getElem?_eq_none hn] at e; cases e), fun b o hb hm => ?_, fun b hb => ?_, fun b xs hb => ?_, fun b o xs hb => ?_⟩
  · rw [upd_ne fun e => hm (by rw [e]; exact List.mem_of_getElem? ha)]
    exact hb
  · by_cases q : b = a
    · rw [q, upd_same]; simp
    · rw [upd_ne q]; exact hb
  · rw [upd_ne (ne b _ hb fun e => nt xs e.symm)]; exact hb
  · rw [upd_ne (ne b _ hb fun e => nf o xs e.symm)]; exact hb
theorem nodup_get {l : List Addr} (nd : l.Nodup) {i j : Nat} {a : Addr} (hi : l[i]? = some a) (hj : l[j]? = some a) : i = j := by
  have h1 : i < l.length := by
    by_cases h : i < l.length
    · exact h
    · rw [List.getElem?_eq_none (by omega)] at hi; cases hi
  have h2 : j < l.length := by
    by_cases h : j < l.length
    · exact h
    · rw [List.getElem?_eq_none (by omega)] at hj; cases hj
  rw [List.getElem?_eq_getElem h1] at hi
  rw [List.getElem?_eq_getElem h2] at hj
  have e : l[i] = l[j] := by rw [Option.some.inj hi, Option.some.inj hj]
  exact (List.getElem_inj nd).mp e
theorem RH.put (r : RH K M h H) {n : Nat} {a : Addr} {u : HO} {o : O} (ha : M[n]? = some a) (q : RO K M (upd H a u) o a) : RH K M (h.put n o) (upd H a u) := by
  have e : Ext M H M (upd H a u) := Ext.put r ha
  refine ⟨r.len, r.nd, fun m w hw => ?_, fun m b hb => ?_⟩
  · have hw : (if m = n then some o else h.at_ m) = some w := hw
    by_cases em : m = n
    · rw [if_pos em] at hw
      cases hw
      exact ⟨a, em ▸ ha, q⟩
    · rw [if_neg em] at hw
      obtain ⟨b, hb, z⟩ := r.ob m w hw
      exact ⟨b, hb, z.ext e (upd_ne fun eb => em (nodup_get r.nd (eb ▸ hb) ha))⟩
  · show ∃ o', (if m = n then some o else h.at_ m) = some o'
    by_cases em : m = n
    · exact ⟨o, by rw [if_pos em]⟩
    · rw [if_neg em]; exact r.al m b hb

/-! ### values on the way -/
inductive RT (K : PySem.W.Frag) (M : List Addr) (H0 H : Hp) : TV → V → Prop where
  | v {d : D} {x : V} : RV K M H d x → RT K M H0 H (.v d) x
  | l {a : Addr} {vs : List V} {xs : List D} : H0 a = none → H a = some (.lst vs) → a ∉ M → RVs K M H xs vs → RT K M H0 H (.l xs) (.ref a)
  | d {a : Addr} {u : HO} {kvs : Dc} : H0 a = none → H a = some u → DRel K M H kvs u → a ∉ M → RT K M H0 H (.d kvs) (.ref a)
theorem RT.ext {x : TV} {v : V} (r : RT K M H0 H x v) (e : Ext M H M' H') : RT K M' H0 H' x v := by
  have ni : ∀ a o, H a = some o → a ∉ M → a ∉ M' := fun a o ha hm hm' => by
    obtain ⟨n, hn⟩ := List.mem_iff_getElem?.mp hm'
    by_cases h1 : n < M.length
    · have q1 : M[n]? = some M[n] := List.getElem?_eq_getElem h1
      have q2 := pre_get e.pre q1
      rw [hn] at q2
      cases q2
      exact hm (List.mem_of_getElem? q1)
    · rw [e.new n a (by omega) hn] at ha
      cases ha
  cases r with
  | v h => exact .v (h.ext e)
  | l h0 ha hm q => exact .l h0 (e.kept _ _ ha hm) (ni _ _ ha hm) (q.ext e)
  | d h0 ha q hm => exact .d h0 (e.kept _ _ ha hm) (q.ext e) (ni _ _ ha hm)
/-- told from an earlier heap -/
theorem RT.back {H1 : Hp} {x : TV} {v : V} (r : RT K M H1 H x v) (e : ∀ a, H1 a = none → H0 a = none) : RT K M H0 H x v := by
  cases r with
  | v h => exact .v h
  | l h0 ha hm q => exact .l (e _ h0) ha hm q
  | d h0 ha q hm => exact .d (e _ h0) ha q hm
theorem Ext.back (e : Ext M H M' H') : ∀ a, H' a = none → H a = none := fun a h => by
  cases q : H a with
  | none => rfl
  | some o => exact absurd h (e.alive a (by rw [q]; simp))
def tmpA : TV → V → Option Addr
  | .l _, .ref a => some a
  | .d _, .ref a => some a
  | _, _ => none
/-- a value gets its name -/
theorem RT.pro {M0 : List Addr} {x : TV} {v : V} (r : RT K M H0 H x v) (rh : RH K M h H) (e : Ext M0 H0 M H) : ∃ M', M <+: M' ∧ Ext M0 H0 M' H ∧ RH K M' (pro x h).2 H ∧ RV K M' H (pro x h).1 v ∧ ∀ a, a ∈ M' → a ∈ M ∨ tmpA x v = some a := by
  cases r with
  | v h => exact ⟨M, List.prefix_refl _, e, rh, h, fun a h => .inl h⟩
  | l h0 ha hm q =>
    refine ⟨M ++ [_], List.prefix_append _ _, e.name h0, rh.name hm ⟨_, ha, q⟩, .obj ?_, fun b hb => ?_⟩
    · rw [rh.len]; simp
    · rw [List.mem_append, List.mem_singleton] at hb
      rcases hb with hb | rfl
      · exact .inl hb
      · exact .inr rfl
  | d h0 ha q hm =>
    refine ⟨M ++ [_], List.prefix_append _ _, e.name h0, rh.name hm ⟨_, ha, q⟩, .obj ?_, fun b hb => ?_⟩
    · rw [rh.len]; simp
    · rw [List.mem_append, List.mem_singleton] at hb
      rcases hb with hb | rfl
      · exact .inl hb
      · exact .inr rfl
def tmps : List TV → List V → List Addr
  | x :: xs, v :: vs => (tmpA x v).toList ++ tmps xs vs
  | _, _ => []
inductive RTs (K : PySem.W.Frag) (M : List Addr) (H0 H : Hp) : List TV → List V → Prop where
  | nil : RTs K M H0 H [] []
  | cons {x : TV} {v : V} {xs : List TV} {vs : List V} : RT K M H0 H x v → RTs K M H0 H xs vs → (∀ a, tmpA x v = some a → a ∉ tmps xs vs) → RTs K M H0 H (x :: xs) (v :: vs)
theorem RTs.back {H1 : Hp} (e : ∀ a, H1 a = none → H0 a = none) : ∀ {xs : List TV} {vs : List V}, RTs K M H1 H xs vs → RTs K M H0 H xs vs
  | _, _, .nil => .nil
  | _, _, .cons r rs n => .cons (r.back e) (RTs.back e rs) n
theorem RTs.fresh : ∀ {xs : List TV} {vs : List V}, RTs K M H0 H xs vs → ∀ a ∈ tmps xs vs, H0 a = none
  | _, _, .nil, a, ha => by cases ha
  | _, _, .cons r rs n, a, ha => by
    unfold tmps at ha
    rcases List.mem_append.mp ha with ha | ha
    · cases r with
      | v h => cases ha
      | l h0 _ _ _ => simp [tmpA] at ha; rw [ha]; exact h0
      | d h0 _ _ _ => simp [tmpA] at ha; rw [ha]; exact h0
    · exact rs.fresh a ha
theorem RTs.pre (p : M <+: M') : ∀ {xs : List TV} {vs : List V}, RTs K M H0 H xs vs → (∀ a ∈ tmps xs vs, a ∈ M' → a ∈ M) → RTs K M' H0 H xs vs
  | _, _, .nil, _ => .nil
  | _, _, .cons (x := x) (v := v) r rs n, hn => by
    refine .cons ?_ (RTs.pre p rs fun a ha => hn a (List.mem_append_right _ ha)) n
    cases r with
    | v h => exact .v (h.pre p)
    | l h0 ha hm q => exact .l h0 ha (fun z => hm (hn _ (List.mem_append_left _ (by simp [tmpA])) z)) (q.pre p)
    | d h0 ha q hm => exact .d h0 ha (q.pre p) (fun z => hm (hn _ (List.mem_append_left _ (by simp [tmpA])) z))
theorem RTs.pros {M0 : List Addr} : ∀ {xs : List TV} {vs : List V} {M : List Addr} {h : Hd}, RTs K M H0 H xs vs → RH K M h H → Ext M0 H0 M H → ∃ M', M <+: M' ∧ Ext M0 H0 M' H ∧ RH K M' (pros xs h).2 H ∧ RVs K M' H (pros xs h).1 vs
  | _, _, M, h, .nil, rh, e => ⟨M, List.prefix_refl _, e, rh, .nil⟩
  | _, _, M, h, .cons (x := x) (v := v) (xs := xs) (vs := vs) r rs n, rh, e => by
    obtain ⟨M1, p1, e1, rh1, q1, c1⟩ := r.pro rh e
    have rs1 : RTs K M1 H0 H xs vs := RTs.pre p1 rs fun a ha hm => (c1 a hm).elim id fun z => absurd ha (n a z)
    obtain ⟨M2, p2, e2, rh2, q2⟩ := RTs.pros rs1 rh1 e1
    exact ⟨M2, p1.trans p2, e2, rh2, .cons (q1.pre p2) q2⟩
/-- behind more -/
theorem RTs.ext (e : Ext M H M' H') : ∀ {xs : List TV} {vs : List V}, RTs K M H0 H xs vs → RTs K M' H0 H' xs vs
  | _, _, .nil => .nil
  | _, _, .cons r rs n => .cons (r.ext e) (RTs.ext e rs) n
theorem RTs.there : ∀ {xs : List TV} {vs : List V}, RTs K M H0 H xs vs → ∀ a ∈ tmps xs vs, H a ≠ none
  | _, _, .nil, a, ha => by cases ha
  | _, _, .cons r rs n, a, ha => by
    unfold tmps at ha
    rcases List.mem_append.mp ha with ha | ha
    · cases r with
      | v h => cases ha
      | l h0 h1 _ _ => simp [tmpA] at ha; rw [ha, h1]; simp
      | d h0 h1 _ _ => simp [tmpA] at ha; rw [ha, h1]; simp
    · exact rs.there a ha
/-- x, then the others, from where it stood -/
theorem RTs.step {H1 H2 : Hp} {M1 M2 : List Addr} {x : TV} {v : V} {xs : List TV} {vs : List V} (r : RT K M1 H0 H1 x v) (e0 : Ext M H0 M1 H1) (e : Ext M1 H1 M2 H2) (rs : RTs K M2 H1 H2 xs vs) : RTs K M2 H0 H2 (x :: xs) (v :: vs) := by
  refine .cons (r.ext e) (rs.back e0.back) fun a ha hm => ?_
  have h1 := rs.fresh a hm
  cases r with
  | v h => cases ha
  | l h0 h2 _ _ =>
    have q := Option.some.inj ha
    subst q
    rw [h1] at h2; cases h2
  | d h0 h2 _ _ =>
    have q := Option.some.inj ha
    subst q
    rw [h1] at h2; cases h2
end
end Py


set_option Elab.async false
set_option linter.all false
set_option maxRecDepth 100000
set_option maxHeartbeats 1000000
/-! PyE: expressions: names, constants, operators, comparisons. -/
namespace Py
open PySem PySem.Spec L2
open PyProof.Rows hiding St

/-! ### the weakest readings -/
def RunE (X : Cx) (e : Expr) (σ : St) (H : Hp) (Q : VK) : Prop := ∀ (pins : List (Addr × Obj)) (s : Shared), Inv X pins σ H s → wpAny (model X.prog X.w) X.A (eval e X.env) (EP X pins σ Q) X.xe s
theorem RunE.pe {X : Cx} {e : Expr} : PE X e (fun σ H Q => RunE X e σ H Q) := ⟨fun pins s σ H Q I h => h pins s I⟩
theorem RunE.of {X : Cx} {e : Expr} {t : TE} (h : PE X e t) {σ : St} {H : Hp} {Q : VK} (q : t σ H Q) : RunE X e σ H Q := fun pins s I => h.run pins s σ H Q I q
def RunT (X : Cx) (e : Expr) (σ : St) (H : Hp) (Q : Bool → Hp → Prop) : Prop := ∀ (pins : List (Addr × Obj)) (s : Shared), Inv X pins σ H s → wpAny (model X.prog X.w) X.A (isTrue e X.env (eval e X.env)) (TP X pins σ Q) X.xe s
theorem RunT.pt {X : Cx} {e : Expr} : PT X e (fun σ H Q => RunT X e σ H Q) := ⟨fun pins s σ H Q I h => h pins s I⟩
theorem RunT.of {X : Cx} {e : Expr} {t : TT} (h : PT X e t) {σ : St} {H : Hp} {Q : Bool → Hp → Prop} (q : t σ H Q) : RunT X e σ H Q := fun pins s I => h.run pins s σ H Q I q
def RunW (X : Cx) (e : Expr) (σ : St) (H : Hp) (Q : Bool → Hp → Prop) : Prop := ∀ (whole : Sem Value) (pins : List (Addr × Obj)) (s : Shared), Inv X pins σ H s → wpAny (model X.prog X.w) X.A (isTrue e X.env whole) (TP X pins σ Q) X.xe s
theorem RunW.pw {X : Cx} {e : Expr} : PW X e (fun σ H Q => RunW X e σ H Q) := ⟨fun wh pins s σ H Q I h => h wh pins s I⟩
theorem RunW.of {X : Cx} {e : Expr} {t : TT} (h : PW X e t) {σ : St} {H : Hp} {Q : Bool → Hp → Prop} (q : t σ H Q) : RunW X e σ H Q := fun wh pins s I => h.run wh pins s σ H Q I q
def RunA (X : Cx) (es : List Expr) (σ : St) (H : Hp) (Q : List V → Hp → Prop) : Prop := ∀ (pos : Pos) (pins : List (Addr × Obj)) (s : Shared), Inv X pins σ H s → wpAny (model X.prog X.w) X.A (spliced (backTo pos (starEach es X.env))) (AP X pins σ Q) X.xe s
theorem RunA.pa {X : Cx} {es : List Expr} : PA X es (fun σ H Q => RunA X es σ H Q) := ⟨fun pos pins s σ H Q I h => h pos pins s I⟩
theorem RunA.of {X : Cx} {es : List Expr} {t : TA} (h : PA X es t) {σ : St} {H : Hp} {Q : List V → Hp → Prop} (q : t σ H Q) : RunA X es σ H Q := fun pos pins s I => h.run pos pins s σ H Q I q
/-- every rule for an operation, at once -/
def rAll (X : Cx) (f : Value → Value → Sem Value) : R2 := fun x y H Q => ∃ r : R2, OpR X f r ∧ r x y H Q
theorem op_all {X : Cx} {f : Value → Value → Sem Value} : OpR X f (rAll X f) := fun pins s σ H x y v u Q I rx ry ⟨r, hr, q⟩ => hr pins s σ H x y v u Q I rx ry q
def cAll (X : Cx) (f : Value) : List V → Hp → VK → Prop := fun vs H Q => ∃ r : List V → Hp → VK → Prop, CallR X f r ∧ r vs H Q
theorem call_all {X : Cx} {f : Value} : CallR X f (cAll X f) := fun pins s σ H vs us Q I rv ⟨r, hr, q⟩ => hr pins s σ H vs us Q I rv q

/-! ### where one stands -/
structure RE (K : PySem.W.Frag) (M : List Addr) (H : Hp) (ρ : Env) (σ : St) : Prop where
  len : ρ.length = σ.length
  get : ∀ (i : Nat) (d : D), ρ[i]? = some (some d) → ∃ v, σ[i]? = some (some v) ∧ RV K M H d v
theorem RE.ext {K : PySem.W.Frag} {M M' : List Addr} {H H' : Hp} {ρ : Env} {σ : St} (r : RE K M H ρ σ) (e : Ext M H M' H') : RE K M' H' ρ σ :=
  ⟨r.len, fun i d h => let ⟨v, h1, h2⟩ := r.get i d h; ⟨v, h1, h2.ext e⟩⟩
/-- an exception of ours -/
def RX (K : PySem.W.Frag) (M : List Addr) (H : Hp) (c : String) (fs : List (String × D)) (cls : Value) (d : Option Addr) : Prop :=
  cls = .ref (He.ga K (Str.ofString c)) ∧ ((d = none ∧ fs = []) ∨ ∃ a vs, d = some a ∧ H a = some (.xd vs) ∧ a ∉ M ∧ FR K M H fs vs)
def Fin (K : PySem.W.Frag) (W : WX) (M : List Addr) (σ : St) (H : Hp) (r : R TV) (Q : VK) : Prop := match r with
  | .ok x h' => ∀ M' H' v, Ext M H M' H' → RH K M' h' H' → RT K M' H H' x v → Q v H'
  | .ex c fs h' => ∀ M' H' cls d, Ext M H M' H' → RH K M' h' H' → RX K M' H' c fs cls d → W cls d σ H'
theorem Fin.mono {K : PySem.W.Frag} {W : WX} {M M1 : List Addr} {σ : St} {H H1 : Hp} {r : R TV} {Q : VK} (e : Ext M H M1 H1) (f : Fin K W M σ H r Q) : Fin K W M1 σ H1 r Q := by
  cases r with
  | ok x h' => exact fun M' H' v e' rh rt => f M' H' v (e.trans e') rh (rt.back e.back)
  | ex c fs h' => exact fun M' H' cls d e' rh rx => f M' H' cls d (e.trans e') rh rx
/-- the expression does what f tells -/
def SE (X : Cx) (W : WX) (e : Expr) (f : Env → Hd → Res TV) : Prop := ∀ (M : List Addr) (ρ : Env) (h : Hd) (σ : St) (H : Hp) (r : R TV) (Q : VK),
  RE X.K M H ρ σ → RH X.K M h H → f ρ h = some r → Fin X.K W M σ H r Q → RunE X e σ H Q
def FinT (K : PySem.W.Frag) (W : WX) (M : List Addr) (σ : St) (H : Hp) (r : R TV) (Q : Bool → Hp → Prop) : Prop := match r with
  | .ok x h' => ∀ b, x = .v (.bl b) → ∀ M' H', Ext M H M' H' → RH K M' h' H' → Q b H'
  | .ex c fs h' => ∀ M' H' cls d, Ext M H M' H' → RH K M' h' H' → RX K M' H' c fs cls d → W cls d σ H'
theorem FinT.mono {K : PySem.W.Frag} {W : WX} {M M1 : List Addr} {σ : St} {H H1 : Hp} {r : R TV} {Q : Bool → Hp → Prop} (e : Ext M H M1 H1) (f : FinT K W M σ H r Q) : FinT K W M1 σ H1 r Q := by
  cases r with
  | ok x h' => exact fun b hb M' H' e' rh => f b hb M' H' (e.trans e') rh
  | ex c fs h' => exact fun M' H' cls d e' rh rx => f M' H' cls d (e.trans e') rh rx
/-- a result that is a truth value, or an exception -/
def isB : R TV → Prop
  | .ok (.v (.bl _)) _ => True
  | .ok _ _ => False
  | .ex _ _ _ => True
/-- as a test -/
def ST (X : Cx) (W : WX) (e : Expr) (f : Env → Hd → Res TV) : Prop := ∀ (M : List Addr) (ρ : Env) (h : Hd) (σ : St) (H : Hp) (r : R TV) (Q : Bool → Hp → Prop),
  RE X.K M H ρ σ → RH X.K M h H → f ρ h = some r → isB r → FinT X.K W M σ H r Q → RunT X e σ H Q
/-- a chain of and, or, as a test -/
def SW (X : Cx) (W : WX) (e : Expr) (f : Env → Hd → Res TV) : Prop := ∀ (M : List Addr) (ρ : Env) (h : Hd) (σ : St) (H : Hp) (r : R TV) (Q : Bool → Hp → Prop),
  RE X.K M H ρ σ → RH X.K M h H → f ρ h = some r → isB r → FinT X.K W M σ H r Q → RunW X e σ H Q
/-- arguments -/
def FinA (K : PySem.W.Frag) (W : WX) (M : List Addr) (σ : St) (H : Hp) (r : R (List TV)) (Q : List V → Hp → Prop) : Prop := match r with
  | .ok xs h' => ∀ M' H' vs, Ext M H M' H' → RH K M' h' H' → RTs K M' H H' xs vs → Q vs H'
  | .ex c fs h' => ∀ M' H' cls d, Ext M H M' H' → RH K M' h' H' → RX K M' H' c fs cls d → W cls d σ H'
theorem FinA.mono {K : PySem.W.Frag} {W : WX} {M M1 : List Addr} {σ : St} {H H1 : Hp} {r : R (List TV)} {Q : List V → Hp → Prop} (e : Ext M H M1 H1) (f : FinA K W M σ H r Q) : FinA K W M1 σ H1 r Q := by
  cases r with
  | ok x h' => exact fun M' H' v e' rh rt => f M' H' v (e.trans e') rh (rt.back e.back)
  | ex c fs h' => exact fun M' H' cls d e' rh rx => f M' H' cls d (e.trans e') rh rx
def SA (X : Cx) (W : WX) (es : List Expr) (f : Env → Hd → Res (List TV)) : Prop := ∀ (M : List Addr) (ρ : Env) (h : Hd) (σ : St) (H : Hp) (r : R (List TV)) (Q : List V → Hp → Prop),
  RE X.K M H ρ σ → RH X.K M h H → f ρ h = some r → FinA X.K W M σ H r Q → RunA X es σ H Q
theorem bnd_some {α β : Type} {m : Res α} {f : α → Hd → Res β} {r : R β} (e : bnd m f = some r) : (∃ a h, m = some (.ok a h) ∧ f a h = some r) ∨ ∃ c fs h, m = some (.ex c fs h) ∧ r = .ex c fs h := by
  cases m with
  | none => cases e
  | some q =>
    cases q with
    | ok a h => exact .inl ⟨a, h, rfl, e⟩
    | ex c fs h => exact .inr ⟨c, fs, h, rfl, (Option.some.inj e).symm⟩
theorem lift_ok {α : Type} {o : Option α} {h : Hd} {r : R α} (e : lift o h = some r) : ∃ a, o = some a ∧ r = .ok a h := by
  cases o with
  | none => cases e
  | some a => exact ⟨a, rfl, (Option.some.inj e).symm⟩

section
variable {X : Cx} {W : WX} {a b c : Expr} {fa fb fc : Env → Hd → Res TV} {pos : Pos}
/-- the part is run first -/
theorem SE.first (sa : SE X W a fa) {M : List Addr} {ρ : Env} {h : Hd} {σ : St} {H : Hp} {r : R TV} {Q : VK} {g : TV → Hd → Res TV} {Q0 : VK}
    (re : RE X.K M H ρ σ) (rh : RH X.K M h H) (e : bnd (fa ρ h) g = some r) (fin : Fin X.K W M σ H r Q0)
    (k : ∀ x h1, g x h1 = some r → ∀ M1 H1 v, Ext M H M1 H1 → RH X.K M1 h1 H1 → RT X.K M1 H H1 x v → RE X.K M1 H1 ρ σ → Fin X.K W M1 σ H1 r Q0 → Q v H1) : RunE X a σ H Q := by
  rcases bnd_some e with ⟨x, h1, e1, e2⟩ | ⟨cc, fs, h1, e1, e2⟩
  · exact sa M ρ h σ H _ _ re rh e1 fun M1 H1 v x1 rh1 rt => k x h1 e2 M1 H1 v x1 rh1 rt (re.ext x1) (fin.mono x1)
  · subst e2
    exact sa M ρ h σ H _ _ re rh e1 fin
/-- .. in a context whose end is another -/
theorem SE.firstG (sa : SE X W a fa) {M : List Addr} {ρ : Env} {h : Hd} {σ : St} {H : Hp} {α : Type} {r : R α} {Q : VK} {g : TV → Hd → Res α}
    (re : RE X.K M H ρ σ) (rh : RH X.K M h H) (e : bnd (fa ρ h) g = some r)
    (fx : ∀ c fs h', r = .ex c fs h' → ∀ M' H' cls d, Ext M H M' H' → RH X.K M' h' H' → RX X.K M' H' c fs cls d → W cls d σ H')
    (k : ∀ x h1, g x h1 = some r → ∀ M1 H1 v, Ext M H M1 H1 → RH X.K M1 h1 H1 → RT X.K M1 H H1 x v → RE X.K M1 H1 ρ σ → Q v H1) : RunE X a σ H Q := by
  rcases bnd_some e with ⟨x, h1, e1, e2⟩ | ⟨cc, fs, h1, e1, e2⟩
  · exact sa M ρ h σ H _ _ re rh e1 fun M1 H1 v x1 rh1 rt => k x h1 e2 M1 H1 v x1 rh1 rt (re.ext x1)
  · exact sa M ρ h σ H _ _ re rh e1 (fx cc fs h1 e2)
/-! ### names, constants -/
theorem se_var {i : Nat} {x : Str} (hN : X.N[i]? = some x) (hv : Vis X.env.scope x) (hd : (x == ("__debug__" : Str)) = false) (hcd : (x == ("__classdict__" : Str)) = false) :
    SE X W (.Name x pos) (fun ρ h => match ρ[i]? with
      | some (some d) => some (.ok (.v d) h)
      | _ => none) := by
  intro M ρ h σ H r Q re rh e fin
  refine RunE.of (pe_var hN hv hd hcd) ?_
  cases q : ρ[i]? with
  | none => simp only [q] at e; cases e
  | some o =>
    cases o with
    | none => simp only [q] at e; cases e
    | some d =>
      simp only [q] at e
      cases e
      obtain ⟨v, h1, h2⟩ := re.get i d q
      exact ⟨v, h1, fin M H v (Ext.refl _ _) rh (.v h2)⟩
theorem se_cst {k : Nat} {d : D} {cst : Const} {v : V} (hp : PE X (.Constant cst k pos) (tC v)) (hr : ∀ M H, RV X.K M H d v) : SE X W (.Constant cst k pos) (fun _ h => some (.ok (.v d) h)) := by
  intro M ρ h σ H r Q re rh e fin
  cases e
  exact RunE.of hp (fin M H v (Ext.refl _ _) rh (.v (hr _ _)))
theorem se_glob {x : Str} {d : D} {v : V} {u : Value} (hg : Gl X x) (hm : X.mg x = some u) (r : RelV v u) (hd : (x == ("__debug__" : Str)) = false) (hr : ∀ M H, RV X.K M H d v) : SE X W (.Name x pos) (fun _ h => some (.ok (.v d) h)) := by
  intro M ρ h σ H rr Q re rh e fin
  cases e
  exact RunE.of (pe_glob hg hm r hd) (fin M H v (Ext.refl _ _) rh (.v (hr _ _)))
/-! ### operators -/
def opr : BOp → Operator
  | .add => .Add | .sub => .Sub | .mul => .Mult | .fdiv => .FloorDiv | .mod => .Mod | .pow => .Pow | .shl => .LShift | .shr => .RShift | .band => .BitAnd | .bor => .BitOr
theorem line_eq : (LINE : Nat) = sizeLine := by rw [sizeLine_eq]
theorem mlst_at {K : PySem.W.Frag} {M : List Addr} {H0 H : Hp} {h : Hd} {x : TV} {v : V} {xs : List D} (rh : RH K M h H) (rt : RT K M H0 H x v) (e : mlst x h = some xs) : ∃ a vs, v = .ref a ∧ H a = some (.lst vs) ∧ RVs K M H xs vs := by
  cases rt with
  | l h0 ha hm q =>
    cases e
    exact ⟨_, _, rfl, ha, q⟩
  | d h0 ha q hm => cases e
  | v q =>
    cases q with
    | obj hn =>
      unfold mlst at e
      simp only at e
      split at e
      · rename_i ys hy
        cases e
        obtain ⟨vs, h1, h2⟩ := rh.at hy hn
        exact ⟨_, vs, rfl, h1, h2⟩
      · cases e
    | _ => cases e
theorem tup_at {K : PySem.W.Frag} {M : List Addr} {H0 H : Hp} {v : V} {xs : List D} (rt : RT K M H0 H (.v (.tup xs)) v) : ∃ a vs, v = .ref a ∧ SqT K H a vs ∧ RVs K M H xs vs := by
  cases rt with
  | v q =>
    cases q with
    | tup h1 h2 => exact ⟨_, _, rfl, .inl (.inl h1), h2⟩
theorem newL {K : PySem.W.Frag} {M : List Addr} {H0 H : Hp} {h : Hd} {xs : List D} {vs : List V} {p : Addr} (rh : RH K M h H) (hb : ∀ a, H a = none → H0 a = none) (hp : H p = none) (q : RVs K M H xs vs) :
    Ext M H M (upd H p (.lst vs)) ∧ RH K M h (upd H p (.lst vs)) ∧ RT K M H0 (upd H p (.lst vs)) (.l xs) (.ref p) :=
  ⟨Ext.laid hp, rh.laid hp, .l (hb _ hp) upd_same (rh.notin hp) (q.ext (Ext.laid hp))⟩
theorem newT {K : PySem.W.Frag} {M : List Addr} {H0 H : Hp} {h : Hd} {xs : List D} {vs : List V} {p : Addr} (rh : RH K M h H) (hp : H p = none) (q : RVs K M H xs vs) :
    Ext M H M (upd H p (.tup vs)) ∧ RH K M h (upd H p (.tup vs)) ∧ RT K M H0 (upd H p (.tup vs)) (.v (.tup xs)) (.ref p) :=
  ⟨Ext.laid hp, rh.laid hp, .v (.tup upd_same (q.ext (Ext.laid hp)))⟩
theorem binop_ok {o : BOp} {x y z : TV} {h : Hd} {M : List Addr} {H0 H : Hp} {vx vy : V} {Q : VK} (e : binop o x y h = some z) (rh : RH X.K M h H) (rx : RT X.K M H0 H x vx) (ry : RT X.K M H0 H y vy) (hb : ∀ a, H a = none → H0 a = none)
    (k : ∀ H' v, Ext M H M H' → RH X.K M h H' → RT X.K M H0 H' z v → Q v H') : rAll X (binaryOp (opr o)) vx vy H Q := by
  have fin : ∀ {v : V}, RT X.K M H0 H z v → Q v H := fun q => k H _ (Ext.refl _ _) rh q
  unfold binop at e
  split at e
  · cases e
    cases rx with | v rx => cases rx; cases ry with | v ry => cases ry; exact ⟨_, op_add, _, _, rfl, rfl, fin (.v (.int _))⟩
  · cases e
    cases rx with | v rx => cases rx; cases ry with | v ry => cases ry; exact ⟨_, op_sub, _, _, rfl, rfl, fin (.v (.int _))⟩
  · split at e
    · rename_i hc
      cases e
      cases rx with
      | v rx =>
        cases rx
        cases ry with
        | v ry =>
          cases ry
          rcases hc with hc | ⟨h1, h2⟩
          · exact ⟨_, op_mul, _, _, rfl, rfl, by unfold CMul; omega, fin (.v (.int _))⟩
          · exact ⟨_, op_mulW, _, _, rfl, rfl, wide_mul h1 h2 (by decide) (by decide) (by decide), fin (.v (.int _))⟩
    · cases e
  · split at e
    · rename_i hc
      cases e
      cases rx with
      | v rx =>
        cases rx
        cases ry with
        | v ry =>
          cases ry
          exact ⟨_, op_fdivW, _, _, rfl, rfl, wide_div (b := 200) hc.1 (by omega) (by decide) (by decide), fin (.v (.int _))⟩
    · cases e
  · split at e
    · rename_i hc
      cases e
      cases rx with | v rx => cases rx; cases ry with | v ry => cases ry; exact ⟨_, op_mod, _, _, rfl, rfl, hc, fin (.v (.int _))⟩
    · cases e
  · split at e
    · rename_i hc
      cases e
      cases rx with | v rx => cases rx; cases ry with | v ry => cases ry; exact ⟨_, op_pow, _, _, rfl, rfl, hc, fin (.v (.int _))⟩
    · cases e
  · split at e
    · rename_i hc
      cases e
      cases rx with | v rx => cases rx; cases ry with | v ry => cases ry; exact ⟨_, op_shl, _, _, rfl, rfl, hc, fin (.v (.int _))⟩
    · cases e
  · split at e
    · rename_i hc
      cases e
      cases rx with | v rx => cases rx; cases ry with | v ry => cases ry; exact ⟨_, op_shr, _, _, rfl, rfl, hc, fin (.v (.int _))⟩
    · cases e
  · cases e
    cases rx with | v rx => cases rx; cases ry with | v ry => cases ry; exact ⟨_, op_and, _, _, rfl, rfl, fin (.v (.int _))⟩
  · cases e
    cases rx with | v rx => cases rx; cases ry with | v ry => cases ry; exact ⟨_, op_or, _, _, rfl, rfl, fin (.v (.int _))⟩
  · split at e
    · rename_i hc
      cases e
      cases rx with | v rx => cases rx; cases ry with | v ry => cases ry; exact ⟨_, op_add_str, _, _, rfl, rfl, by rw [← line_eq]; exact hc, fin (.v (.str _))⟩
    · cases e
  · split at e
    · rename_i hc
      cases e
      obtain ⟨pa, va, rfl, ta, qa⟩ := tup_at rx
      obtain ⟨pb, vb, rfl, tb, qb⟩ := tup_at ry
      refine ⟨_, op_catA, pa, pb, va, vb, rfl, rfl, ta, tb, ?_, fun e0 => ?_, fun e0 e1 => ?_, fun e0 e1 p hp => ?_⟩
      · rw [← line_eq, ← qa.length, ← qb.length]; exact hc
      · subst e0
        cases qa
        exact fin ry
      · subst e1
        cases qb
        rw [List.append_nil] at fin
        exact fin rx
      · obtain ⟨x1, x2, x3⟩ := newT (H0 := H0) rh hp (qa.append qb)
        exact k _ _ x1 x2 x3
    · cases e
  · split at e
    · rename_i xs ys h1 h2
      split at e
      · rename_i hc
        cases e
        obtain ⟨pa, va, rfl, ta, qa⟩ := mlst_at rh rx h1
        obtain ⟨pb, vb, rfl, tb, qb⟩ := mlst_at rh ry h2
        refine ⟨_, op_cat, pa, pb, va, vb, rfl, rfl, ta, tb, ?_, fun p hp => ?_⟩
        · rw [← line_eq, ← qa.length, ← qb.length]; exact hc
        · obtain ⟨x1, x2, x3⟩ := newL rh hb hp (qa.append qb)
          exact k _ _ x1 x2 x3
      · cases e
    · cases e
  · split at e
    · rename_i xs h1
      split at e
      · rename_i hc
        cases e
        obtain ⟨pa, va, rfl, ta, qa⟩ := mlst_at rh rx h1
        cases ry with
        | v ry =>
          cases ry
          refine ⟨_, op_rep, pa, _, va, rfl, rfl, ta, by omega, by omega, ?_, fun p hp => ?_⟩
          · rw [← line_eq, ← qa.length]; exact hc.1
          · obtain ⟨x1, x2, x3⟩ := newL rh hb hp (qa.flat _)
            exact k _ _ x1 x2 x3
      · cases e
    · cases e
  · cases e
theorem se_bin {o : BOp} (sa : SE X W a fa) (sb : SE X W b fb) : SE X W (.BinOp a (opr o) b pos) (fun ρ h => bnd (fa ρ h) fun x h1 => bnd (fb ρ h1) fun y h2 => lift (binop o x y h2) h2) := by
  intro M ρ h σ H r Q re rh e fin
  refine RunE.of (pe_op op_all RunE.pe RunE.pe) ?_
  refine sa.first re rh e fin fun x h1 e1 M1 H1 v x1 rh1 rt1 re1 fin1 => ?_
  refine sb.first re1 rh1 e1 fin1 fun y h2 e2 M2 H2 u x2 rh2 rt2 re2 fin2 => ?_
  obtain ⟨z, e3, rfl⟩ := lift_ok e2
  exact binop_ok e3 rh2 ((rt1.ext x2)) (rt2.back x1.back) (fun a ha => x1.back a (x2.back a ha)) fun H' v' ex rh' rt' => fin M2 H' v' ((x1.trans x2).trans ex) rh' rt'
end
end Py


set_option Elab.async false
set_option linter.all false
set_option maxRecDepth 100000
set_option maxHeartbeats 1000000
/-! PyF: comparisons, tests, displays. -/
namespace Py
open PySem PySem.Spec L2
open PyProof.Rows hiding St

section
variable {K : PySem.W.Frag} {M : List Addr} {H H0 : Hp} {h : Hd}
mutual
theorem toP_dp : ∀ {d : D} {v : V} {p : PyData}, RV K M H d v → toP d = some p → Dp K H v p
  | _, _, _, .non, e => by simp only [toP, Option.some.injEq] at e; subst e; exact .non
  | _, _, _, .bl b, e => by simp only [toP, Option.some.injEq] at e; subst e; exact .bl b
  | _, _, _, .int i, e => by simp only [toP, Option.some.injEq] at e; subst e; exact .int i
  | _, _, _, .str s, e => by simp only [toP, Option.some.injEq] at e; subst e; exact .str s
  | _, _, _, .tup (xs := xs) ht r, e => by
    simp only [toP] at e
    cases q : toPs xs with
    | none => rw [q] at e; cases e
    | some ps =>
      rw [q] at e
      cases e
      exact .tup (.inl (.inl ht)) (toPs_dp r q)
  | _, _, _, .obj _, e => by simp [toP] at e
  | _, _, _, .rol _ _, e => by simp [toP] at e
theorem toPs_dp : ∀ {ds : List D} {vs : List V} {ps : List PyData}, RVs K M H ds vs → toPs ds = some ps → DpAll K H vs ps
  | _, _, _, .nil, e => by simp only [toPs, Option.some.injEq] at e; subst e; exact .nil
  | _, _, _, .cons (d := d) (ds := ds) r rs, e => by
    simp only [toPs] at e
    cases q : toP d with
    | none => rw [q] at e; cases e
    | some p =>
      cases q2 : toPs ds with
      | none => rw [q, q2] at e; cases e
      | some ps =>
        rw [q, q2] at e
        cases e
        exact .cons (toP_dp r q) (toPs_dp rs q2)
end
/-- a list, to be read -/
theorem lstOf_at {x : TV} {v : V} {xs : List D} (rh : RH K M h H) (rt : RT K M H0 H x v) (e : lstOf x h = some xs) : ∃ a vs, v = .ref a ∧ SqL K H a vs ∧ RVs K M H xs vs := by
  cases rt with
  | l h0 ha hm q =>
    cases e
    exact ⟨_, _, rfl, .inl (.inl ha), q⟩
  | d h0 ha q hm => cases e
  | v q =>
    cases q with
    | obj hn =>
      unfold lstOf at e
      simp only at e
      split at e
      · rename_i ys hy
        cases e
        obtain ⟨vs, h1, h2⟩ := rh.at hy hn
        exact ⟨_, vs, rfl, .inl (.inl h1), h2⟩
      · cases e
    | rol h1 h2 =>
      cases e
      exact ⟨_, _, rfl, h1.sq, h2⟩
    | _ => cases e
theorem seqOf_at {x : TV} {v : V} {xs : List D} (rh : RH K M h H) (rt : RT K M H0 H x v) (e : seqOf x h = some xs) : ∃ a vs, v = .ref a ∧ (SqL K H a vs ∨ SqT K H a vs) ∧ RVs K M H xs vs := by
  unfold seqOf at e
  split at e
  · cases e
    cases rt with
    | v q =>
      cases q with
      | tup ht r => exact ⟨_, _, rfl, .inr (.inl (.inl ht)), r⟩
  · obtain ⟨a, vs, h1, h2, h3⟩ := lstOf_at rh rt e
    exact ⟨a, vs, h1, .inl h2, h3⟩
theorem dat_dp {x : TV} {v : V} {p : PyData} (rh : RH K M h H) (rt : RT K M H0 H x v) (e : dat x h = some p) : Dp K H v p := by
  unfold dat at e
  split at e
  · obtain ⟨xs, e1, e2⟩ := Option.bind_eq_some_iff.mp e
    obtain ⟨ps, e3, rfl⟩ := Option.map_eq_some_iff.mp e2
    obtain ⟨a, vs, rfl, h2, h3⟩ := lstOf_at rh rt e1
    exact .lst h2 (toPs_dp h3 e3)
  · obtain ⟨xs, e1, e2⟩ := Option.bind_eq_some_iff.mp e
    obtain ⟨ps, e3, rfl⟩ := Option.map_eq_some_iff.mp e2
    obtain ⟨a, vs, rfl, h2, h3⟩ := lstOf_at rh rt e1
    exact .lst h2 (toPs_dp h3 e3)
  · obtain ⟨xs, e1, e2⟩ := Option.bind_eq_some_iff.mp e
    obtain ⟨ps, e3, rfl⟩ := Option.map_eq_some_iff.mp e2
    obtain ⟨a, vs, rfl, h2, h3⟩ := lstOf_at rh rt e1
    exact .lst h2 (toPs_dp h3 e3)
  · cases rt with
    | v q => exact toP_dp q e
  · cases e
/-- a dict, to be read -/
theorem dctOf_at {x : TV} {v : V} {d : Dc} (rh : RH K M h H) (rt : RT K M H0 H x v) (e : dctOf x h = some d) : ∃ a u, v = .ref a ∧ Rd H a u ∧ DRel K M H d u := by
  cases rt with
  | l h0 ha hm q => cases e
  | d h0 ha q hm =>
    cases e
    exact ⟨_, _, rfl, .inl ha, q⟩
  | v q =>
    cases q with
    | obj hn =>
      unfold dctOf at e
      simp only at e
      split at e
      · rename_i kvs lk hy
        cases e
        cases lk with
        | false =>
          obtain ⟨u, h1, h2⟩ := rh.at hy hn
          exact ⟨_, u, rfl, .inl h1, h2⟩
        | true =>
          obtain ⟨o, u, h1, h2⟩ := rh.at hy hn
          exact ⟨_, u, rfl, .inr ⟨o, h1⟩, h2⟩
      · cases e
    | _ => cases e
/-! ### keys -/
theorem toKey_at {d : D} {v : V} {k : Key} (r : RV K M H d v) (e : toKey d = some k) : v = kV k := by
  cases r with
  | int i => simp only [toKey, Option.some.injEq] at e; subst e; rfl
  | str s => simp only [toKey, Option.some.injEq] at e; subst e; rfl
  | _ => simp [toKey] at e
theorem toKeys_at : ∀ {ds : List D} {vs : List V} {ks : List Key}, RVs K M H ds vs → toKeys ds = some ks → vs = ks.map kV
  | _, _, _, .nil, e => by simp only [toKeys, Option.some.injEq] at e; subst e; rfl
  | _, _, _, .cons (d := d) (ds := ds) r rs, e => by
    simp only [toKeys] at e
    cases q : toKey d with
    | none => rw [q] at e; cases e
    | some k =>
      cases q2 : toKeys ds with
      | none => rw [q, q2] at e; cases e
      | some ks =>
        rw [q, q2] at e
        cases e
        rw [toKey_at r q, toKeys_at rs q2]
        rfl
theorem tupKey_at {d : D} {v : V} {k : List Key} (r : RV K M H d v) (e : tupKey d = some k) : ∃ b, v = .ref b ∧ H b = some (.tup (k.map kV)) := by
  cases r with
  | tup ht rs =>
    simp only [tupKey] at e
    rw [toKeys_at rs e] at ht
    exact ⟨_, rfl, ht⟩
  | _ => simp [tupKey] at e
def OR (K : PySem.W.Frag) (M : List Addr) (H : Hp) : Option D → Option V → Prop
  | some d, some v => RV K M H d v
  | none, none => True
  | _, _ => False
theorem DK.look {κ : Type} [DecidableEq κ] {k : κ} : ∀ {ds : List (κ × D)} {vs : List (κ × V)}, DK K M H ds vs → OR K M H (kLook ds k) (valV vs k)
  | _, _, .nil => trivial
  | _, _, .cons (k := j) (ds := ds) (vs := vs) r rs => by
    have ih := DK.look (k := k) rs
    unfold kLook valV
    rw [List.find?_cons, List.find?_cons]
    by_cases e : j = k
    · simp only [e, decide_true, Option.map_some]
      exact r
    · simp only [e, decide_false]
      exact ih
theorem DK.length {κ : Type} : ∀ {ds : List (κ × D)} {vs : List (κ × V)}, DK K M H ds vs → ds.length = vs.length
  | _, _, .nil => rfl
  | _, _, .cons _ rs => by rw [List.length_cons, List.length_cons, rs.length]
/-- what a look-up finds -/
theorem dget_at {d : Dc} {u : HO} {a : Addr} {x : D} {v : V} {o : Option D} (dr : DRel K M H d u) (rd : Rd H a u) (rv : RV K M H x v) (e : d.look x = some o) : ∃ r, DGet H a v r ∧ OR K M H o r := by
  cases d with
  | k kvs =>
    obtain ⟨ks, rfl, dk⟩ := dr
    simp only [Dc.look] at e
    obtain ⟨k, e1, rfl⟩ := Option.map_eq_some_iff.mp e
    exact ⟨valV ks k, .inl ⟨ks, k, rd, toKey_at rv e1, rfl⟩, DK.look dk⟩
  | t kvs =>
    obtain ⟨ks, rfl, dk⟩ := dr
    simp only [Dc.look] at e
    obtain ⟨k, e1, rfl⟩ := Option.map_eq_some_iff.mp e
    obtain ⟨b, ev, hb⟩ := tupKey_at rv e1
    exact ⟨valV ks k, .inr ⟨ks, k, b, rd, ev, hb, rfl⟩, DK.look dk⟩
end

section
variable {X : Cx} {W : WX} {a b c : Expr} {fa fb fc : Env → Hd → Res TV} {pos : Pos}
/-! ### comparisons -/
def cmr : COp → CmpOp
  | .eq => .Eq | .ne => .NotEq | .lt => .Lt | .le => .LtE | .gt => .Gt | .ge => .GtE | .inn => .In | .nin => .NotIn | .iss => .Is | .isn => .IsNot
theorem op_din (hu : X.A.units + 1 < cLine) : OpR X (compareOp .In) (fun x y H Q => ∃ a o, y = .ref a ∧ DGet H a x o ∧ Q (.bl o.isSome) H) := by
  intro pins s σ H x y v u Q I rx ry ⟨a, o, e, g, q⟩
  subst e
  cases ry
  exact d_in hu I g rx fun s' I' => ⟨.bl _, H, I', rfl, q⟩
theorem op_dnin (hu : X.A.units + 1 < cLine) : OpR X (compareOp .NotIn) (fun x y H Q => ∃ a o, y = .ref a ∧ DGet H a x o ∧ Q (.bl (!o.isSome)) H) := by
  intro pins s σ H x y v u Q I rx ry ⟨a, o, e, g, q⟩
  subst e
  cases ry
  exact d_notIn hu I g rx fun s' I' => ⟨.bl _, H, I', rfl, q⟩
/-- x in a list or a tuple of data -/
theorem op_inQ (hu : X.A.units + 65 < cLine) : OpR X (compareOp .In) (fun x y H Q => ∃ d ds, Dp X.K H x d ∧ (Dp X.K H y (.list ds) ∨ Dp X.K H y (.tuple ds)) ∧ SeqAt.shaped d = true ∧ SeqAt.shaped (.list ds) = true ∧ Q (.bl (ds.any fun z => PyData.eqv z d)) H) := by
  intro pins s σ H x y v u Q I rx ry h
  obtain ⟨d, ds, hd, he, sd, se, q⟩ := h
  obtain ⟨as, r1⟩ := Dp.reads I d x v hd rx
  have hc : PyData.canLayAll0 ds = true := by
    have := SeqAt.canLay_of_shaped se
    simpa only [PyData.canLay0] using this
  rcases he with he | he
  · obtain ⟨bs, r2⟩ := Dp.reads I (.list ds) y u he ry
    exact SeqAt.in_list_reads r2 r1 hc (SeqAt.canLay_of_shaped sd) (room_in_shaped sd hu) ⟨.bl _, H, I, rfl, q⟩
  · obtain ⟨bs, r2⟩ := Dp.reads I (.tuple ds) y u he ry
    exact SeqAt.in_tuple_reads r2 r1 hc (SeqAt.canLay_of_shaped sd) (room_in_shaped sd hu) ⟨.bl _, H, I, rfl, q⟩
theorem op_ninQ (hu : X.A.units + 65 < cLine) : OpR X (compareOp .NotIn) (fun x y H Q => ∃ d ds, Dp X.K H x d ∧ (Dp X.K H y (.list ds) ∨ Dp X.K H y (.tuple ds)) ∧ SeqAt.shaped d = true ∧ SeqAt.shaped (.list ds) = true ∧ Q (.bl (!ds.any fun z => PyData.eqv z d)) H) := by
  intro pins s σ H x y v u Q I rx ry h
  obtain ⟨d, ds, hd, he, sd, se, q⟩ := h
  obtain ⟨as, r1⟩ := Dp.reads I d x v hd rx
  have hc : PyData.canLayAll0 ds = true := by
    have := SeqAt.canLay_of_shaped se
    simpa only [PyData.canLay0] using this
  rcases he with he | he
  · obtain ⟨bs, r2⟩ := Dp.reads I (.list ds) y u he ry
    exact SeqAt.notIn_list_reads r2 r1 hc (SeqAt.canLay_of_shaped sd) (room_in_shaped sd hu) ⟨.bl _, H, I, rfl, q⟩
  · obtain ⟨bs, r2⟩ := Dp.reads I (.tuple ds) y u he ry
    exact SeqAt.notIn_tuple_reads r2 r1 hc (SeqAt.canLay_of_shaped sd) (room_in_shaped sd hu) ⟨.bl _, H, I, rfl, q⟩
theorem seq_data {K : PySem.W.Frag} {M : List Addr} {H H0 : Hp} {h : Hd} {y : TV} {vy : V} {xs : List D} {bs : List PyData} (rh : RH K M h H) (ry : RT K M H0 H y vy) (e : seqOf y h = some xs) (e2 : toPs xs = some bs) : Dp K H vy (.list bs) ∨ Dp K H vy (.tuple bs) := by
  obtain ⟨a, vs, rfl, hs, r⟩ := seqOf_at rh ry e
  rcases hs with hs | hs
  · exact .inl (.lst hs (toPs_dp r e2))
  · exact .inr (.tup hs (toPs_dp r e2))
/-- membership: both answers -/
theorem in_ok (hu : X.A.units + 65 < cLine) {x y : TV} {h : Hd} {M : List Addr} {H0 H : Hp} {vx vy : V} {b : Bool} (e : cmpop.inOp x y h = some b) (rh : RH X.K M h H) (rx : RT X.K M H0 H x vx) (ry : RT X.K M H0 H y vy) :
    (∀ Q : VK, Q (.bl b) H → rAll X (compareOp .In) vx vy H Q) ∧ ∀ Q : VK, Q (.bl (!b)) H → rAll X (compareOp .NotIn) vx vy H Q := by
  unfold cmpop.inOp at e
  split at e
  · split at e
    · rename_i s z _ c hc
      cases e
      cases rx with
      | v rx =>
        cases rx
        cases ry with
        | v ry =>
          cases ry
          have es : s = ⟨#[c]⟩ := by
            obtain ⟨⟨l⟩⟩ := s
            exact congrArg (fun l => Str.mk ⟨l⟩) hc
          subst es
          exact ⟨fun Q q => ⟨_, op_in_sign, _, _, rfl, rfl, q⟩, fun Q q => ⟨_, op_notIn_sign, _, _, rfl, rfl, q⟩⟩
    · cases e
  · split at e
    · rename_i d hd
      obtain ⟨o, e1, rfl⟩ := Option.map_eq_some_iff.mp e
      obtain ⟨pa, u, rfl, rd, dr⟩ := dctOf_at rh ry hd
      cases rx with
      | v rx =>
        obtain ⟨r, g, er⟩ := dget_at dr rd rx e1
        have es : r.isSome = o.isSome := by
          cases o <;> cases r <;> first | rfl | exact er.elim
        exact ⟨fun Q q => ⟨_, op_din (by omega), pa, r, rfl, g, by rw [es]; exact q⟩, fun Q q => ⟨_, op_dnin (by omega), pa, r, rfl, g, by rw [es]; exact q⟩⟩
    · split at e
      · rename_i xs hxs
        split at e
        · rename_i p ps h1 h2
          split at e
          · rename_i hc
            cases e
            cases rx with
            | v rx =>
              exact ⟨fun Q q => ⟨_, op_inQ hu, p, ps, toP_dp rx h1, seq_data rh ry hxs h2, hc.1, hc.2, q⟩, fun Q q => ⟨_, op_ninQ hu, p, ps, toP_dp rx h1, seq_data rh ry hxs h2, hc.1, hc.2, q⟩⟩
          · cases e
        · cases e
      · cases e
  · cases e
theorem non_iff {K : PySem.W.Frag} {M : List Addr} {H0 H : Hp} {x : TV} {v : V} (r : RT K M H0 H x v) : decide (v = .non) = x.isNon := by
  cases r with
  | v q => cases q <;> first | rfl | exact decide_eq_false (by intro z; cases z)
  | l _ _ _ _ => exact decide_eq_false (by intro z; cases z)
  | d _ _ _ _ => exact decide_eq_false (by intro z; cases z)
theorem cmpop_ok (hu : X.A.units + 65 < cLine) {o : COp} {x y : TV} {h : Hd} {M : List Addr} {H0 H : Hp} {vx vy : V} {b : Bool} {Q : VK} (e : cmpop o x y h = some b) (rh : RH X.K M h H) (rx : RT X.K M H0 H x vx) (ry : RT X.K M H0 H y vy)
    (k : Q (.bl b) H) : rAll X (compareOp (cmr o)) vx vy H Q := by
  unfold cmpop at e
  cases o with
  | eq =>
    simp only at e
    split at e
    · cases e
      cases rx with | v rx => cases rx; cases ry with | v ry =>
      cases ry
      exact ⟨_, op_eq, rfl, by simpa using k⟩
    · split at e
      · rename_i p q h1 h2
        split at e
        · rename_i hc
          cases e
          exact ⟨_, op_eqD (by omega), p, q, dat_dp rh rx h1, dat_dp rh ry h2, hc.1, hc.2, k⟩
        · cases e
      · cases e
  | ne =>
    simp only at e
    split at e
    · cases e
      cases rx with | v rx => cases rx; cases ry with | v ry =>
      cases ry
      exact ⟨_, op_ne, rfl, by simpa using k⟩
    · split at e
      · rename_i p q h1 h2
        split at e
        · rename_i hc
          cases e
          exact ⟨_, op_neD (by omega), p, q, dat_dp rh rx h1, dat_dp rh ry h2, hc.1, hc.2, k⟩
        · cases e
      · cases e
  | lt =>
    simp only at e
    split at e
    · cases e
      cases rx with | v rx => cases rx; cases ry with | v ry => cases ry; exact ⟨_, op_lt, _, _, rfl, rfl, k⟩
    · cases e
  | le =>
    simp only at e
    split at e
    · cases e
      cases rx with | v rx => cases rx; cases ry with | v ry => cases ry; exact ⟨_, op_le, _, _, rfl, rfl, k⟩
    · cases e
  | gt =>
    simp only at e
    split at e
    · cases e
      cases rx with | v rx => cases rx; cases ry with | v ry => cases ry; exact ⟨_, op_gt, _, _, rfl, rfl, k⟩
    · cases e
  | ge =>
    simp only at e
    split at e
    · cases e
      cases rx with | v rx => cases rx; cases ry with | v ry => cases ry; exact ⟨_, op_ge, _, _, rfl, rfl, k⟩
    · cases e
  | iss =>
    simp only at e
    split at e
    · cases e
      cases ry with
      | v ry =>
        cases ry
        refine ⟨_, op_isN, rfl, ?_⟩
        rw [non_iff rx]
        exact k
    · cases e
  | isn =>
    simp only at e
    split at e
    · cases e
      cases ry with
      | v ry =>
        cases ry
        refine ⟨_, op_notN, rfl, ?_⟩
        rw [non_iff rx]
        exact k
    · cases e
  | inn => exact (in_ok hu e rh rx ry).1 Q k
  | nin =>
    simp only at e
    obtain ⟨b', e1, rfl⟩ := Option.map_eq_some_iff.mp e
    exact (in_ok hu e1 rh rx ry).2 Q k
end
end Py


set_option Elab.async false
set_option linter.all false
set_option maxRecDepth 100000
set_option maxHeartbeats 1000000
/-! PyG: what is known of the text's names; tests, and, or, not, chains, displays. -/
namespace Py
open PySem PySem.Spec L2
open PyProof.Rows hiding St

/-! ### what is known -/
def FinF (K : PySem.W.Frag) (E : XK) (M : List Addr) (H : Hp) (r : R D) (Q : VK) : Prop := match r with
  | .ok d h' => ∀ M' H' v, Ext M H M' H' → RH K M' h' H' → RV K M' H' d v → Q v H'
  | .ex c fs h' => ∀ M' H' cls d, Ext M H M' H' → RH K M' h' H' → RX K M' H' c fs cls d → E cls d H'
/-- what a def promises -/
def spF (K : PySem.W.Frag) (Φ : Calls) (f : String) : Sp := fun vs H Q E => ∃ M h ds r, RH K M h H ∧ RVs K M H ds vs ∧ Φ f ds h = some r ∧ FinF K E M H r Q
structure Tab where
  fns : List String
  cls : List String
  flds : List (String × String)
  meths : List (String × String)
  eqs : List String
  nInts : List (String × Int)
  nStrs : List (String × String)
  free : List String
  kits : List (String × String × Bool)
abbrev sO : String → Str := Str.ofString
/-- a class by its name: one of ours, or a built-in -/
def kOf (K : PySem.W.Frag) (cs : List String) (t : String) : Value := if cs.contains t then .ref (He.ga K (sO t)) else .type t
structure FnAt (CX : CXT) (L : Nat) (X : Cx) (Φ : Calls) (name : String) (f : Addr) : Prop where
  ex : ∃ fd ps, FnOk X.prog X.w X.K X.mg X.base CX L f fd ps (spF X.K Φ name) ∧ Binds X.K fd ps []
/-- what is known at X -/
structure Hy (CX : CXT) (L : Nat) (Γ : Tab) (Φ : Calls) (X : Cx) : Prop where
  calm : X.calm = true
  nd : X.N.Nodup
  room : Room (L + 1) X.A
  fn : ∀ f ∈ Γ.fns, ∃ a, X.mg (sO f) = some (.ref a) ∧ PySem.W.keepIn X.K (.ref a) = true ∧ FnAt CX L X Φ f a
  mkr : ∀ c ∈ Γ.cls, ∃ a, X.mg (sO c) = some (.ref (He.ga X.K (sO c))) ∧ Mk X.K (He.ga X.K (sO c)) a ∧ FnAt CX L X Φ (c ++ ".__init__") a
  cl : ∀ c ∈ Γ.cls, Cls X.K (He.ga X.K (sO c))
  na : ∀ p ∈ Γ.flds, NoAttr X.K (He.ga X.K (sO p.1)) (sO p.2) ∧ Cls X.K (He.ga X.K (sO p.1))
  mt : ∀ p ∈ Γ.meths, ∃ a, Meth X.K (He.ga X.K (sO p.1)) (sO p.2) a ∧ FnAt CX L X Φ (p.1 ++ "." ++ p.2) a
  eq : ∀ c ∈ Γ.eqs, ∃ a, PySem.W.findIn X.K (.ref (He.ga X.K (sO c))) "__eq__" = some (some (.ref a)) ∧ PySem.W.isFn X.K (.ref a) = true ∧ PySem.W.findIn X.K (.ref (He.ga X.K (sO c))) "__ne__" = some (some (.builtin "object.__ne__")) ∧
    PySem.W.mroIn X.K (He.ga X.K (sO c)) (.type "object") = some true ∧ FnAt CX L X Φ (c ++ ".__eq__") a
  int : ∀ p ∈ Γ.nInts, ∃ u, X.mg (sO p.1) = some u ∧ RelV (.int p.2) u
  str : ∀ p ∈ Γ.nStrs, ∃ u, X.mg (sO p.1) = some u ∧ RelV (.str (sO p.2)) u
  free : ∀ x ∈ Γ.free, X.mg (sO x) = none
  isi : ∀ c ∈ Γ.cls, PySem.W.findIn X.K (.ref (He.ga X.K (sO c))) "__class__" = some (some (.builtin "object.__class__")) ∧ PySem.W.specialIn X.K (.builtin "object.__class__") "__get__" = some (some (.builtin "getset_descriptor.__get__")) ∧
    PySem.W.takesIn X.K (.builtin "object.__class__") = some true ∧ PySem.W.mroIn X.K (He.ga X.K (sO c)) (.type "object") = some true
  kit : ∀ p ∈ Γ.kits, PySem.W.kitOne X.K (kOf X.K Γ.cls p.1) (kOf X.K Γ.cls p.2.1) = some p.2.2
  cx0 : ∀ outer H s e s', CX outer H s E0 e s' → False
def WPass (CX : CXT) (X : Cx) (W : WX) : Prop := ∀ σ, PassesAt CX X σ (WE W σ)

section
variable {X : Cx} {W : WX} {a b c : Expr} {fa fb fc : Env → Hd → Res TV} {pos : Pos}
/-! ### tests -/
theorem finT_fin {K : PySem.W.Frag} {M : List Addr} {σ : St} {H : Hp} {r : R TV} {Q : Bool → Hp → Prop} (hb : isB r) (f : FinT K W M σ H r Q) : Fin K W M σ H r (fun x H' => ∃ k, x = .bl k ∧ Q k H') := by
  cases r with
  | ex c fs h' => exact f
  | ok x h' =>
    cases x with
    | v d =>
      cases d with
      | bl b =>
        intro M' H' v e rh rt
        cases rt with
        | v q => cases q; exact ⟨b, rfl, f b rfl M' H' e rh⟩
      | _ => exact hb.elim
    | l xs => exact hb.elim
    | d kvs => exact hb.elim
theorem SE.st (sa : SE X W a fa) (he : ∀ whole, isTrue a X.env whole = (do let v ← whole; standAt a.pos; holding [v] (truthy v))) : ST X W a fa := by
  intro M ρ h σ H r Q re rh e hb fin
  exact RunT.of (pt_val RunE.pe he) (sa M ρ h σ H r _ re rh e (finT_fin hb fin))
/-- .. a test run first -/
theorem ST.first (sa : ST X W a fa) {M : List Addr} {ρ : Env} {h : Hd} {σ : St} {H : Hp} {r : R TV} {Q : Bool → Hp → Prop} {g : Bool → Hd → Res TV} {α : Type}
    (re : RE X.K M H ρ σ) (rh : RH X.K M h H) (e : bnd (fa ρ h) (fun x h1 => match x with
      | .v (.bl b) => g b h1
      | _ => none) = some r)
    (fx : ∀ c fs h', r = .ex c fs h' → ∀ M' H' cls d, Ext M H M' H' → RH X.K M' h' H' → RX X.K M' H' c fs cls d → W cls d σ H')
    (k : ∀ b h1, g b h1 = some r → ∀ M1 H1, Ext M H M1 H1 → RH X.K M1 h1 H1 → RE X.K M1 H1 ρ σ → Q b H1) : RunT X a σ H Q := by
  rcases bnd_some e with ⟨x, h1, e1, e2⟩ | ⟨cc, fs, h1, e1, e2⟩
  · have hx : ∃ b, x = .v (.bl b) ∧ g b h1 = some r := by
      cases x with
      | v d => cases d <;> first | exact ⟨_, rfl, e2⟩ | cases e2
      | _ => cases e2
    obtain ⟨b, rfl, e3⟩ := hx
    refine sa M ρ h σ H _ _ re rh e1 trivial fun b' hb M1 H1 x1 rh1 => ?_
    cases hb
    exact k b h1 e3 M1 H1 x1 rh1 (re.ext x1)
  · exact sa M ρ h σ H _ _ re rh e1 trivial (fx cc fs h1 e2)
theorem Fin.fx {K : PySem.W.Frag} {M : List Addr} {σ : St} {H : Hp} {r : R TV} {Q : VK} (f : Fin K W M σ H r Q) : ∀ c fs h', r = .ex c fs h' → ∀ M' H' cls d, Ext M H M' H' → RH K M' h' H' → RX K M' H' c fs cls d → W cls d σ H' := by
  intro c fs h' e
  subst e
  exact f
theorem FinT.fx {K : PySem.W.Frag} {M : List Addr} {σ : St} {H : Hp} {r : R TV} {Q : Bool → Hp → Prop} (f : FinT K W M σ H r Q) : ∀ c fs h', r = .ex c fs h' → ∀ M' H' cls d, Ext M H M' H' → RH K M' h' H' → RX K M' H' c fs cls d → W cls d σ H' := by
  intro c fs h' e
  subst e
  exact f
theorem se_not (sa : SE X W a fa) : SE X W (.UnaryOp .Not a pos) (fun ρ h => bnd (fa ρ h) fun x h1 => (match x with
    | .v (.bl b) => some (.ok (.v (.bl (!b))) h1)
    | _ => none)) := by
  intro M ρ h σ H r Q re rh e fin
  refine RunE.of (pe_not RunE.pe) ?_
  refine sa.first re rh e fin fun x h1 e1 M1 H1 v x1 rh1 rt1 re1 fin1 => ?_
  split at e1
  · cases e1
    cases rt1 with | v q => cases q; exact ⟨_, rfl, fin M1 H1 _ x1 rh1 (.v (.bl _))⟩
  · cases e1
theorem st_not (sa : ST X W a fa) : ST X W (.UnaryOp .Not a pos) (fun ρ h => bnd (fa ρ h) fun x h1 => (match x with
    | .v (.bl b) => some (.ok (.v (.bl (!b))) h1)
    | _ => none)) := by
  intro M ρ h σ H r Q re rh e hb fin
  refine RunT.of (pt_not RunT.pt) ?_
  refine ST.first (α := Unit) (g := fun b h1 => some (.ok (.v (.bl (!b))) h1)) sa re rh e fin.fx fun b h1 e1 M1 H1 x1 rh1 re1 => ?_
  cases e1
  exact fin _ rfl M1 H1 x1 rh1
theorem un_negD {i : Int} {H : Hp} {Q : VK} (q : Q (.int (-i)) H) : rU (fun i => V.int (-i)) (.int i) H Q := ⟨i, rfl, q⟩
theorem se_neg (sa : SE X W a fa) : SE X W (.UnaryOp .USub a pos) (fun ρ h => bnd (fa ρ h) fun x h1 => (match x with
    | .v (.int i) => some (.ok (.v (.int (-i))) h1)
    | _ => none)) := by
  intro M ρ h σ H r Q re rh e fin
  refine RunE.of (pe_un un_neg RunE.pe) ?_
  refine sa.first re rh e fin fun x h1 e1 M1 H1 v x1 rh1 rt1 re1 fin1 => ?_
  split at e1
  · cases e1
    cases rt1 with | v q => cases q; exact ⟨_, rfl, fin M1 H1 _ x1 rh1 (.v (.int _))⟩
  · cases e1
abbrev fAnd (fa fb : Env → Hd → Res TV) : Env → Hd → Res TV := fun ρ h => bnd (fa ρ h) fun x h1 => (match x with
    | .v (.bl true) => fb ρ h1
    | .v (.bl false) => some (.ok (.v (.bl false)) h1)
    | _ => none)
abbrev fOr (fa fb : Env → Hd → Res TV) : Env → Hd → Res TV := fun ρ h => bnd (fa ρ h) fun x h1 => (match x with
    | .v (.bl true) => some (.ok (.v (.bl true)) h1)
    | .v (.bl false) => fb ρ h1
    | _ => none)
theorem se_and {rest : List Expr} {p2 : Pos} (sa : SE X W a fa) (sb : SE X W (.BoolOp .And (b :: rest) pos) fb) : SE X W (.BoolOp .And (a :: b :: rest) pos) (fAnd fa fb) := by
  intro M ρ h σ H r Q re rh e fin
  refine RunE.of (pe_and RunE.pe RunE.pe) ?_
  refine sa.first re rh e fin fun x h1 e1 M1 H1 v x1 rh1 rt1 re1 fin1 => ?_
  split at e1
  · cases rt1 with | v q => cases q; refine ⟨true, rfl, ?_⟩; rw [if_pos rfl]; exact sb M1 ρ _ σ H1 r Q re1 rh1 e1 fin1
  · cases e1; cases rt1 with | v q => cases q; refine ⟨false, rfl, ?_⟩; rw [if_neg Bool.false_ne_true]; exact fin M1 H1 _ x1 rh1 (.v (.bl _))
  · cases e1
theorem se_or {rest : List Expr} {p2 : Pos} (sa : SE X W a fa) (sb : SE X W (.BoolOp .Or (b :: rest) pos) fb) : SE X W (.BoolOp .Or (a :: b :: rest) pos) (fOr fa fb) := by
  intro M ρ h σ H r Q re rh e fin
  refine RunE.of (pe_or RunE.pe RunE.pe) ?_
  refine sa.first re rh e fin fun x h1 e1 M1 H1 v x1 rh1 rt1 re1 fin1 => ?_
  split at e1
  · cases e1; cases rt1 with | v q => cases q; refine ⟨true, rfl, ?_⟩; rw [if_pos rfl]; exact fin M1 H1 _ x1 rh1 (.v (.bl _))
  · cases rt1 with | v q => cases q; refine ⟨false, rfl, ?_⟩; rw [if_neg Bool.false_ne_true]; exact sb M1 ρ _ σ H1 r Q re1 rh1 e1 fin1
  · cases e1
theorem se_one {op : BoolOp} (sa : SE X W a fa) : SE X W (.BoolOp op [a] pos) fa := by
  intro M ρ h σ H r Q re rh e fin
  exact RunE.of (pe_one RunE.pe) (sa M ρ h σ H r Q re rh e fin)
theorem sw_and {rest : List Expr} (sa : ST X W a fa) (sb : SW X W (.BoolOp .And (b :: rest) pos) fb) : SW X W (.BoolOp .And (a :: b :: rest) pos) (fAnd fa fb) := by
  intro M ρ h σ H r Q re rh e hb fin
  refine RunW.of (pw_and RunT.pt RunW.pw) ?_
  refine ST.first (α := Unit) (g := fun b h1 => match b with
    | true => fb ρ h1
    | false => some (.ok (.v (.bl false)) h1)) sa re rh (by
      rw [← e]; congr 1; funext x h1
      cases x with
      | v d => cases d with
        | bl b => cases b <;> rfl
        | _ => rfl
      | _ => rfl) fin.fx fun b h1 e1 M1 H1 x1 rh1 re1 => ?_
  cases b with
  | true => rw [if_pos rfl]; exact sb M1 ρ _ σ H1 r Q re1 rh1 e1 hb (fin.mono x1)
  | false => rw [if_neg Bool.false_ne_true]; cases e1; exact fin _ rfl M1 H1 x1 rh1
theorem sw_or {rest : List Expr} (sa : ST X W a fa) (sb : SW X W (.BoolOp .Or (b :: rest) pos) fb) : SW X W (.BoolOp .Or (a :: b :: rest) pos) (fOr fa fb) := by
  intro M ρ h σ H r Q re rh e hb fin
  refine RunW.of (pw_or RunT.pt RunW.pw) ?_
  refine ST.first (α := Unit) (g := fun b h1 => match b with
    | true => some (.ok (.v (.bl true)) h1)
    | false => fb ρ h1) sa re rh (by
      rw [← e]; congr 1; funext x h1
      cases x with
      | v d => cases d with
        | bl b => cases b <;> rfl
        | _ => rfl
      | _ => rfl) fin.fx fun b h1 e1 M1 H1 x1 rh1 re1 => ?_
  cases b with
  | true => rw [if_pos rfl]; cases e1; exact fin _ rfl M1 H1 x1 rh1
  | false => rw [if_neg Bool.false_ne_true]; exact sb M1 ρ _ σ H1 r Q re1 rh1 e1 hb (fin.mono x1)
theorem sw_one1 (sa : ST X W a fa) : SW X W (.BoolOp .And [a] pos) fa := by
  intro M ρ h σ H r Q re rh e hb fin
  exact RunW.of (pw_and1 RunT.pt) (sa M ρ h σ H r Q re rh e hb fin)
theorem sw_one2 (sa : ST X W a fa) : SW X W (.BoolOp .Or [a] pos) fa := by
  intro M ρ h σ H r Q re rh e hb fin
  exact RunW.of (pw_or1 RunT.pt) (sa M ρ h σ H r Q re rh e hb fin)
theorem SW.st (sa : SW X W a fa) : ST X W a fa := by
  intro M ρ h σ H r Q re rh e hb fin
  exact RunT.of RunW.pw.pt (sa M ρ h σ H r Q re rh e hb fin)
theorem se_ite (sc : ST X W c fc) (sa : SE X W a fa) (sb : SE X W b fb) : SE X W (.IfExp c a b pos) (fun ρ h => bnd (fc ρ h) fun x h1 => (match x with
    | .v (.bl true) => fa ρ h1
    | .v (.bl false) => fb ρ h1
    | _ => none)) := by
  intro M ρ h σ H r Q re rh e fin
  refine RunE.of (pe_ifExp RunT.pt RunE.pe RunE.pe) ?_
  refine ST.first (α := Unit) (g := fun b h1 => match b with
    | true => fa ρ h1
    | false => fb ρ h1) sc re rh (by
      rw [← e]; congr 1; funext x h1
      cases x with
      | v d => cases d with
        | bl b => cases b <;> rfl
        | _ => rfl
      | _ => rfl) fin.fx fun b h1 e1 M1 H1 x1 rh1 re1 => ?_
  cases b with
  | true => rw [if_pos rfl]; exact sa M1 ρ _ σ H1 r Q re1 rh1 e1 (fin.mono x1)
  | false => rw [if_neg Bool.false_ne_true]; exact sb M1 ρ _ σ H1 r Q re1 rh1 e1 (fin.mono x1)
/-! ### arguments -/
theorem sa_nil : SA X W [] (fun _ h => some (.ok [] h)) := by
  intro M ρ h σ H r Q re rh e fin
  cases e
  exact RunA.of pa_nil (fin M H [] (Ext.refl _ _) rh .nil)
theorem sa_cons {es : List Expr} {f : Env → Hd → Res (List TV)} (sa : SE X W a fa) (sr : SA X W es f) (hs : starEach (a :: es) X.env = (false, eval a X.env) :: starEach es X.env) : SA X W (a :: es) (fun ρ h => bnd (fa ρ h) fun x h1 => bnd (f ρ h1) fun xs h2 => some (.ok (x :: xs) h2)) := by
  intro M ρ h σ H r Q re rh e fin
  refine RunA.of (pa_cons RunE.pe RunA.pa hs) ?_
  refine sa.firstG re rh e (by intro c fs h' e; subst e; exact fin) fun x h1 e1 M1 H1 v x1 rh1 rt1 re1 => ?_
  rcases bnd_some e1 with ⟨xs, h2, e2, e3⟩ | ⟨cc, fs, h2, e2, e3⟩
  · cases e3
    exact sr M1 ρ h1 σ H1 _ _ re1 rh1 e2 fun M2 H2 vs x2 rh2 rs => fin M2 H2 (v :: vs) (x1.trans x2) rh2 (RTs.step rt1 x1 x2 rs)
  · subst e3
    exact sr M1 ρ h1 σ H1 _ _ re1 rh1 e2 fun M2 H2 cls d x2 => fin M2 H2 cls d (x1.trans x2)
theorem SA.first {es : List Expr} {f : Env → Hd → Res (List TV)} (sa : SA X W es f) {M : List Addr} {ρ : Env} {h : Hd} {σ : St} {H : Hp} {α : Type} {r : R α} {g : List TV → Hd → Res α} {Q : List V → Hp → Prop}
    (re : RE X.K M H ρ σ) (rh : RH X.K M h H) (e : bnd (f ρ h) g = some r)
    (fx : ∀ c fs h', r = .ex c fs h' → ∀ M' H' cls d, Ext M H M' H' → RH X.K M' h' H' → RX X.K M' H' c fs cls d → W cls d σ H')
    (k : ∀ xs h1, g xs h1 = some r → ∀ M1 H1 vs, Ext M H M1 H1 → RH X.K M1 h1 H1 → RTs X.K M1 H H1 xs vs → RE X.K M1 H1 ρ σ → Q vs H1) : RunA X es σ H Q := by
  rcases bnd_some e with ⟨x, h1, e1, e2⟩ | ⟨cc, fs, h1, e1, e2⟩
  · exact sa M ρ h σ H _ _ re rh e1 fun M1 H1 v x1 rh1 rt => k x h1 e2 M1 H1 v x1 rh1 rt (re.ext x1)
  · exact sa M ρ h σ H _ _ re rh e1 (fx cc fs h1 e2)
end
end Py


set_option Elab.async false
set_option linter.all false
set_option maxRecDepth 100000
set_option maxHeartbeats 1000000
/-! PyH: == and != of own classes; comparisons. -/
namespace Py
open PySem PySem.Spec L2
open PyProof.Rows hiding St
section
variable {prog : Program} {w : World} {A : Around} {E : Value → Shared → Prop} {s : Shared} {K : PySem.W.Frag} {x C f : Addr} {ox : Obj} {od : Option Obj} {b tb : Value}
theorem objNe_own (X : K.In s.heap) (I : PySem.W.InstAt s.heap x ox C od) (hs : PySem.W.findIn K (.ref C) "__eq__" = some (some (.ref f))) (hf : PySem.W.isFn K (.ref f) = true) (hu : A.units < cLine) {Q : PySem.Fin → Shared → Prop}
    (hcall : wpAny (model prog w) A (call (.ref f) [.ref x, b]) (fun v s' => ∃ k, v = .bool k ∧ Q (.done (.ret (.bool (!k)))) s') E s) :
    wpAny (model prog w) A (Builtin.«object.__ne__» ⟨[.ref x, b], []⟩) Q E s := by
  obtain ⟨hp, g, d, tk, os⟩ := s
  unfold Builtin.«object.__ne__»
  repeat (first
    | with_reducible refine wpAny_cRoomFor hu ?_
    | (refine wpAny_bind (m := callSpecialIfBound? (.ref x) (Str.ofString "__eq__") [b])
        (PySem.W.ifBound_K X I hs hf (wpAny_mono hcall (fun r s' hr => by
          obtain ⟨k, rfl, hq⟩ := hr
          repeat (first | exact hq | exact wpAny_pure hq | exact wpAny_truthy_bool hq | (refine wpAny_bind (m := truthy (.bool _)) (wpAny_truthy_bool ?_)) | wp_step)) fun _ _ e => e)))
    | wp_step)
theorem ne_K (hu : A.units + 1 < cLine) (X : K.In s.heap) (I : PySem.W.InstAt s.heap x ox C od) {y : Addr} {oy : Obj} {ody : Option Obj} (J : PySem.W.InstAt s.heap y oy C ody)
    (hs : PySem.W.findIn K (.ref C) "__eq__" = some (some (.ref f))) (hf : PySem.W.isFn K (.ref f) = true) (hn : PySem.W.findIn K (.ref C) "__ne__" = some (some (.builtin "object.__ne__"))) (hm : PySem.W.mroIn K C (.type "object") = some true)
    {Q : Value → Shared → Prop} (hcall : wpAny (model prog w) A.in1 (call (.ref f) [.ref x, .ref y]) (fun v s' => ∃ k, v = .bool k ∧ Q (.bool (!k)) s') E s) :
    wpAny (model prog w) A (richCompare .NotEq (.ref x) (.ref y)) Q E s := by
  have hA : A.in1.units < cLine := hu
  have one : wpAny (model prog w) A (tryCompare (.ref x) "__ne__" (.ref y)) (fun r s' => ∃ v, r = some v ∧ Q v s') E s := by
    unfold tryCompare
    have hc2 : wpAny (model prog w) A (call (.builtin "object.__ne__") [.ref x, .ref y]) (fun v s' => ∃ k, v = .bool k ∧ Q v s') E s := by
      refine wpAny_call (codeAny_call_builtin F.cmp_object.ne.plain F.cmpEntry_ne (PySem.W.check_slot F.cmpKind_ne F.cmpSplit_ne (I.type.andThen (PySem.W.looks_mroIn X hm)) (F.cmpArgs_ne _ _) (objNe_own X I hs hf hA (wpAny_mono hcall (fun v s' hv => ?_) fun _ _ e => e))))
      obtain ⟨k, rfl, hq⟩ := hv
      exact ⟨k, rfl, ⟨_, rfl, hq⟩⟩
    refine wpAny_bind ?_
    have fin : wpAny (model prog w) A (call (.builtin "object.__ne__") ([.ref x] ++ [.ref y]) >>= fun v => pure (some v)) (fun r s' => ∃ k, r = some (.bool k) ∧ Q (.bool k) s') E s :=
      wpAny_bind (wpAny_mono hc2 (fun v s' h' => by obtain ⟨k, rfl, q⟩ := h'; exact wpAny_pure ⟨k, rfl, q⟩) fun _ _ h' => h')
    have two : wpAny (model prog w) A (callSpecialIfBound? (.ref x) "__ne__" [.ref y]) (fun r s' => ∃ k, r = some (.bool k) ∧ Q (.bool k) s') E s := by
      simp only [callSpecialIfBound?, bindSpecialIfBound?]
      refine wpAny_holding (wpAny_bind (wpAny_bind (wpAny_bind (I.type.here ((PySem.W.looks_findIn X hn).here ?_)))))
      refine wpAny_bind (wpAny_askSetting (wpAny_ite ?_))
      split
      · exact wpAny_bind (wpAny_of_eq (F.cmp_object.ne.bind _) (wpAny_pure (by exact fin)))
      · exact wpAny_tryCatch (wpAny_bind (wpAny_of_eq (F.cmp_object.ne.bind _) (wpAny_pure (by exact fin))))
    refine wpAny_mono two (fun r s' hr => ?_) fun _ _ e => e
    obtain ⟨k, rfl, q⟩ := hr
    exact wpAny_pure ⟨_, rfl, q⟩
  unfold richCompare
  simp only [oneThing_ref]
  refine wpAny_holding ?_
  refine wpAny_bind (wpAny_cRoomFor (Nat.lt_of_succ_lt hu) ?_)
  rw [cmpInfo_NotEq]
  dsimp only
  refine wpAny_bind (I.type.here (wpAny_bind (J.type.here ?_)))
  rw [show (Value.ref C != Value.ref C) = false from by simp]
  simp only [Bool.false_eq_true, if_false]
  refine wpAny_bind (wpAny_pure ?_)
  simp only [Bool.false_eq_true, if_false]
  refine wpAny_bind (wpAny_mono one (fun r s' z => ?_) fun _ _ e => e)
  obtain ⟨v, rfl, hq⟩ := z
  exact wpAny_pure hq
end
section
variable {X : Cx} {CX : CXT} {L : Nat} {Γ : Tab} {Φ : Calls}
theorem FnAt.call {name : String} {f : Addr} (F : FnAt CX L X Φ name f) (h0 : ∀ outer H s e s', CX outer H s E0 e s' → False) {A : Around} (hr : Room L A) (hfr : A.frames = some X.stack) {pins : List (Addr × Obj)} {σ : St} {H : Hp} {s : Shared} {us : List Value} {vs : List V} {Q : VK}
    (I : Inv X pins σ H s) (r : Vals vs us) (h : spF X.K Φ name vs H Q E0) {R : Value → Shared → Prop} {EE : Value → Shared → Prop} (k : ∀ u s', EP X pins σ Q u s' → R u s') : wpAny (model X.prog X.w) A (call (.ref f) us) R EE s := by
  obtain ⟨fd, ps, F, hb⟩ := F.ex
  have e0 : Env0 X.prog X.w X.K X.mg X.base A X.stack s H := by
    have e := I.env0
    exact ⟨hfr, e.mod, e.bs, e.bsz, e.funs, e.frf, e.hok, e.bare⟩
  have hl : us.length = ps.length := by rw [← r.length]; exact F.len _ _ _ _ h
  have b := hb s us I.kIn (by rw [List.append_nil]; exact hl)
  rw [List.append_nil] at b
  refine wpAny_call (codeAny_mono (F.run A X.stack s H ⟨us, []⟩ us vs Q E0 hr e0 b r h) fun r s' hq => ?_)
  cases r with
  | error e => exact (h0 _ _ _ _ _ hq).elim
  | ok fl =>
    cases fl with
    | ret u => exact k _ _ (I.after hq)
    | next => exact False.elim hq
    | brk => exact False.elim hq
    | cont => exact False.elim hq
theorem vals_refs (a b : Addr) : Vals [V.ref a, V.ref b] [Value.ref a, Value.ref b] := .cons (show RelV (.ref a) (.ref a) from rfl) (.cons (show RelV (.ref b) (.ref b) from rfl) .nil)
theorem Hy.u65 (Y : Hy CX L Γ Φ X) : X.A.units + 65 < cLine := (show X.A.units + 1 + 64 < cLine from Y.room.in1.units)
theorem bnn_some {α β : Type} {m : Res α} {f : α → Hd → Res β} {r : R β} (e : bnn m f = some r) : ∃ a h, m = some (.ok a h) ∧ f a h = some r := by
  cases m with
  | none => cases e
  | some q =>
    cases q with
    | ok a h => exact ⟨a, h, rfl, e⟩
    | ex c fs h => cases e
def rEqO (X : Cx) (Φ : Calls) (c : String) (neg : Bool) : R2 := fun x y H Q => ∃ a b dx dy fs gs, x = .ref a ∧ y = .ref b ∧ H a = some (.ins (He.ga X.K (sO c)) dx fs) ∧ H b = some (.ins (He.ga X.K (sO c)) dy gs) ∧
  spF X.K Φ (c ++ ".__eq__") [.ref a, .ref b] H (fun v H' => ∃ k, v = .bl k ∧ Q (.bl (if neg then !k else k)) H') E0
theorem op_eqO (Y : Hy CX L Γ Φ X) {c : String} (hc : c ∈ Γ.eqs) : OpR X (compareOp .Eq) (rEqO X Φ c false) := by
  intro pins s σ H x y v u Q I rx ry ⟨a, b, dx, dy, fs, gs, ex, ey, ha, hb, hsp⟩
  subst ex; subst ey
  cases rx
  cases ry
  obtain ⟨f, hs, hf, hn, hm, F⟩ := Y.eq c hc
  obtain ⟨mA, J, _⟩ := ins_get I.hok ha
  obtain ⟨mB, J', _⟩ := ins_get I.hok hb
  obtain ⟨od, J, _⟩ := J.look
  obtain ⟨od', J', _⟩ := J'.look
  obtain ⟨m, hF⟩ := I.fr
  have hr : Room L X.A := Y.room.mono (Nat.le_succ _)
  show wpAny (model X.prog X.w) X.A (richCompare .Eq (.ref a) (.ref b)) _ _ s
  refine PySem.W.cmp_K (op := .Eq) (tb := .ref (He.ga X.K (sO c))) hr.units0 hF I.ok.mod.kin J J'.type (by simp [PySem.W.notFirst]) hs hf ?_
  refine F.call Y.cx0 hr I.ok.frames I (vals_refs a b) hsp fun u s' hq => ?_
  obtain ⟨v, H', I', rv, k, rfl, q⟩ := hq
  cases (show u = Value.bool k from rv)
  exact ⟨.bl k, H', I', rfl, q⟩
theorem op_neO (Y : Hy CX L Γ Φ X) {c : String} (hc : c ∈ Γ.eqs) : OpR X (compareOp .NotEq) (rEqO X Φ c true) := by
  intro pins s σ H x y v u Q I rx ry ⟨a, b, dx, dy, fs, gs, ex, ey, ha, hb, hsp⟩
  subst ex; subst ey
  cases rx
  cases ry
  obtain ⟨f, hs, hf, hn, hm, F⟩ := Y.eq c hc
  obtain ⟨mA, J, _⟩ := ins_get I.hok ha
  obtain ⟨mB, J', _⟩ := ins_get I.hok hb
  obtain ⟨od, J, _⟩ := J.look
  obtain ⟨od', J', _⟩ := J'.look
  show wpAny (model X.prog X.w) X.A (richCompare .NotEq (.ref a) (.ref b)) _ _ s
  refine ne_K (by have := Y.room.units; omega) I.kIn J J' hs hf hn hm ?_
  refine F.call Y.cx0 Y.room.in1 I.ok.frames I (vals_refs a b) hsp fun u s' hq => ?_
  obtain ⟨v, H', I', rv, k, rfl, q⟩ := hq
  cases (show u = Value.bool k from rv)
  exact ⟨k, rfl, .bl (!k), H', I', rfl, q⟩
theorem insOf_at {K : PySem.W.Frag} {M : List Addr} {H0 H : Hp} {h : Hd} {x : TV} {v : V} {c : String} (rh : RH K M h H) (rt : RT K M H0 H x v) (e : insOf x h = some c) : ∃ a dx vs fs n, x = .v (.obj n) ∧ h.at_ n = some (.ins c fs) ∧ v = .ref a ∧ H a = some (.ins (He.ga K (sO c)) dx vs) ∧ FR K M H fs vs := by
  unfold insOf at e
  split at e
  · split at e
    · rename_i n _ c' fs hn
      cases e
      cases rt with
      | v q =>
        cases q with
        | obj ho =>
          obtain ⟨dx, vs, h1, h2⟩ := rh.at hn ho
          exact ⟨_, dx, vs, fs, n, rfl, hn, rfl, h1, h2⟩
    · cases e
  · cases e
/-- a comparison, own classes too -/
theorem cmpE_ok (Y : Hy CX L Γ Φ X) {o : COp} {cs : List String} (hcs : ∀ c ∈ cs, c ∈ Γ.eqs) {x y : TV} {h : Hd} {r : R Bool} {M : List Addr} {H0 H : Hp} {vx vy : V} {Q : VK} (e : cmpE Φ o cs x y h = some r) (rh : RH X.K M h H) (rx : RT X.K M H0 H x vx) (ry : RT X.K M H0 H y vy)
    (k : ∀ b h', r = .ok b h' → ∀ M' H', Ext M H M' H' → RH X.K M' h' H' → Q (.bl b) H') : rAll X (compareOp (cmr o)) vx vy H Q := by
  have hr : Room L X.A := Y.room.mono (Nat.le_succ _)
  unfold cmpE at e
  split at e
  · rename_i c hc
    split at e
    · rename_i hcc
      have hm : c ∈ Γ.eqs := hcs c (List.contains_iff_mem.mp hcc.1)
      have hi : insOf x h = some c := by
        unfold eqName at hc
        split at hc <;> first | exact hc | cases hc
      obtain ⟨a, dx, vs, fs, n, rfl, _, rfl, h1, _⟩ := insOf_at rh rx hi
      obtain ⟨a', dy, ws, gs, n', rfl, _, rfl, h2, _⟩ := insOf_at rh ry hcc.2
      cases rx with | v rx => cases ry with | v ry =>
      cases q : Φ (c ++ ".__eq__") [.obj n, .obj n'] h with
      | none => simp only [pros, pro, q, bnn_none] at e; cases e
      | some rr =>
        simp only [pros, pro, q] at e
        cases rr with
        | ex _ _ _ => simp at e
        | ok d h' =>
          simp only [bnn_ok] at e
          split at e
          · rename_i b
            cases e
            have hsp : ∀ g : Bool → Bool, (∀ M' H', Ext M H M' H' → RH X.K M' h' H' → Q (.bl (g b)) H') → spF X.K Φ (c ++ ".__eq__") [.ref a, .ref a'] H (fun v H' => ∃ k, v = .bl k ∧ Q (.bl (g k)) H') E0 := fun g hg =>
              ⟨M, h, [.obj n, .obj n'], _, rh, .cons rx (.cons ry .nil), q, fun M' H' v ex rh' rv => by cases rv; exact ⟨b, rfl, hg M' H' ex rh'⟩⟩
            cases o with
            | eq => exact ⟨_, op_eqO Y hm, a, a', dx, dy, vs, ws, rfl, rfl, h1, h2, hsp (fun k => k) fun M' H' ex rh' => by simpa using k _ _ rfl M' H' ex rh'⟩
            | ne => exact ⟨_, op_neO Y hm, a, a', dx, dy, vs, ws, rfl, rfl, h1, h2, hsp (fun k => !k) fun M' H' ex rh' => by simpa using k _ _ rfl M' H' ex rh'⟩
            | _ => cases hc
          · cases e
    · cases e
  · obtain ⟨b, e1, rfl⟩ := lift_ok e
    exact cmpop_ok Y.u65 e1 rh rx ry (k b h rfl M H (Ext.refl _ _) rh)
end
section
variable {X : Cx} {CX : CXT} {L : Nat} {Γ : Tab} {Φ : Calls} {W : WX} {a b c : Expr} {fa fb fc : Env → Hd → Res TV} {pos : Pos}
noncomputable abbrev fCmp (Φ : Calls) (o : COp) (cs : List String) (fa fb : Env → Hd → Res TV) : Env → Hd → Res TV := fun ρ h => bnd (fa ρ h) fun x h1 => bnd (fb ρ h1) fun y h2 => bnd (cmpE Φ o cs x y h2) fun b h3 => some (.ok (.v (.bl b)) h3)
theorem cmpE_nex {o : COp} {cs : List String} {x y : TV} {h : Hd} {c : String} {fs : List (String × D)} {h' : Hd} : cmpE Φ o cs x y h ≠ some (.ex c fs h') := by
  intro e
  unfold cmpE at e
  split at e
  · split at e
    · obtain ⟨d, h1, _, e2⟩ := bnn_some e
      split at e2
      · cases e2
      · cases e2
    · cases e
  · obtain ⟨b, _, q⟩ := lift_ok e
    cases q
theorem cmp_core (Y : Hy CX L Γ Φ X) {o : COp} {cs : List String} (hcs : ∀ c ∈ cs, c ∈ Γ.eqs) (sa : SE X W a fa) (sb : SE X W b fb) {M : List Addr} {ρ : Env} {h : Hd} {σ : St} {H : Hp} {r : R TV} {Q : VK}
    (re : RE X.K M H ρ σ) (rh : RH X.K M h H) (e : fCmp Φ o cs fa fb ρ h = some r) (fin : Fin X.K W M σ H r Q) : tOp (rAll X (compareOp (cmr o))) (RunE X a) (RunE X b) σ H Q := by
  refine sa.first re rh e fin fun x h1 e1 M1 H1 v x1 rh1 rt1 re1 fin1 => ?_
  refine sb.first re1 rh1 e1 fin1 fun y h2 e2 M2 H2 u x2 rh2 rt2 re2 fin2 => ?_
  rcases bnd_some e2 with ⟨k, h3, e3, e4⟩ | ⟨cc, fs, h3, e3, e4⟩
  · cases e4
    refine cmpE_ok Y hcs e3 rh2 (rt1.ext x2) (rt2.back x1.back) fun b h' eb M' H' ex rh' => ?_
    cases eb
    exact fin M' H' _ ((x1.trans x2).trans ex) rh' (.v (.bl _))
  · exact (cmpE_nex e3).elim
theorem se_cmp (Y : Hy CX L Γ Φ X) {o : COp} {cs : List String} (hcs : ∀ c ∈ cs, c ∈ Γ.eqs) (sa : SE X W a fa) (sb : SE X W b fb) (hm : behindInMarks (cmr o) b = false) : SE X W (.Compare a [cmr o] [b] pos) (fCmp Φ o cs fa fb) := by
  intro M ρ h σ H r Q re rh e fin
  exact RunE.of (pe_cmpR op_all RunE.pe RunE.pe hm) (cmp_core Y hcs sa sb re rh e fin)
theorem st_cmp (Y : Hy CX L Γ Φ X) {o : COp} {cs : List String} (hcs : ∀ c ∈ cs, c ∈ Γ.eqs) (sa : SE X W a fa) (sb : SE X W b fb) (hm : behindInMarks (cmr o) b = false) : ST X W (.Compare a [cmr o] [b] pos) (fCmp Φ o cs fa fb) := by
  intro M ρ h σ H r Q re rh e hb fin
  exact RunT.of (pt_cmpR op_all RunE.pe RunE.pe hm) (cmp_core Y hcs sa sb re rh e (finT_fin hb fin))
noncomputable abbrev fChn (o p : COp) (fa fb fc : Env → Hd → Res TV) : Env → Hd → Res TV := fun ρ h => bnd (fa ρ h) fun x h1 => bnd (fb ρ h1) fun y h2 => bnd (lift (cmpop o x y h2) h2) fun k h3 =>
      (match k with
      | true => bnd (fc ρ h3) fun z h4 => bnd (lift (cmpop p y z h4) h4) fun k2 h5 => some (.ok (.v (.bl k2)) h5)
      | false => some (.ok (.v (.bl false)) h3))
theorem chn_core (Y : Hy CX L Γ Φ X) {o p : COp} (sa : SE X W a fa) (sb : SE X W b fb) (sc : SE X W c fc) {M : List Addr} {ρ : Env} {h : Hd} {σ : St} {H : Hp} {r : R TV} {Q : VK}
    (re : RE X.K M H ρ σ) (rh : RH X.K M h H) (e : fChn o p fa fb fc ρ h = some r) (fin : Fin X.K W M σ H r Q) : tChain (rAll X (compareOp (cmr o))) (rAll X (compareOp (cmr p))) (RunE X a) (RunE X b) (RunE X c) σ H Q := by
  have hu := Y.u65
  refine sa.first re rh e fin fun x h1 e1 M1 H1 v x1 rh1 rt1 re1 fin1 => ?_
  refine sb.first re1 rh1 e1 fin1 fun y h2 e2 M2 H2 u x2 rh2 rt2 re2 fin2 => ?_
  rcases bnd_some e2 with ⟨k, h3, e3, e4⟩ | ⟨cc, fs, h3, e3, e4⟩
  · obtain ⟨k', e5, e6⟩ := lift_ok e3
    cases e6
    refine cmpop_ok hu e5 rh2 (rt1.ext x2) (rt2.back x1.back) ⟨k, rfl, ?_⟩
    cases k with
    | false =>
      rw [if_neg Bool.false_ne_true]
      cases e4
      exact fin2 M2 H2 _ (Ext.refl _ _) rh2 (.v (.bl _))
    | true =>
      rw [if_pos rfl]
      refine sc.first re2 rh2 e4 fin2 fun z h4 e7 M3 H3 t x3 rh3 rt3 re3 fin3 => ?_
      rcases bnd_some e7 with ⟨k2, h5, e8, e9⟩ | ⟨cc, fs, h5, e8, e9⟩
      · obtain ⟨k3, e10, e11⟩ := lift_ok e8
        cases e11
        cases e9
        exact cmpop_ok hu e10 rh3 (rt2.ext x3) (rt3.back x2.back) (fin3 M3 H3 _ (Ext.refl _ _) rh3 (.v (.bl _)))
      · obtain ⟨k3, e10, e11⟩ := lift_ok e8
        cases e11
  · obtain ⟨k', e5, e6⟩ := lift_ok e3
    cases e6
theorem se_chn (Y : Hy CX L Γ Φ X) {o p : COp} (sa : SE X W a fa) (sb : SE X W b fb) (sc : SE X W c fc) (hm : lastMarks [cmr o, cmr p] [b, c] = false) : SE X W (.Compare a [cmr o, cmr p] [b, c] pos) (fChn o p fa fb fc) := by
  intro M ρ h σ H r Q re rh e fin
  exact RunE.of (pe_chain op_all op_all RunE.pe RunE.pe RunE.pe hm) (chn_core Y sa sb sc re rh e fin)
theorem st_chn (Y : Hy CX L Γ Φ X) {o p : COp} (sa : SE X W a fa) (sb : SE X W b fb) (sc : SE X W c fc) (hm : lastMarks [cmr o, cmr p] [b, c] = false) : ST X W (.Compare a [cmr o, cmr p] [b, c] pos) (fChn o p fa fb fc) := by
  intro M ρ h σ H r Q re rh e hb fin
  exact RunT.of (pt_chain op_all op_all RunE.pe RunE.pe RunE.pe hm) (chn_core Y sa sb sc re rh e (finT_fin hb fin))
end
end Py


set_option Elab.async false
set_option linter.all false
set_option maxRecDepth 100000
set_option maxHeartbeats 1000000
/-! PyI: displays, subscripts, fields, isinstance. -/
namespace Py
open PySem PySem.Spec L2
open PyProof.Rows hiding St
section
variable {X : Cx} {CX : CXT} {L : Nat} {Γ : Tab} {Φ : Calls} {W : WX} {a b c : Expr} {fa fb fc : Env → Hd → Res TV} {pos : Pos} {es : List Expr} {fs : Env → Hd → Res (List TV)}
theorem Fin.to {K : PySem.W.Frag} {M : List Addr} {σ : St} {H : Hp} {x : TV} {h' : Hd} {Q : VK} (f : Fin K W M σ H (.ok x h') Q) : ∀ M' H' v, Ext M H M' H' → RH K M' h' H' → RT K M' H H' x v → Q v H' := f
theorem fin_fx {K : PySem.W.Frag} {M : List Addr} {σ : St} {H : Hp} {r : R TV} {Q : VK} (f : Fin K W M σ H r Q) : ∀ c fs h', r = .ex c fs h' → ∀ M' H' cls d, Ext M H M' H' → RH K M' h' H' → RX K M' H' c fs cls d → W cls d σ H' := f.fx
/-! ### displays -/
theorem pros_len : ∀ (xs : List TV) (h : Hd), (pros xs h).1.length = xs.length
  | [], _ => rfl
  | x :: xs, h => by simp only [pros, List.length_cons]; rw [pros_len xs]
theorem se_tup {k : Nat} (sa : SA X W es fs) (hn : ∀ ρ h xs h', fs ρ h = some (.ok xs h') → xs.length ≤ LINE) : SE X W (.Tuple es k pos) (fun ρ h => bnd (fs ρ h) fun xs h1 => some (.ok (.v (.tup (pros xs h1).1)) (pros xs h1).2)) := by
  intro M ρ h σ H r Q re rh e fin
  refine RunE.of (pe_tup RunA.pa) ?_
  have hl : ∀ xs h1, fs ρ h = some (.ok xs h1) → xs.length ≤ LINE := fun xs h1 q => hn ρ h xs h1 q
  rcases bnd_some e with ⟨xs, h1, e1, e2⟩ | ⟨cc, fs, h1, e1, e2⟩
  · cases e2
    refine sa M ρ h σ H _ _ re rh e1 fun M1 H1 vs x1 rh1 rs => ?_
    obtain ⟨M2, p2, x2, rh2, q2⟩ := RTs.pros rs rh1 x1
    have hlen : xs.length = vs.length := by rw [← q2.length, pros_len]
    refine ⟨by rw [← line_eq, ← hlen]; exact hl _ _ e1, fun p hp => ?_⟩
    obtain ⟨y1, y2, y3⟩ := newT (H0 := H) rh2 hp q2
    exact fin M2 _ _ (x2.trans y1) y2 y3
  · subst e2
    exact sa M ρ h σ H _ _ re rh e1 (by exact fin)
theorem se_lst (sa : SA X W es fs) (hn : ∀ ρ h xs h', fs ρ h = some (.ok xs h') → xs.length ≤ LINE) : SE X W (.List es pos) (fun ρ h => bnd (fs ρ h) fun xs h1 => some (.ok (.l (pros xs h1).1) (pros xs h1).2)) := by
  intro M ρ h σ H r Q re rh e fin
  refine RunE.of (pe_lst RunA.pa) ?_
  have hl : ∀ xs h1, fs ρ h = some (.ok xs h1) → xs.length ≤ LINE := fun xs h1 q => hn ρ h xs h1 q
  rcases bnd_some e with ⟨xs, h1, e1, e2⟩ | ⟨cc, fs, h1, e1, e2⟩
  · cases e2
    refine sa M ρ h σ H _ _ re rh e1 fun M1 H1 vs x1 rh1 rs => ?_
    obtain ⟨M2, p2, x2, rh2, q2⟩ := RTs.pros rs rh1 x1
    have hlen : xs.length = vs.length := by rw [← q2.length, pros_len]
    refine ⟨by rw [← line_eq, ← hlen]; exact hl _ _ e1, fun p hp => ?_⟩
    obtain ⟨y1, y2, y3⟩ := newL (H0 := H) rh2 x2.back hp q2
    exact fin M2 _ _ (x2.trans y1) y2 y3
  · subst e2
    exact sa M ρ h σ H _ _ re rh e1 (by exact fin)
/-! ### subscripts -/
theorem ix_dict (hu : X.A.units + 1 < cLine) : IxR X (fun x y H Q => ∃ a v, x = .ref a ∧ DGet H a y (some v) ∧ Q v H) := by
  intro value slice pins s σ H x y v u Q I rx ry ⟨p, z, ex, g, q⟩ hs
  subst ex
  cases rx
  have hT := dict_typeIs I g
  unfold subscriptTail
  refine wpAny_bind ?_
  rw [getitemInPython_of_ne hT.not_modules]
  refine wpAny_bind (wpAny_specialOf hT PySem.F.slot_dict_getitem.lookup ?_)
  have fin : wpAny (model X.prog X.w) X.A (subscripted slice false (.ref p) u) (fun r s₃ => wpAny (model X.prog X.w) X.A (letTemporaryGo value (.ref p) r >>= fun _ => pure r) (EP X pins σ Q) X.xe s₃) X.xe s := by
    rw [hs]
    exact wpAny_operating (d_getItem hu I g ry fun w' s3 I3 rw' => wpAny_bind (wpAny_letTemporaryGo (wpAny_pure ⟨z, H, I3, rw', q⟩)))
  first
    | exact wpAny_pure (wpAny_bind fin)
    | exact wpAny_bind (wpAny_pure (wpAny_bind fin))
    | exact wpAny_bind fin
def ixAll (X : Cx) : R2 := fun x y H Q => ∃ r : R2, IxR X r ∧ r x y H Q
theorem ix_all : IxR X (ixAll X) := fun value slice pins s σ H x y v u Q I rx ry ⟨r, hr, q⟩ hs => hr value slice pins s σ H x y v u Q I rx ry q hs
theorem ixN_eq (n : Nat) (i : Int) : Py.ixN n i = L2.ixN n i := rfl
theorem atI_at {K : PySem.W.Frag} {M : List Addr} {H : Hp} {xs : List D} {vs : List V} {i : Int} {d : D} (r : RVs K M H xs vs) (e : Py.atI xs i = some d) : ∃ v, L2.atI vs i = some v ∧ RV K M H d v := by
  unfold Py.atI at e
  obtain ⟨j, e1, e2⟩ := Option.bind_eq_some_iff.mp e
  obtain ⟨v, h1, h2⟩ := r.get e2
  refine ⟨v, ?_, h2⟩
  unfold L2.atI
  rw [← r.length, ← ixN_eq, e1]
  exact h1
theorem idxF_ok (hu : X.A.units + 1 < cLine) {x y : TV} {h : Hd} {d : D} {M : List Addr} {H0 H : Hp} {vx vy : V} {Q : VK} (e : idxF x y h = some d) (rh : RH X.K M h H) (rx : RT X.K M H0 H x vx) (ry : RT X.K M H0 H y vy)
    (k : ∀ v, RV X.K M H d v → Q v H) : ixAll X vx vy H Q := by
  unfold idxF at e
  split at e
  · split at e
    · rename_i hl
      obtain ⟨c, e1, rfl⟩ := Option.map_eq_some_iff.mp e
      cases rx with | v rx => cases rx; cases ry with | v ry => cases ry; exact ⟨_, ix_str, _, _, c, rfl, rfl, by rw [← line_eq]; exact hl, e1, k _ (.str _)⟩
    · cases e
  · split at e
    · rename_i xs hx
      split at e
      · obtain ⟨p, vs, rfl, hs, r⟩ := seqOf_at rh rx hx
        obtain ⟨v, e1, r1⟩ := atI_at r e
        cases ry with
        | v ry =>
          cases ry
          rcases hs with hs | hs
          · exact ⟨_, ix_list, p, vs, _, v, rfl, rfl, hs, e1, k v r1⟩
          · exact ⟨_, ix_tup, p, vs, _, v, rfl, rfl, hs, e1, k v r1⟩
      · cases e
    · obtain ⟨dd, e1, e2⟩ := Option.bind_eq_some_iff.mp e
      obtain ⟨o, e3, e4⟩ := Option.bind_eq_some_iff.mp e2
      cases e4
      obtain ⟨p, u, rfl, rd, dr⟩ := dctOf_at rh rx e1
      cases ry with
      | v ry =>
        obtain ⟨r, g, er⟩ := dget_at dr rd ry e3
        cases r with
        | none => exact er.elim
        | some v => exact ⟨_, ix_dict hu, p, v, rfl, g, k v er⟩
  · cases e
theorem se_idx (hu : X.A.units + 1 < cLine) (sa : SE X W a fa) (sb : SE X W b fb) (hp : PlainIx b) : SE X W (.Subscript a b pos) (fun ρ h => bnd (fa ρ h) fun x h1 => bnd (fb ρ h1) fun y h2 => lift ((idxF x y h2).map .v) h2) := by
  intro M ρ h σ H r Q re rh e fin
  refine RunE.of (pe_ix ix_all RunE.pe RunE.pe hp) ?_
  refine sa.first re rh e fin fun x h1 e1 M1 H1 v x1 rh1 rt1 re1 fin1 => ?_
  refine sb.first re1 rh1 e1 fin1 fun y h2 e2 M2 H2 u x2 rh2 rt2 re2 fin2 => ?_
  obtain ⟨z, e3, rfl⟩ := lift_ok e2
  obtain ⟨d, e4, rfl⟩ := Option.map_eq_some_iff.mp e3
  exact idxF_ok hu e4 rh2 (rt1.ext x2) (rt2.back x1.back) fun w rw => fin2 M2 H2 w (Ext.refl _ _) rh2 (.v rw)
/-! ### slices -/
def slAll (X : Cx) : V → Option Int → Option Int → Hp → VK → Prop := fun x lo hi H Q => ∃ r, SlR X r ∧ r x lo hi H Q
theorem sl_all : SlR X (slAll X) := fun pins s σ H x v vl vu lo hi sl Q I rx hs pl pu ⟨r, hr, q⟩ => hr pins s σ H x v vl vu lo hi sl Q I rx hs pl pu q
theorem sIx_eq (n d : Nat) (o : Option Int) : Py.sIx n d o = HT.sIx n d o := rfl
theorem cut_at {K : PySem.W.Frag} {M : List Addr} {H : Hp} {xs : List D} {vs : List V} {lo hi : Option Int} (r : RVs K M H xs vs) : RVs K M H (cut xs lo hi) (cutV vs lo hi) := by
  unfold cut cutV
  rw [← sIx_eq, ← sIx_eq, r.length]
  exact (r.drop _).take _
theorem slcF_ok {x z : TV} {h : Hd} {lo hi : Option Int} {M : List Addr} {H0 H : Hp} {vx : V} {Q : VK} (e : slcF x lo hi h = some z) (rh : RH X.K M h H) (rx : RT X.K M H0 H x vx) (hb : ∀ a, H a = none → H0 a = none)
    (k : ∀ H' v, Ext M H M H' → RH X.K M h H' → RT X.K M H0 H' z v → Q v H') : slAll X vx lo hi H Q := by
  unfold slcF at e
  split at e
  · rename_i xs0
    cases e
    obtain ⟨pa, va, rfl, ta, qa⟩ := tup_at rx
    refine ⟨_, sl_tupA, pa, va, rfl, ta, fun hc => ?_, fun _ p hp => ?_⟩
    · have ec : cut xs0 lo hi = xs0 := by
        unfold cut
        rw [sIx_eq, sIx_eq, qa.length, hc.1, hc.2, List.drop_zero, Nat.sub_zero, ← qa.length]
        exact List.take_length
      rw [ec] at k
      exact k H _ (Ext.refl _ _) rh rx
    · obtain ⟨y1, y2, y3⟩ := newT (H0 := H0) rh hp (cut_at (lo := lo) (hi := hi) qa)
      exact k _ _ y1 y2 y3
  · obtain ⟨xs, e1, rfl⟩ := Option.map_eq_some_iff.mp e
    obtain ⟨p, vs, rfl, hs, r⟩ := lstOf_at rh rx e1
    refine ⟨_, sl_list, p, vs, rfl, hs, fun q hq => ?_⟩
    obtain ⟨y1, y2, y3⟩ := newL (H0 := H0) rh hb hq (cut_at (lo := lo) (hi := hi) r)
    exact k _ _ y1 y2 y3
/-- a part: nothing, or an expression -/
def SO (X : Cx) (W : WX) (o : Option Expr) (e : E) (f : Env → Hd → Res TV) : Prop := match o with
  | none => isNonE e = true ∧ ∀ ρ h, f ρ h = some (.ok (.v .non) h)
  | some x => isNonE e = false ∧ SE X W x f
def RunO (X : Cx) (e : Option Expr) (σ : St) (H : Hp) (Q : Option Int → Hp → Prop) : Prop := ∀ (pins : List (Addr × Obj)) (s : Shared), Inv X pins σ H s →
    wpAny (model X.prog X.w) X.A (evalPart e X.env) (fun u s' => ∃ o H', Inv X pins σ H' s' ∧ IsPart u o ∧ Q o H') X.xe s
theorem RunO.po {X : Cx} {e : Option Expr} : PO X e (fun σ H Q => RunO X e σ H Q) := ⟨fun pins s σ H Q I h => h pins s I⟩
theorem RunO.of {X : Cx} {e : Option Expr} {t : TO} (h : PO X e t) {σ : St} {H : Hp} {Q : Option Int → Hp → Prop} (q : t σ H Q) : RunO X e σ H Q := fun pins s I => h.run pins s σ H Q I q
theorem SO.first {o : Option Expr} {eo : E} (sa : SO X W o eo fa) {M : List Addr} {ρ : Env} {h : Hd} {σ : St} {H : Hp} {r : R TV} {Q : Option Int → Hp → Prop} {g : TV → Hd → Res TV} {Q0 : VK}
    (re : RE X.K M H ρ σ) (rh : RH X.K M h H) (e : bnd (fa ρ h) g = some r) (fin : Fin X.K W M σ H r Q0) (hg : ∀ x h1, g x h1 = some r → ∃ i, partF eo x = some i)
    (k : ∀ x h1 i, g x h1 = some r → partF eo x = some i → ∀ M1 H1, Ext M H M1 H1 → RH X.K M1 h1 H1 → RE X.K M1 H1 ρ σ → Fin X.K W M1 σ H1 r Q0 → Q i H1) : RunO X o σ H Q := by
  cases o with
  | none =>
    obtain ⟨h1, h2⟩ := sa
    rw [h2] at e
    exact RunO.of po_none (k _ h none e (by unfold partF; rw [h1]) M H (Ext.refl _ _) rh re fin)
  | some x =>
    obtain ⟨h1, h2⟩ := sa
    refine RunO.of (po_some RunE.pe) ?_
    refine h2.first re rh e fin fun y h3 e1 M1 H1 v x1 rh1 rt1 re1 fin1 => ?_
    obtain ⟨i, hi⟩ := hg _ _ e1
    have hi2 := hi
    unfold partF at hi2
    rw [h1] at hi2
    simp only at hi2
    split at hi2
    · cases hi2
      cases rt1 with | v q => cases q; exact ⟨_, rfl, k _ h3 _ e1 hi M1 H1 x1 rh1 re1 fin1⟩
    · cases hi2
theorem se_slc {lo hi : Option Expr} {el eh : E} {p2 : Pos} (sa : SE X W a fa) (sl : SO X W lo el fb) (su : SO X W hi eh fc) : SE X W (.Subscript a (.Slice lo hi none p2) pos) (fun ρ h => bnd (fa ρ h) fun x h1 => bnd (fb ρ h1) fun l h2 => (match partF el l with
      | some l => bnd (fc ρ h2) fun u h3 => (match partF eh u with
        | some u => lift (slcF x l u h3) h3
        | none => none)
      | none => none)) := by
  intro M ρ h σ H r Q re rh e fin
  refine RunE.of (pe_slice sl_all RunE.pe RunO.po RunO.po) ?_
  refine sa.first re rh e fin fun x h1 e1 M1 H1 v x1 rh1 rt1 re1 fin1 => ?_
  refine sl.first re1 rh1 e1 fin1 (fun l h2 e2 => ?_) fun l h2 il e2 hl M2 H2 x2 rh2 re2 fin2 => ?_
  · cases q : partF el l with
    | none => rw [q] at e2; cases e2
    | some i => exact ⟨i, rfl⟩
  · rw [hl] at e2
    refine su.first re2 rh2 e2 fin2 (fun u h3 e3 => ?_) fun u h3 iu e3 hu M3 H3 x3 rh3 re3 fin3 => ?_
    · cases q : partF eh u with
      | none => rw [q] at e3; cases e3
      | some i => exact ⟨i, rfl⟩
    · rw [hu] at e3
      obtain ⟨z, e4, rfl⟩ := lift_ok e3
      exact slcF_ok e4 rh3 ((rt1.ext x2).ext x3) (fun a ha => x1.back a (x2.back a (x3.back a ha))) fun H' v' ex rh' rt' => fin M3 H' v' (((x1.trans x2).trans x3).trans ex) rh' rt'
/-! ### fields -/
theorem sO_inj : ∀ {a b : String}, sO a = sO b → a = b := by
  intro a b h
  rw [show sO a = _ from Str.ofString_eq_toList a, show sO b = _ from Str.ofString_eq_toList b] at h
  have h2 : a.toList.map Char.toNat = b.toList.map Char.toNat := by
    have := congrArg Array.toList (Str.mk.inj h)
    simpa using this
  have h3 : ∀ l m : List Char, l.map Char.toNat = m.map Char.toNat → l = m := by
    intro l
    induction l with
    | nil => intro m q; cases m with
      | nil => rfl
      | cons _ _ => simp at q
    | cons x l ih => intro m q; cases m with
      | nil => simp at q
      | cons y m =>
        simp only [List.map_cons, List.cons.injEq] at q
        rw [ih m q.2]
        congr 1
        exact Char.ext (UInt32.toNat_inj.mp q.1)
  exact String.ext (h3 _ _ h2)
theorem FR.look {K : PySem.W.Frag} {M : List Addr} {H : Hp} {f : String} : ∀ {fs : List (String × D)} {vs : List (Str × V)}, FR K M H fs vs → OR K M H (fs.lookup f) (vs.lookup (sO f))
  | _, _, .nil => trivial
  | _, _, .cons (f := g) (ds := ds) (vs := vs) r rs => by
    have ih := FR.look (f := f) rs
    rw [List.lookup_cons, List.lookup_cons]
    by_cases e : f = g
    · subst e
      simp only [beq_self_eq_true]
      exact r
    · have e2 : (sO f == sO g) = false := beq_eq_false_iff_ne.mpr fun q => e (sO_inj q)
      have e3 : (f == g) = false := beq_eq_false_iff_ne.mpr e
      rw [show (Str.ofString g) = sO g from rfl, e2, e3]
      exact ih
theorem se_fld (Y : Hy CX L Γ Φ X) {f : String} {cs : List String} (hcs : ∀ c ∈ cs, (c, f) ∈ Γ.flds) (sa : SE X W a fa) (hb : attributeBase a (sO f) X.env (eval a X.env) = eval a X.env) : SE X W (.Attribute a (sO f) pos) (fun ρ h => bnd (fa ρ h) fun x h1 => lift ((fldF cs f x h1).map .v) h1) := by
  intro M ρ h σ H r Q re rh e fin
  refine RunE.of (pe_fld RunE.pe hb) ?_
  refine sa.first re rh e fin fun x h1 e1 M1 H1 v x1 rh1 rt1 re1 fin1 => ?_
  obtain ⟨z, e3, rfl⟩ := lift_ok e1
  obtain ⟨d, e4, rfl⟩ := Option.map_eq_some_iff.mp e3
  unfold fldF at e4
  split at e4
  · rename_i n
    split at e4
    · rename_i c fs hn
      split at e4
      · rename_i hc
        obtain ⟨na, cl⟩ := Y.na _ (hcs c (List.contains_iff_mem.mp hc))
        have hi : insOf (.v (.obj n)) h1 = some c := by simp only [insOf, hn]
        obtain ⟨p, dx, vs, fs', n', en, hn', rfl, h1', h2'⟩ := insOf_at rh1 rt1 hi
        cases en
        rw [hn] at hn'
        cases hn'
        have lk := FR.look (f := f) h2'
        rw [e4] at lk
        cases q : vs.lookup (sO f) with
        | none => rw [q] at lk; exact lk.elim
        | some w =>
          rw [q] at lk
          exact ⟨p, _, dx, vs, w, rfl, h1', cl, na, q, fin1 M1 H1 w (Ext.refl _ _) rh1 (.v lk)⟩
      · cases e4
    · cases e4
  · cases rt1 with | v q => cases q
  · cases e4
/-! ### isinstance -/
theorem tyX_of (Y : Hy CX L Γ Φ X) {x : TV} {h : Hd} {M : List Addr} {H0 H : Hp} {v : V} (rh : RH X.K M h H) (rt : RT X.K M H0 H x v) (hi : ∀ c, insOf x h = some c → c ∈ Γ.cls) (hl : lkd x h = false) :
    (∃ c, insOf x h = some c ∧ TyX X.K H v (.ref (He.ga X.K (sO c)))) ∨ (insOf x h = none ∧ ∃ t, TyX X.K H v (.type t) ∧ ((t = "NoneType" ∧ ∀ T, isTy x h T = false) ∨ (t = "bool" ∧ ∀ T, isTy x h T = (T == "bool" || T == "int")) ∨ ((t = "int" ∨ t = "str" ∨ t = "tuple" ∨ t = "list" ∨ t = "dict") ∧ ∀ T, isTy x h T = (T == t)))) := by
  cases rt with
  | l h0 ha hm q => exact .inr ⟨rfl, "list", .base (.lst ha), .inr (.inr ⟨by simp, fun T => rfl⟩)⟩
  | d h0 ha q hm =>
    rcases q.is with ⟨ks, rfl⟩ | ⟨ks, rfl⟩
    · exact .inr ⟨rfl, "dict", .base (.dK ha), .inr (.inr ⟨by simp, fun T => rfl⟩)⟩
    · exact .inr ⟨rfl, "dict", .base (.dT ha), .inr (.inr ⟨by simp, fun T => rfl⟩)⟩
  | v q =>
    cases q with
    | non => exact .inr ⟨rfl, "NoneType", .base .non, .inl ⟨rfl, fun T => rfl⟩⟩
    | bl b => exact .inr ⟨rfl, "bool", .base (.bl b), .inr (.inl ⟨rfl, fun T => rfl⟩)⟩
    | int i => exact .inr ⟨rfl, "int", .base (.int i), .inr (.inr ⟨by simp, fun T => rfl⟩)⟩
    | str s => exact .inr ⟨rfl, "str", .base (.str s), .inr (.inr ⟨by simp, fun T => rfl⟩)⟩
    | tup ht r => exact .inr ⟨rfl, "tuple", .base (.tup ht), .inr (.inr ⟨by simp, fun T => rfl⟩)⟩
    | rol hr r =>
      refine .inr ⟨rfl, "list", ?_, .inr (.inr ⟨by simp, fun T => rfl⟩)⟩
      rcases hr with ⟨o, hr⟩ | ⟨o, its, n, lk, hc, _⟩
      · exact .base (.frz hr)
      · exact .kList lk hc
    | @obj n p hn =>
      obtain ⟨o, ho⟩ := rh.al n p hn
      have ra := rh.at ho hn
      cases o with
      | lst xs =>
        obtain ⟨vs, h1, _⟩ := ra
        exact .inr ⟨by simp only [insOf, ho], "list", .base (.lst h1), .inr (.inr ⟨by simp, fun T => by simp only [isTy, ho]⟩)⟩
      | ins c fs =>
        have hc : insOf (.v (.obj n)) h = some c := by simp only [insOf, ho]
        obtain ⟨dx, vs, h1, _⟩ := ra
        obtain ⟨k1, k2, k3, k4⟩ := Y.isi c (hi c hc)
        exact .inl ⟨c, hc, .base (.ins h1 (Y.cl c (hi c hc)) k1 k2 k3 k4)⟩
      | dct kvs lk =>
        have e1 : insOf (.v (.obj n)) h = none := by simp only [insOf, ho]
        have e2 : ∀ T, isTy (.v (.obj n)) h T = (T == "dict") := fun T => by simp only [isTy, ho]
        refine .inr ⟨e1, "dict", ?_, .inr (.inr ⟨by simp, e2⟩)⟩
        cases lk with
        | false =>
          obtain ⟨u, h1, h2⟩ := ra
          rcases h2.is with ⟨ks, rfl⟩ | ⟨ks, rfl⟩
          · exact .base (.dK h1)
          · exact .base (.dT h1)
        | true => simp [lkd, ho] at hl
/-- the answer to isinstance, by the classes' names -/
theorem isiF_ok (Y : Hy CX L Γ Φ X) {T : String} {cs : List String} (hT : ∀ t ∈ ["NoneType", "bool", "int", "str", "tuple", "list", "dict"], (t, T, (t == T || (t == "bool" && T == "int"))) ∈ Γ.kits) (h0 : ∀ t ∈ ["NoneType", "bool", "int", "str", "tuple", "list", "dict"], Γ.cls.contains t = false) (hn : T ≠ "NoneType")
    (hcs : ∀ c ∈ cs, c ∈ Γ.cls ∧ (c, T, T == c) ∈ Γ.kits) {x z : TV} {h : Hd} {M : List Addr} {H0 H : Hp} {v cv : V} {Q : VK} (e : isiF cs [T] x h = some z) (rh : RH X.K M h H) (rt : RT X.K M H0 H x v) (hc : ClsV cv (kOf X.K Γ.cls T))
    (k : ∀ b, z = .v (.bl b) → Q (.bl b) H) : rIsi X.K [v, cv] H Q := by
  have hcs2 : ∀ c, insOf x h = some c → c ∈ cs := fun c q => by
    unfold isiF at e
    rw [q] at e
    simp only at e
    split at e
    · rename_i hh
      exact List.contains_iff_mem.mp hh
    · cases e
  have hl : lkd x h = false := by
    cases q : lkd x h with
    | false => rfl
    | true =>
      unfold isiF at e
      have : insOf x h = none := by
        unfold lkd at q
        split at q
        · split at q
          · rename_i n _ hn
            simp only [insOf, hn]
          · cases q
        · cases q
      rw [this] at e
      simp only [q, if_true] at e
      cases e
  have kt : ∀ t, t ∈ ["NoneType", "bool", "int", "str", "tuple", "list", "dict"] → PySem.W.kitOne X.K (.type t) (kOf X.K Γ.cls T) = some (t == T || (t == "bool" && T == "int")) := fun t ht => by
    have := Y.kit _ (hT t ht)
    simp only [kOf, h0 t ht, Bool.false_eq_true, if_false] at this
    exact this
  rcases tyX_of Y rh rt (fun c q => (hcs c (hcs2 c q)).1) hl with ⟨c, hi, ty⟩ | ⟨hi, t, ty, ht⟩
  · have hm := hcs c (hcs2 c hi)
    have := Y.kit _ hm.2
    simp only [kOf] at this
    rw [if_pos (List.contains_iff_mem.mpr hm.1)] at this
    unfold isiF at e
    rw [hi] at e
    simp only [List.contains_iff_mem.mpr (hcs2 c hi), if_true] at e
    cases e
    exact ⟨v, cv, _, _, _, rfl, hc, ty, this, k _ (by simp)⟩
  · unfold isiF at e
    rw [hi] at e
    simp only [hl] at e
    cases e
    have fin : ∀ b, isTy x h T = b → b = (t == T || (t == "bool" && T == "int")) → t ∈ ["NoneType", "bool", "int", "str", "tuple", "list", "dict"] → rIsi X.K [v, cv] H Q := fun b eb et hm =>
      ⟨v, cv, _, _, b, rfl, hc, ty, by rw [et]; exact kt t hm, k b (by simp [eb])⟩
    rcases ht with ⟨rfl, q⟩ | ⟨rfl, q⟩ | ⟨ht, q⟩
    · refine fin _ (q T) ?_ (by simp)
      have : ("NoneType" == T) = false := beq_eq_false_iff_ne.mpr fun z => hn z.symm
      simp [this]
    · refine fin _ (q T) ?_ (by simp)
      rw [show (T == "bool") = ("bool" == T) from BEq.comm]
      simp
    · refine fin _ (q T) ?_ (by rcases ht with rfl | rfl | rfl | rfl | rfl <;> simp)
      have h1 : (t == "bool") = false := by rcases ht with rfl | rfl | rfl | rfl | rfl <;> decide
      rw [show (T == t) = (t == T) from BEq.comm, h1]
      simp
end
end Py


set_option Elab.async false
set_option linter.all false
set_option maxRecDepth 100000
set_option maxHeartbeats 1000000
/-! PyJ: calls: built-ins, their methods, defs, classes. -/
namespace Py
open PySem PySem.Spec L2
open PyProof.Rows hiding St
section
variable {K : PySem.W.Frag} {M : List Addr} {H H0 : Hp} {h : Hd}
theorem intsD_at : ∀ {xs : List D} {vs : List V} {is : List Int}, RVs K M H xs vs → intsD xs = some is → vs = is.map V.int
  | _, _, _, .nil, e => by cases e; rfl
  | _, _, _, .cons (d := d) (ds := ds) r rs, e => by
    cases r with
    | int i =>
      simp only [intsD] at e
      obtain ⟨js, e1, rfl⟩ := Option.map_eq_some_iff.mp e
      rw [intsD_at rs e1]
      rfl
    | _ => simp [intsD] at e
theorem boolsD_at : ∀ {xs : List D} {vs : List V} {is : List Bool}, RVs K M H xs vs → boolsD xs = some is → vs = is.map V.bl
  | _, _, _, .nil, e => by cases e; rfl
  | _, _, _, .cons (d := d) (ds := ds) r rs, e => by
    cases r with
    | bl i =>
      simp only [boolsD] at e
      obtain ⟨js, e1, rfl⟩ := Option.map_eq_some_iff.mp e
      rw [boolsD_at rs e1]
      rfl
    | _ => simp [boolsD] at e
theorem strsD_at : ∀ {xs : List D} {vs : List V} {is : List Str}, RVs K M H xs vs → strsD xs = some is → vs = is.map V.str
  | _, _, _, .nil, e => by cases e; rfl
  | _, _, _, .cons (d := d) (ds := ds) r rs, e => by
    cases r with
    | str i =>
      simp only [strsD] at e
      obtain ⟨js, e1, rfl⟩ := Option.map_eq_some_iff.mp e
      rw [strsD_at rs e1]
      rfl
    | _ => simp [strsD] at e
theorem ints_at : ∀ is : List Int, RVs K M H (is.map .int) (is.map V.int)
  | [] => .nil
  | i :: r => .cons (.int i) (ints_at r)
theorem strs_at : ∀ is : List Str, RVs K M H (is.map .str) (is.map V.str)
  | [] => .nil
  | i :: r => .cons (.str i) (strs_at r)
theorem maxI_is : ∀ {is : List Int} {m m' : Int}, maxI is = some m → m' ∈ is → (∀ y ∈ is, y ≤ m') → m' = m
  | [], _, _, e, _, _ => by cases e
  | [x], m, m', e, hm, _ => by
    cases e
    simpa using hm
  | x :: y :: r, m, m', e, hm, hb => by
    simp only [maxI] at e
    obtain ⟨k, e1, rfl⟩ := Option.map_eq_some_iff.mp e
    have key : ∀ {l : List Int} {k : Int}, maxI l = some k → k ∈ l ∧ ∀ y ∈ l, y ≤ k := by
      intro l
      induction l with
      | nil => intro k q; cases q
      | cons a l ih =>
        intro k q
        cases l with
        | nil => cases q; simp
        | cons b l =>
          simp only [maxI] at q
          obtain ⟨j, q1, rfl⟩ := Option.map_eq_some_iff.mp q
          obtain ⟨z1, z2⟩ := ih q1
          refine ⟨?_, fun y hy => ?_⟩
          · rcases Int.le_total a j with h | h
            · rw [Int.max_eq_right h]; exact List.mem_cons_of_mem _ z1
            · rw [Int.max_eq_left h]; exact List.mem_cons_self ..
          · rcases List.mem_cons.mp hy with rfl | hy
            · exact Int.le_max_left _ _
            · exact Int.le_trans (z2 y hy) (Int.le_max_right _ _)
    obtain ⟨z1, z2⟩ := key e1
    have h1 : m' ≤ max x k := by
      rcases List.mem_cons.mp hm with rfl | hm
      · exact Int.le_max_left _ _
      · exact Int.le_trans (z2 _ hm) (Int.le_max_right _ _)
    have h2 : max x k ≤ m' := Int.max_le.mpr ⟨hb x (List.mem_cons_self ..), hb k (List.mem_cons_of_mem _ z1)⟩
    exact Int.le_antisymm h1 h2
theorem minI_is : ∀ {is : List Int} {m m' : Int}, minI is = some m → m' ∈ is → (∀ y ∈ is, m' ≤ y) → m' = m
  | [], _, _, e, _, _ => by cases e
  | [x], m, m', e, hm, _ => by
    cases e
    simpa using hm
  | x :: y :: r, m, m', e, hm, hb => by
    simp only [minI] at e
    obtain ⟨k, e1, rfl⟩ := Option.map_eq_some_iff.mp e
    have key : ∀ {l : List Int} {k : Int}, minI l = some k → k ∈ l ∧ ∀ y ∈ l, k ≤ y := by
      intro l
      induction l with
      | nil => intro k q; cases q
      | cons a l ih =>
        intro k q
        cases l with
        | nil => cases q; simp
        | cons b l =>
          simp only [minI] at q
          obtain ⟨j, q1, rfl⟩ := Option.map_eq_some_iff.mp q
          obtain ⟨z1, z2⟩ := ih q1
          refine ⟨?_, fun y hy => ?_⟩
          · rcases Int.le_total a j with h | h
            · rw [Int.min_eq_left h]; exact List.mem_cons_self ..
            · rw [Int.min_eq_right h]; exact List.mem_cons_of_mem _ z1
          · rcases List.mem_cons.mp hy with rfl | hy
            · exact Int.min_le_left _ _
            · exact Int.le_trans (Int.min_le_right _ _) (z2 y hy)
    obtain ⟨z1, z2⟩ := key e1
    have h1 : min x k ≤ m' := by
      rcases List.mem_cons.mp hm with rfl | hm
      · exact Int.min_le_left _ _
      · exact Int.le_trans (Int.min_le_right _ _) (z2 _ hm)
    have h2 : m' ≤ min x k := Int.le_min.mpr ⟨hb x (List.mem_cons_self ..), hb k (List.mem_cons_of_mem _ z1)⟩
    exact Int.le_antisymm h2 h1
theorem sorted_uniq {ns ns' : List Int} (hp : ns'.Perm ns) (hs : ns'.Pairwise (· ≤ ·)) : ns' = ns.mergeSort (fun a b => decide (a ≤ b)) := by
  have h2 : (ns.mergeSort (fun a b => decide (a ≤ b))).Pairwise (fun a b => decide (a ≤ b) = true) := List.pairwise_mergeSort (fun a b c h1 h2 => by simp at h1 h2 ⊢; omega) (fun a b => by simp; omega) ns
  refine List.Perm.eq_of_pairwise (le := fun a b => a ≤ b) (fun a b _ _ h1 h2 => Int.le_antisymm h1 h2) hs (h2.imp fun h => by simpa using h) (hp.trans (List.mergeSort_perm ns _).symm)
end
/-- a built-in by its name -/
def bltV : String → Option Value
  | "len" => some (.builtin "len")
  | "tuple" => some (.type "tuple")
  | "list" => some (.type "list")
  | "sorted" => some (.builtin "sorted")
  | "sum" => some (.builtin "sum")
  | "max" => some (.builtin "max")
  | "min" => some (.builtin "min")
  | "all" => some (.builtin "all")
  | "any" => some (.builtin "any")
  | "abs" => some (.builtin "abs")
  | "int" => some (.type "int")
  | "str" => some (.type "str")
  | "dict" => some (.type "dict")
  | _ => none
section
variable {X : Cx} {CX : CXT} {L : Nat} {Γ : Tab} {Φ : Calls} {W : WX}
theorem log_lt {i : Int} (h : i.natAbs < 2 ^ 1900) : i.natAbs.log2 < 1920 := by
  by_cases h0 : i.natAbs = 0
  · rw [h0]; decide
  · have := (Nat.log2_lt h0).mpr h
    omega
theorem bltF_ok (Y : Hy CX L Γ Φ X) {b : String} {f : Value} {xs : List TV} {vs : List V} {z : TV} {h : Hd} {M : List Addr} {H0 H : Hp} {Q : VK} (hf : bltV b = some f) (e : bltF b xs h = some z) (rh : RH X.K M h H) (rs : RTs X.K M H0 H xs vs) (hb : ∀ a, H a = none → H0 a = none)
    (k : ∀ H' v, Ext M H M H' → RH X.K M h H' → RT X.K M H0 H' z v → Q v H') : cAll X f vs H Q := by
  have fin : ∀ {v : V}, RT X.K M H0 H z v → Q v H := fun q => k H _ (Ext.refl _ _) rh q
  have hc := Y.calm
  unfold bltF at e
  split at e
  · split at e
    · rename_i hl
      cases hf; cases e
      cases rs with | cons r rs => cases rs; cases r with | v r => cases r; exact ⟨_, call_len, _, _, rfl, ⟨by rw [← line_eq]; exact hl, rfl⟩, fin (.v (.int _))⟩
    · cases e
  · rename_i x _
    cases hf
    cases rs with
    | cons r rs =>
      cases rs
      split at e
      · rename_i ys hy
        cases e
        obtain ⟨p, us, rfl, hs, q⟩ := seqOf_at rh r hy
        refine ⟨_, call_len, _, us.length, rfl, ?_, by rw [← q.length]; exact fin (.v (.int _))⟩
        rcases hs with hs | hs
        · exact .inl ⟨us, hs, rfl⟩
        · exact .inr ⟨us, hs, rfl⟩
      · obtain ⟨d, e1, e2⟩ := Option.bind_eq_some_iff.mp e
        cases d with
        | t kvs => cases e2
        | k kvs =>
          cases e2
          obtain ⟨p, u, rfl, rd, ks, rfl, dk⟩ := dctOf_at rh r e1
          refine ⟨fun xs H Q => ∃ p kvs, xs = [V.ref p] ∧ Rd H p (.dK kvs) ∧ Q (.int ((kvs.length : Nat) : Int)) H, ?_, p, ks, rfl, rd, by rw [← dk.length]; exact fin (.v (.int _))⟩
          intro pins s σ H vs us Q I rv hh
          obtain ⟨p, kvs, rfl, hr, q⟩ := hh
          rw [Vals.ref1 rv]
          exact d_len I hr fun t s' I' => ⟨.int _, _, I', ⟨t, rfl⟩, q⟩
  · cases hf; cases e
    cases rs with
    | cons r rs =>
      cases rs
      obtain ⟨p, us, rfl, hs, q⟩ := tup_at r
      exact ⟨_, call_tuple_of, p, us, rfl, .inr ⟨hs, fin r⟩⟩
  · cases hf
    obtain ⟨ys, e1, rfl⟩ := Option.map_eq_some_iff.mp e
    cases rs with
    | cons r rs =>
      cases rs
      obtain ⟨p, us, rfl, hs, q⟩ := lstOf_at rh r e1
      refine ⟨_, call_tuple_of, p, us, rfl, .inl ⟨hs, fun l hl => ?_⟩⟩
      obtain ⟨y1, y2, y3⟩ := newT (H0 := H0) rh hl q
      exact k _ _ y1 y2 y3
  · cases hf
    cases rs with
    | cons r rs =>
      cases rs
      split at e
      · rename_i ys hy
        cases e
        obtain ⟨p, us, rfl, hs, q⟩ := seqOf_at rh r hy
        refine ⟨_, call_list_of, p, us, rfl, hs, fun l hl => ?_⟩
        obtain ⟨y1, y2, y3⟩ := newL (H0 := H0) rh hb hl q
        exact k _ _ y1 y2 y3
      · cases e
  · cases hf
    cases rs with
    | cons r rs =>
      cases rs
      split at e
      · rename_i ys hy
        obtain ⟨zs, e1, rfl⟩ := Option.map_eq_some_iff.mp e
        unfold sortD at e1
        obtain ⟨is, e2, rfl⟩ := Option.map_eq_some_iff.mp e1
        obtain ⟨p, us, rfl, hs, q⟩ := lstOf_at rh r hy
        have hi := intsD_at q e2
        subst hi
        refine ⟨_, cr_sortedI, p, is, rfl, hs, fun ns' l hp hs' hl => ?_⟩
        rw [sorted_uniq hp hs']
        obtain ⟨y1, y2, y3⟩ := newL (H0 := H0) rh hb hl (ints_at (K := X.K) (M := M) (H := H) (is.mergeSort fun a b => decide (a ≤ b)))
        exact k _ _ y1 y2 y3
      · cases e
  · cases hf
    cases rs with
    | cons r rs =>
      cases rs
      split at e
      · rename_i ys hy
        obtain ⟨is, e1, rfl⟩ := Option.map_eq_some_iff.mp e
        obtain ⟨p, us, rfl, hs, q⟩ := lstOf_at rh r hy
        have hi := intsD_at q e1
        subst hi
        exact ⟨_, cr_sum hc, p, is, rfl, hs, fin (.v (.int _))⟩
      · cases e
  · cases hf; cases e
    cases rs with | cons r rs => cases r with | v r => cases r; cases rs with | cons r rs => cases rs; cases r with | v r => cases r; exact ⟨_, call_max2 hc, _, _, rfl, fin (.v (.int _))⟩
  · cases hf; cases e
    cases rs with | cons r rs => cases r with | v r => cases r; cases rs with | cons r rs => cases rs; cases r with | v r => cases r; exact ⟨_, call_min2 hc, _, _, rfl, fin (.v (.int _))⟩
  · cases hf
    obtain ⟨ys, e1, e2⟩ := Option.bind_eq_some_iff.mp e
    obtain ⟨is, e3, e4⟩ := Option.bind_eq_some_iff.mp e2
    obtain ⟨m, e5, rfl⟩ := Option.map_eq_some_iff.mp e4
    cases rs with
    | cons r rs =>
      cases rs
      obtain ⟨p, us, rfl, hs, q⟩ := lstOf_at rh r e1
      have hi := intsD_at q e3
      subst hi
      refine ⟨_, cr_max hc, p, is, rfl, hs, by cases is with | nil => cases e5 | cons _ _ => simp, fun m' h1 h2 => ?_⟩
      rw [maxI_is e5 h1 h2]
      exact fin (.v (.int _))
  · cases hf
    obtain ⟨ys, e1, e2⟩ := Option.bind_eq_some_iff.mp e
    obtain ⟨is, e3, e4⟩ := Option.bind_eq_some_iff.mp e2
    obtain ⟨m, e5, rfl⟩ := Option.map_eq_some_iff.mp e4
    cases rs with
    | cons r rs =>
      cases rs
      obtain ⟨p, us, rfl, hs, q⟩ := lstOf_at rh r e1
      have hi := intsD_at q e3
      subst hi
      refine ⟨_, cr_min hc, p, is, rfl, hs, by cases is with | nil => cases e5 | cons _ _ => simp, fun m' h1 h2 => ?_⟩
      rw [minI_is e5 h1 h2]
      exact fin (.v (.int _))
  · cases hf
    obtain ⟨ys, e1, e2⟩ := Option.bind_eq_some_iff.mp e
    obtain ⟨is, e3, rfl⟩ := Option.map_eq_some_iff.mp e2
    cases rs with
    | cons r rs =>
      cases rs
      obtain ⟨p, us, rfl, hs, q⟩ := lstOf_at rh r e1
      have hi := boolsD_at q e3
      subst hi
      exact ⟨_, cr_all hc, p, is, rfl, hs, fin (.v (.bl _))⟩
  · cases hf
    obtain ⟨ys, e1, e2⟩ := Option.bind_eq_some_iff.mp e
    obtain ⟨is, e3, rfl⟩ := Option.map_eq_some_iff.mp e2
    cases rs with
    | cons r rs =>
      cases rs
      obtain ⟨p, us, rfl, hs, q⟩ := lstOf_at rh r e1
      have hi := boolsD_at q e3
      subst hi
      exact ⟨_, cr_any hc, p, is, rfl, hs, fin (.v (.bl _))⟩
  · cases hf; cases e
    cases rs with | cons r rs => cases rs; cases r with | v r => cases r; exact ⟨_, call_abs, _, rfl, fin (.v (.int _))⟩
  · cases hf; cases e
    cases rs with | cons r rs => cases rs; cases r with | v r => cases r; exact ⟨_, call_int1, .inl ⟨_, rfl, fin (.v (.int _))⟩⟩
  · cases hf; cases e
    cases rs with | cons r rs => cases rs; cases r with | v r => cases r; exact ⟨_, call_int1, .inr ⟨_, rfl, fin (.v (.int _))⟩⟩
  · split at e
    · rename_i hl
      cases hf
      obtain ⟨i, e1, rfl⟩ := Option.map_eq_some_iff.mp e
      cases rs with | cons r rs => cases rs; cases r with | v r => cases r; exact ⟨_, call_int_str, _, i, rfl, e1, hl, fin (.v (.int _))⟩
    · cases e
  · split at e
    · rename_i hl
      cases hf; cases e
      cases rs with | cons r rs => cases rs; cases r with | v r => cases r; exact ⟨_, call_str_int, _, rfl, log_lt hl, fin (.v (.str _))⟩
    · cases e
  · cases hf
    obtain ⟨d, e1, e2⟩ := Option.bind_eq_some_iff.mp e
    cases d with
    | t kvs => cases e2
    | k kvs =>
      cases e2
      cases rs with
      | cons r rs =>
        cases rs
        obtain ⟨p, u, rfl, rd, ks, rfl, dk⟩ := dctOf_at rh r e1
        exact ⟨_, call_dictD, p, ks, rfl, rd, fun q hq => k _ _ (Ext.laid hq) (rh.laid hq) (.d (hb _ hq) upd_same ⟨ks, rfl, dk.ext (Ext.laid hq)⟩ (rh.notin hq))⟩
  · cases e
theorem starEach_len (es : List Expr) (env : PySem.Env) : True := trivial
/-- the name of a built-in -/
theorem boot_blt : ∀ {b : String} {f : Value}, bltV b = some f → bootBuiltins (sO b) = some f ∧ sO b ≠ "__name__" ∧ (sO b == ("__debug__" : Str)) = false := by
  intro b f h
  unfold bltV at h
  split at h <;> first | (cases h; exact ⟨by rfl, by decide +kernel, by decide +kernel⟩) | cases h
variable {pos p : Pos} {a : Expr} {es : List Expr} {fs : Env → Hd → Res (List TV)}
theorem se_blt (Y : Hy CX L Γ Φ X) {b : String} {f : Value} (hf : bltV b = some f) (hm : b ∈ Γ.free) (hg : Gl X (sO b)) (sa : SA X W (a :: es) fs) (he : starEach (a :: es) X.env = (false, eval a X.env) :: starEach es X.env) (hpl : (backTo pos (starEach es X.env)).any (·.1) = false) :
    SE X W (.Call (.Name (sO b) p) (a :: es) [] pos) (fun ρ h => bnd (fs ρ h) fun xs h1 => lift (bltF b xs h1) h1) := by
  intro M ρ h σ H r Q re rh e fin
  obtain ⟨h1, h2, h3⟩ := boot_blt hf
  have core : ∀ g, cAll X f = g → tCB g (fun σ H Q => RunA X (a :: es) σ H Q) σ H Q := by
    intro g eg
    subst eg
    refine sa.first re rh e fin.fx fun xs h1 e1 M1 H1 vs x1 rh1 rs re1 => ?_
    obtain ⟨z, e3, rfl⟩ := lift_ok e1
    exact bltF_ok Y hf e3 rh1 rs x1.back fun H' v ex rh' rt => fin M1 H' v (x1.trans ex) rh' rt
  have ht : (∃ id, f = .builtin id) ∨ ∃ T, f = .type T := by
    unfold bltV at hf
    split at hf <;> first | (cases hf; exact .inl ⟨_, rfl⟩) | (cases hf; exact .inr ⟨_, rfl⟩) | cases hf
  rcases ht with ⟨id, rfl⟩ | ⟨T, rfl⟩
  · exact RunE.of (pe_callB call_all hg (Y.free b hm) h1 RunA.pa h2 h3 he hpl) (core _ rfl)
  · exact RunE.of (pe_callTy call_all hg (Y.free b hm) h1 RunA.pa h2 h3 he hpl) (core _ rfl)
end
end Py


set_option Elab.async false
set_option linter.all false
set_option maxRecDepth 100000
set_option maxHeartbeats 1000000
/-! PyK: isinstance, methods of built-in types, calls of defs, making instances. -/
namespace Py
open PySem PySem.Spec L2
open PyProof.Rows hiding St
/-- no star -/
def noSt : Expr → Bool
  | .Starred _ _ => false
  | _ => true
theorem starEach_c {e : Expr} {es : List Expr} {env : PySem.Env} (h : noSt e = true) : starEach (e :: es) env = (false, eval e env) :: starEach es env := by
  cases e <;> first | rfl | (simp [noSt] at h)
theorem star_all : ∀ {es : List Expr} {env : PySem.Env} {pos : Pos}, es.all noSt = true → (backTo pos (starEach es env)).any (·.1) = false
  | [], _, _, _ => rfl
  | e :: es, env, pos, h => by
    rw [List.all_cons, Bool.and_eq_true] at h
    rw [starEach_c h.1]
    show (false || (backTo pos (starEach es env)).any (·.1)) = false
    rw [star_all h.2]
    rfl
theorem star_all' : ∀ {es : List Expr} {env : PySem.Env} {pos : Pos}, es.all noSt = true → (backTo pos (starEach es env)).all (fun x => !x.1) = true
  | [], _, _, _ => rfl
  | e :: es, env, pos, h => by
    rw [List.all_cons, Bool.and_eq_true] at h
    rw [starEach_c h.1]
    show (true && (backTo pos (starEach es env)).all (fun x => !x.1)) = true
    rw [star_all' h.2]
    rfl
section
variable {X : Cx} {CX : CXT} {L : Nat} {Γ : Tab} {Φ : Calls} {W : WX} {pos p p2 apos : Pos} {a o : Expr} {es : List Expr} {fa : Env → Hd → Res TV} {fs : Env → Hd → Res (List TV)}
/-! ### isinstance -/
def isiTs : List String := ["NoneType", "bool", "int", "str", "tuple", "list", "dict"]
theorem boot_isi : bootBuiltins (sO "isinstance") = some (.builtin "isinstance") ∧ sO "isinstance" ≠ "__name__" ∧ (sO "isinstance" == ("__debug__" : Str)) = false := ⟨by rfl, by decide +kernel, by decide +kernel⟩
/-- a built-in type's name -/
theorem boot_ty : ∀ {T : String}, T ∈ ["bool", "int", "str", "tuple", "list", "dict"] → bootBuiltins (sO T) = some (.type T) ∧ sO T ≠ "__name__" ∧ (sO T == ("__debug__" : Str)) = false := by
  intro T h
  simp only [List.mem_cons, List.not_mem_nil, or_false] at h
  rcases h with rfl | rfl | rfl | rfl | rfl | rfl <;> exact ⟨by rfl, by decide +kernel, by decide +kernel⟩
theorem se_isi (Y : Hy CX L Γ Φ X) {T : String} {cs : List String} (hT : ∀ t ∈ ["NoneType", "bool", "int", "str", "tuple", "list", "dict"], (t, T, (t == T || (t == "bool" && T == "int"))) ∈ Γ.kits) (h0 : ∀ t ∈ ["NoneType", "bool", "int", "str", "tuple", "list", "dict"], Γ.cls.contains t = false) (hn : T ≠ "NoneType")
    (hcs : ∀ c ∈ cs, c ∈ Γ.cls ∧ (c, T, T == c) ∈ Γ.kits) (hk : (T ∈ Γ.cls ∧ (sO T == ("__debug__" : Str)) = false) ∨ (Γ.cls.contains T = false ∧ T ∈ ["bool", "int", "str", "tuple", "list", "dict"] ∧ T ∈ Γ.free)) (hf : "isinstance" ∈ Γ.free) (hg : Gl X (sO "isinstance")) (hgT : Gl X (sO T)) (sa : SE X W a fa) (hs : noSt a = true) :
    SE X W (.Call (.Name (sO "isinstance") p) [a, .Name (sO T) p2] [] pos) (fun ρ h => bnd (fa ρ h) fun x h1 => lift (isiF cs [T] x h1) h1) := by
  intro M ρ h σ H r Q re rh e fin
  obtain ⟨b1, b2, b3⟩ := boot_isi
  have hst : starEach [a, .Name (sO T) p2] X.env = (false, eval a X.env) :: starEach [.Name (sO T) p2] X.env := starEach_c hs
  obtain ⟨cv, hcv, pT⟩ : ∃ cv, ClsV cv (kOf X.K Γ.cls T) ∧ PE X (.Name (sO T) p2) (tC cv) := by
    rcases hk with ⟨hk, hdb⟩ | ⟨h1, h2, h3⟩
    · obtain ⟨f, hm, _, _⟩ := Y.mkr T hk
      refine ⟨.ref (He.ga X.K (sO T)), ?_, pe_glob hgT hm rfl hdb⟩
      unfold kOf
      rw [if_pos (List.contains_iff_mem.mpr hk)]
      exact .own _
    · obtain ⟨q1, q2, q3⟩ := boot_ty h2
      refine ⟨.ty T, ?_, pe_bltn hgT (Y.free T h3) q1 rfl q2 q3⟩
      unfold kOf
      rw [h1]
      exact .ty T
  refine RunE.of (pe_callB call_isi hg (Y.free _ hf) b1 (pa_cons RunE.pe (pa_cons pT pa_nil rfl) hst) b2 b3 hst rfl) ?_
  refine sa.first re rh e fin fun x h1 e1 M1 H1 v x1 rh1 rt1 re1 fin1 => ?_
  obtain ⟨z, e3, rfl⟩ := lift_ok e1
  refine isiF_ok Y hT h0 hn hcs e3 rh1 rt1 hcv fun b eb => ?_
  subst eb
  exact fin1 M1 H1 _ (Ext.refl _ _) rh1 (.v (.bl _))
/-! ### methods of built-in types -/
def mtAll (X : Cx) (id : String) : V → List V → Hp → VK → Prop := fun x xs H Q => ∃ r, MtR X id r ∧ r x xs H Q
theorem mt_all {id : String} : MtR X id (mtAll X id) := fun pins s σ H x xs v us Q I rx rs ⟨r, hr, q⟩ => hr pins s σ H x xs v us Q I rx rs q
structure BmOk (T m id : String) : Prop where
  pa : PlainAttrs T
  slot : Slot T (sO m) id
  ty : typeOf (.builtin id) = pure (.type "method_descriptor")
theorem bm_append : BmOk "list" "append" "list.append" := ⟨PySem.F.plainAttrs_list, PySem.F.slot_list_append, PySem.F.type_list_append⟩
theorem bm_extend : BmOk "list" "extend" "list.extend" := ⟨PySem.F.plainAttrs_list, PySem.F.slot_list_extend, PySem.F.type_list_extend⟩
theorem bm_pop : BmOk "list" "pop" "list.pop" := ⟨PySem.F.plainAttrs_list, PySem.F.slot_list_pop, PySem.F.type_list_pop⟩
theorem bm_index : BmOk "list" "index" "list.index" := ⟨PySem.F.plainAttrs_list, PySem.F.slot_list_index, PySem.F.type_list_index⟩
theorem bm_join : BmOk "str" "join" "str.join" := ⟨PySem.F.plainAttrs_str, PySem.F.slot_str_join, PySem.F.type_str_join⟩
theorem bm_split : BmOk "str" "split" "str.split" := ⟨PySem.F.plainAttrs_str, PySem.F.slot_str_split, PySem.F.type_str_split⟩
theorem bm_get : BmOk "dict" "get" "dict.get" := ⟨PySem.F.plainAttrs_dict, PySem.F.slot_dict_get, PySem.F.type_dict_get⟩
theorem mt_get1 (hu : X.A.units + 1 < cLine) : MtR X "dict.get" (fun x xs H Q => ∃ a y o, x = .ref a ∧ xs = [y] ∧ DGet H a y o ∧ Q (o.getD .non) H) := by
  intro pins s σ H x xs v us Q I rx rs ⟨a, y, o, ex, exs, g, q⟩
  subst ex; subst exs
  cases rx
  obtain ⟨u, rfl, ru⟩ := vals1 rs
  exact d_get1 hu I g ru fun w' s' I' rw' => ⟨_, _, I', rw', q⟩
theorem mt_get2 (hu : X.A.units + 1 < cLine) : MtR X "dict.get" (fun x xs H Q => ∃ a y z o, x = .ref a ∧ xs = [y, z] ∧ DGet H a y o ∧ Q (o.getD z) H) := by
  intro pins s σ H x xs v us Q I rx rs ⟨a, y, z, o, ex, exs, g, q⟩
  subst ex; subst exs
  cases rx
  obtain ⟨u, u2, rfl, ru, ru2⟩ := vals2 rs
  exact d_get2 hu I g ru ru2 fun w' s' I' rw' => ⟨_, _, I', rw', q⟩
theorem isTy_tyV {x : TV} {v : V} {h : Hd} {M : List Addr} {H0 H : Hp} {T : String} (rh : RH X.K M h H) (rt : RT X.K M H0 H x v) (hT : T = "list" ∨ T = "str" ∨ T = "dict") (e : isTy x h T = true) (hl : lkd x h = false) : tyV X.K T v H := by
  have no : ∀ {A : Prop} {t : String}, (T == t) = true → (t ≠ "list" ∧ t ≠ "str" ∧ t ≠ "dict") → A := fun {A t} q hq => by
    have := eq_of_beq q
    subst this
    rcases hT with h | h | h
    · exact absurd h hq.1
    · exact absurd h hq.2.1
    · exact absurd h hq.2.2
  cases rt with
  | l h0 ha hm q => exact .inl ⟨eq_of_beq e, _, .inl (.inl ha)⟩
  | d h0 ha q hm =>
    rcases q.is with ⟨ks, rfl⟩ | ⟨ks, rfl⟩
    · exact .inr (.inr (.inl ⟨eq_of_beq e, .inl ⟨_, ha⟩⟩))
    · exact .inr (.inr (.inl ⟨eq_of_beq e, .inr ⟨_, ha⟩⟩))
  | v q =>
    cases q with
    | non => cases e
    | bl b =>
      rcases Bool.or_eq_true_iff.mp e with e | e
      · exact no e (by decide)
      · exact no e (by decide)
    | int i => exact no e (by decide)
    | str s => exact eq_of_beq e
    | tup ht r => exact no e (by decide)
    | rol hr r => exact .inl ⟨eq_of_beq e, _, hr.sq⟩
    | @obj n p hn =>
      obtain ⟨o, ho⟩ := rh.al n p hn
      have ra := rh.at ho hn
      simp only [isTy, ho] at e
      cases o with
      | lst xs =>
        obtain ⟨vs, h1, _⟩ := ra
        exact .inl ⟨eq_of_beq e, _, .inl (.inl h1)⟩
      | ins c fs => cases e
      | dct kvs lk =>
        cases lk with
        | false =>
          obtain ⟨u, h1, h2⟩ := ra
          rcases h2.is with ⟨ks, rfl⟩ | ⟨ks, rfl⟩
          · exact .inr (.inr (.inl ⟨eq_of_beq e, .inl ⟨_, h1⟩⟩))
          · exact .inr (.inr (.inl ⟨eq_of_beq e, .inr ⟨_, h1⟩⟩))
        | true => simp [lkd, ho] at hl
/-- a method's own id -/
def bmId : String → String → Option String
  | "list", "append" => some "list.append"
  | "list", "extend" => some "list.extend"
  | "list", "pop" => some "list.pop"
  | "str", "join" => some "str.join"
  | "str", "split" => some "str.split"
  | "dict", "get" => some "dict.get"
  | _, _ => none
theorem bmId_append {T id : String} (h : bmId T "append" = some id) : id = "list.append" := by
  unfold bmId at h
  split at h <;> first | (injection h with h; exact h.symm) | (rename_i q; exact absurd q (by decide)) | cases h
theorem bmId_extend {T id : String} (h : bmId T "extend" = some id) : id = "list.extend" := by
  unfold bmId at h
  split at h <;> first | (injection h with h; exact h.symm) | (rename_i q; exact absurd q (by decide)) | cases h
theorem bmId_pop {T id : String} (h : bmId T "pop" = some id) : id = "list.pop" := by
  unfold bmId at h
  split at h <;> first | (injection h with h; exact h.symm) | (rename_i q; exact absurd q (by decide)) | cases h
theorem bmId_join {T id : String} (h : bmId T "join" = some id) : id = "str.join" := by
  unfold bmId at h
  split at h <;> first | (injection h with h; exact h.symm) | (rename_i q; exact absurd q (by decide)) | cases h
theorem bmId_split {T id : String} (h : bmId T "split" = some id) : id = "str.split" := by
  unfold bmId at h
  split at h <;> first | (injection h with h; exact h.symm) | (rename_i q; exact absurd q (by decide)) | cases h
theorem bmId_get {T id : String} (h : bmId T "get" = some id) : id = "dict.get" := by
  unfold bmId at h
  split at h <;> first | (injection h with h; exact h.symm) | (rename_i q; exact absurd q (by decide)) | cases h
theorem bmId_ok : ∀ {T m id : String}, bmId T m = some id → BmOk T m id ∧ (T = "list" ∨ T = "str" ∨ T = "dict") := by
  intro T m id h
  unfold bmId at h
  split at h <;> first | (cases h; first | exact ⟨bm_append, by decide⟩ | exact ⟨bm_extend, by decide⟩ | exact ⟨bm_pop, by decide⟩ | exact ⟨bm_join, by decide⟩ | exact ⟨bm_split, by decide⟩ | exact ⟨bm_get, by decide⟩) | cases h
/-- a named list changes -/
theorem putL {K : PySem.W.Frag} {M : List Addr} {h : Hd} {H : Hp} {n : Nat} {a : Addr} {xs : List D} {vs : List V} (rh : RH K M h H) (ha : M[n]? = some a) (q : RVs K M H xs vs) :
    Ext M H M (upd H a (.lst vs)) ∧ RH K M (h.put n (.lst xs)) (upd H a (.lst vs)) := by
  have e : Ext M H M (upd H a (.lst vs)) := Ext.put rh ha
  exact ⟨e, rh.put ha ⟨vs, upd_same, q.ext e⟩⟩
theorem pro_at {K : PySem.W.Frag} {M : List Addr} {h : Hd} {H : Hp} (x : TV) {n : Nat} {a : Addr} (hn : M[n]? = some a) (rh : RH K M h H) : (pro x h).2.at_ n = h.at_ n := by
  have hlt : n < M.length := by
    by_cases hl : n < M.length
    · exact hl
    · rw [List.getElem?_eq_none (by omega)] at hn; cases hn
  have ne : n ≠ h.sz := by rw [rh.len]; omega
  cases x with
  | v d => rfl
  | l xs => simp only [pro, Hd.new, if_neg ne]
  | d kvs => simp only [pro, Hd.new, if_neg ne]
theorem methF_ok (Y : Hy CX L Γ Φ X) {T m id : String} {x z : TV} {xs : List TV} {v : V} {vs : List V} {h h' : Hd} {M1 M : List Addr} {H0 H1 H : Hp} {Q : VK} (hid : bmId T m = some id) (e : methF m x xs h = some (z, h')) (rh : RH X.K M h H) (rt : RT X.K M H0 H x v) (rs : RTs X.K M H1 H xs vs)
    (ex : Ext M1 H1 M H) (k : ∀ M' H' u, Ext M1 H1 M' H' → RH X.K M' h' H' → RT X.K M' H1 H' z u → Q u H') : mtAll X id v vs H Q := by
  have hu : X.A.units + 1 < cLine := by have := Y.u65; omega
  unfold methF at e
  split at e
  · split at e
    · rename_i n a _ ys hn
      split at e
      · rename_i hl
        cases e
        have hid' := bmId_append hid
        subst hid'
        cases rt with
        | v r =>
          cases r with
          | obj hm =>
            rename_i q
            obtain ⟨us, h1, h2⟩ := rh.at hn hm
            cases rs with
            | cons ra rs' nn =>
              cases rs'
              obtain ⟨M2, p2, x2, rh2, rv2⟩ := RTs.pros (.cons ra .nil nn) rh ex
              simp only [pros] at rh2 rv2
              cases rv2 with
              | cons rv rv' =>
                obtain ⟨y1, y2⟩ := putL rh2 (pre_get p2 hm) ((h2.pre p2).append (.cons rv .nil))
                exact ⟨_, mt_append, q, us, _, rfl, rfl, h1, by rw [← line_eq, ← h2.length]; exact hl, k M2 _ _ (x2.trans y1) y2 (.v .non)⟩
      · cases e
    · cases e
  · split at e
    · rename_i n a _ _ ys zs hn hz
      split at e
      · rename_i hl
        cases e
        have hid' := bmId_extend hid
        subst hid'
        cases rt with
        | v r =>
          cases r with
          | obj hm =>
            rename_i q
            obtain ⟨us, h1, h2⟩ := rh.at hn hm
            cases rs with
            | cons ra rs' nn =>
              cases rs'
              obtain ⟨p, ws, rfl, h3, h4⟩ := mlst_at rh ra hz
              obtain ⟨y1, y2⟩ := putL rh hm (h2.append h4)
              exact ⟨_, mt_extend, q, p, us, ws, rfl, rfl, h1, h3, by rw [← line_eq, ← h2.length, ← h4.length]; exact hl, k M _ _ (ex.trans y1) y2 (.v .non)⟩
      · cases e
    · cases e
  · split at e
    · rename_i n _ ys hn
      obtain ⟨y, ey, eq⟩ := Option.map_eq_some_iff.mp e
      cases eq
      have hid' := bmId_pop hid
      subst hid'
      cases rt with
      | v r =>
        cases r with
        | obj hm =>
          rename_i q
          obtain ⟨us, h1, h2⟩ := rh.at hn hm
          cases rs
          obtain ⟨u, g1, g2⟩ := h2.get ey
          have hd : RVs X.K M H ys.dropLast us.dropLast := by
            rw [List.dropLast_eq_take, List.dropLast_eq_take, h2.length]
            exact h2.take _
          obtain ⟨y1, y2⟩ := putL rh hm hd
          exact ⟨_, mt_pop, q, us, u, rfl, rfl, h1, by rw [← h2.length]; exact g1, k M _ _ (ex.trans y1) y2 (.v (g2.ext y1))⟩
    · cases e
  · split at e
    · rename_i ys hy
      obtain ⟨zs, e1, e2⟩ := Option.bind_eq_some_iff.mp e
      split at e2
      · rename_i hl
        cases e2
        have hid' := bmId_join hid
        subst hid'
        cases rt with
        | v r =>
          cases r
          cases rs with
          | cons ra rs' nn =>
            cases rs'
            obtain ⟨p, us, rfl, hs, q⟩ := lstOf_at rh ra hy
            have hi := strsD_at q e1
            subst hi
            exact ⟨_, mt_join, _, p, zs, rfl, rfl, .inl hs, hl, k M H _ ex rh (.v (.str _))⟩
      · cases e2
    · cases e
  · split at e
    · rename_i hl
      cases e
      have hid' := bmId_split hid
      subst hid'
      cases rt with
      | v r =>
        cases r
        cases rs with
        | cons ra rs' nn =>
          cases rs'
          cases ra with
          | v r =>
            cases r
            refine ⟨_, mt_split, _, _, rfl, rfl, hl.1, by rw [← line_eq]; exact hl.2, fun p hp => ?_⟩
            obtain ⟨y1, y2, y3⟩ := newL (H0 := H1) rh ex.back hp (strs_at (K := X.K) (M := M) (H := H) (Txt.split _ _))
            exact k M _ _ (ex.trans y1) y2 y3
    · cases e
  · obtain ⟨d, e1, e2⟩ := Option.bind_eq_some_iff.mp e
    obtain ⟨o, e3, e4⟩ := Option.map_eq_some_iff.mp e2
    cases e4
    have hid' := bmId_get hid
    subst hid'
    obtain ⟨p, u, rfl, rd, dr⟩ := dctOf_at rh rt e1
    cases rs with
    | cons ra rs' nn =>
      cases rs'
      cases ra with
      | v r =>
        obtain ⟨w, g, er⟩ := dget_at dr rd r e3
        refine ⟨_, mt_get1 hu, p, _, w, rfl, rfl, g, ?_⟩
        cases o <;> cases w <;> first | exact er.elim | skip
        · exact k M H _ ex rh (.v .non)
        · exact k M H _ ex rh (.v er)
  · obtain ⟨d, e1, e2⟩ := Option.bind_eq_some_iff.mp e
    obtain ⟨o, e3, e4⟩ := Option.map_eq_some_iff.mp e2
    cases e4
    have hid' := bmId_get hid
    subst hid'
    obtain ⟨p, u, rfl, rd, dr⟩ := dctOf_at rh rt e1
    cases rs with
    | cons ra rs' nn =>
      cases rs' with
      | cons rb rs'' nn' =>
        cases rs''
        cases ra with
        | v r =>
          cases rb with
          | v r' =>
            obtain ⟨w, g, er⟩ := dget_at dr rd r e3
            refine ⟨_, mt_get2 hu, p, _, _, w, rfl, rfl, g, ?_⟩
            cases o <;> cases w <;> first | exact er.elim | skip
            · exact k M H _ ex rh (.v r')
            · exact k M H _ ex rh (.v er)
  · cases e
theorem keysEach_nil {env : PySem.Env} {pos : Pos} : (backToKw pos (keywordEach [] env)).all (fun x => x.1.isSome) = true := rfl
theorem se_bm1 (Y : Hy CX L Γ Φ X) {T m id : String} (hid : bmId T m = some id) (so : SE X W o fa) (sa : SA X W (a :: es) fs) (hst : (a :: es).all noSt = true) (hlen : decide ((a :: es).length + 0 + 0 < 30) = true) (hb : attributeBase o (sO m) X.env (eval o X.env) = eval o X.env) (hline : (apos.endLine == pos.line) = true) :
    SE X W (.Call (.Attribute o (sO m) apos) (a :: es) [] pos) (fun ρ h => bnd (fa ρ h) fun x h1 => if isTy x h1 T = true ∧ lkd x h1 = false then bnd (fs ρ h1) fun xs h2 => (match methF m x xs h2 with
      | some (y, h3) => some (.ok y h3)
      | none => none) else none) := by
  intro M ρ h σ H r Q re rh e fin
  obtain ⟨bm, hT⟩ := bmId_ok hid
  have hs2 := hst
  rw [List.all_cons, Bool.and_eq_true] at hs2
  refine RunE.of (pe_bm bm.pa bm.slot bm.ty mt_all RunE.pe RunA.pa hb (by rw [star_all' hst, keysEach_nil]; exact hlen) hline (starEach_c hs2.1) (star_all hs2.2)) ?_
  refine so.first re rh e fin fun x h1 e1 M1 H1 v x1 rh1 rt1 re1 fin1 => ?_
  split at e1
  · rename_i hc
    refine ⟨isTy_tyV rh1 rt1 hT hc.1 hc.2, ?_⟩
    refine sa.first re1 rh1 e1 fin1.fx fun xs h2 e2 M2 H2 vs x2 rh2 rs re2 => ?_
    split at e2
    · rename_i y h3 em
      cases e2
      exact methF_ok Y hid em rh2 (rt1.ext x2) rs x2 fun M' H' u ex' rh' rt' => fin1 M' H' u ex' rh' rt'
    · cases e2
  · cases e1
theorem se_bm0 (Y : Hy CX L Γ Φ X) {T m id : String} (hid : bmId T m = some id) (so : SE X W o fa) (hb : attributeBase o (sO m) X.env (eval o X.env) = eval o X.env) (hline : (apos.endLine == pos.line) = true) :
    SE X W (.Call (.Attribute o (sO m) apos) [] [] pos) (fun ρ h => bnd (fa ρ h) fun x h1 => if isTy x h1 T = true ∧ lkd x h1 = false then bnd (some (.ok ([] : List TV) h1)) fun xs h2 => (match methF m x xs h2 with
      | some (y, h3) => some (.ok y h3)
      | none => none) else none) := by
  intro M ρ h σ H r Q re rh e fin
  obtain ⟨bm, hT⟩ := bmId_ok hid
  refine RunE.of (pe_bm0 bm.pa bm.slot bm.ty mt_all RunE.pe hb hline) ?_
  refine so.first re rh e fin fun x h1 e1 M1 H1 v x1 rh1 rt1 re1 fin1 => ?_
  split at e1
  · rename_i hc
    refine ⟨isTy_tyV rh1 rt1 hT hc.1 hc.2, ?_⟩
    simp only [bnd_ok] at e1
    split at e1
    · rename_i y h3 em
      cases e1
      exact methF_ok Y hid em rh1 rt1 .nil (Ext.refl M1 H1) fun M' H' u ex' rh' rt' => fin1 M' H' u ex' rh' rt'
    · cases e1
  · cases e1
end
end Py


set_option Elab.async false
set_option linter.all false
set_option maxRecDepth 100000
set_option maxHeartbeats 1000000
/-! PyL: calls of defs, making instances. -/
namespace Py
open PySem PySem.Spec L2
open PyProof.Rows hiding St
section
variable {X : Cx} {CX : CXT} {L : Nat} {Γ : Tab} {Φ : Calls} {W : WX} {pos p p2 apos : Pos} {a o : Expr} {es : List Expr} {fa : Env → Hd → Res TV} {fs : Env → Hd → Res (List TV)}
theorem pe_call0S {k : Nat} {f : Addr} {fd : FuncData} {ps : List Str} {sp : Sp} {x : Str} {E : St → XK} (F : FnOk X.prog X.w X.K X.mg X.base CX k f fd ps sp) (hr : Room k X.A) (hg : Gl X x) (hm : X.mg x = some (.ref f)) (hk : PySem.W.keepIn X.K (.ref f) = true) (hb : Binds X.K fd ps []) (hx : ∀ σ, PassesAt CX X σ (E σ))
    (hdb : (x == ("__debug__" : Str)) = false) : PE X (.Call (.Name x p) [] [] pos) (tCallS sp E tNil) := by
  refine ⟨fun pins s σ H Q I h => wpAny_Call_Name_kw (ld_glob I hg hm ?_ hdb)⟩
  exact PySem.W.callWith_K0 I.kIn hk (run_fnS (us := []) (vs := []) F hr hb (hx σ) I .nil h)
/-- what a call of a def does, told from behind its arguments -/
theorem sp_of {f : String} {M : List Addr} {σ : St} {H : Hp} {r : R TV} {Q : VK} {M1 : List Addr} {H1 : Hp} {xs : List TV} {vs : List V} {h1 : Hd} (e : bnd (Φ f (pros xs h1).1 (pros xs h1).2) (fun d h2 => some (.ok (.v d) h2)) = some r)
    (x1 : Ext M H M1 H1) (rh1 : RH X.K M1 h1 H1) (rs : RTs X.K M1 H H1 xs vs) (fin : Fin X.K W M σ H r Q) : spF X.K Φ f vs H1 Q (WE W σ) := by
  obtain ⟨M2, p2, x2, rh2, q2⟩ := RTs.pros rs rh1 x1
  have x12 : Ext M H M2 H1 := x2
  rcases bnd_some e with ⟨d, h2, e1, e2⟩ | ⟨cc, fs', h2, e1, e2⟩
  · cases e2
    refine ⟨M2, _, _, _, rh2, q2, e1, fun M' H' v ex rh' rv => ?_⟩
    exact fin M' H' v (x12.trans ex) rh' (.v rv)
  · subst e2
    refine ⟨M2, _, _, _, rh2, q2, e1, fun M' H' cls d ex rh' rx => ?_⟩
    exact fin M' H' cls d (x12.trans ex) rh' rx
theorem se_call (Y : Hy CX L Γ Φ X) (P : WPass CX X W) {f : String} (hf : f ∈ Γ.fns) (hd : (sO f == ("__debug__" : Str)) = false) (hg : Gl X (sO f)) (sa : SA X W (a :: es) fs) (hst : (a :: es).all noSt = true) :
    SE X W (.Call (.Name (sO f) p) (a :: es) [] pos) (fun ρ h => bnd (fs ρ h) fun xs h1 => bnd (Φ f (pros xs h1).1 (pros xs h1).2) fun d h2 => some (.ok (.v d) h2)) := by
  intro M ρ h σ H r Q re rh e fin
  obtain ⟨A, hm, hk, fd, ps, F, hb⟩ := Y.fn f hf
  have hr : Room L X.A := Y.room.mono (Nat.le_succ _)
  have hs2 := hst
  rw [List.all_cons, Bool.and_eq_true] at hs2
  refine RunE.of (pe_callS (E := WE W) F hr hg hm hk hb P RunA.pa hd (starEach_c hs2.1) (star_all hs2.2)) ?_
  refine sa.first re rh e fin.fx fun xs h1 e1 M1 H1 vs x1 rh1 rs re1 => ?_
  exact sp_of e1 x1 rh1 rs fin
theorem se_call0 (Y : Hy CX L Γ Φ X) (P : WPass CX X W) {f : String} (hf : f ∈ Γ.fns) (hd : (sO f == ("__debug__" : Str)) = false) (hg : Gl X (sO f)) :
    SE X W (.Call (.Name (sO f) p) [] [] pos) (fun ρ h => bnd (some (.ok ([] : List TV) h)) fun xs h1 => bnd (Φ f (pros xs h1).1 (pros xs h1).2) fun d h2 => some (.ok (.v d) h2)) := by
  intro M ρ h σ H r Q re rh e fin
  obtain ⟨A, hm, hk, fd, ps, F, hb⟩ := Y.fn f hf
  have hr : Room L X.A := Y.room.mono (Nat.le_succ _)
  refine RunE.of (pe_call0S (E := WE W) F hr hg hm hk hb P hd) ?_
  exact sp_of (xs := []) (h1 := h) e (Ext.refl M H) rh .nil fin
/-! ### making -/
theorem run_mkS {C f : Addr} {fd : FuncData} {ps : List Str} {sp : Sp} {k : Nat} {E : XK} {pins : List (Addr × Obj)} {σ : St} {H : Hp} {s : Shared} {Q : VK} {us : List Value} {vs : List V} (Mm : Mk X.K C f) (F : FnOk X.prog X.w X.K X.mg X.base CX k f fd ps sp) (hr : Room (k + 1) X.A) (hb : Binds X.K fd ps [])
    (hx : PassesAt CX X σ E) (I : Inv X pins σ H s) (r : Vals vs us)
    (h : ∀ x dx, H x = none → H dx = none → dx ≠ x → sp (.ref x :: vs) (upd (upd H dx (.own x)) x (.ins C dx [])) (fun v H2 => v = .non ∧ Q (.ref x) H2) E) :
    wpAny (model X.prog X.w) X.A (call (.ref C) us) (EP X pins σ Q) X.xe s := by
  obtain ⟨z, hz⟩ : ∃ z, z = s.heap.objs.size := ⟨_, rfl⟩
  have g1 : s.heap.objs.size ≤ z := Nat.le_of_eq hz.symm
  have g2 : s.heap.objs.size ≤ z + 1 := Nat.le_trans g1 (Nat.le_succ z)
  have hq := h (z + 1) z (I.hok.fresh g2) (I.hok.fresh g1) (Nat.ne_of_lt (Nat.lt_succ_self z))
  have I2 := Inv.made (C := C) I
  rw [← hz] at I2
  have r2 : Vals (V.ref (z + 1) :: vs) (Value.ref (z + 1) :: us) := .cons (show RelV (.ref (z + 1)) (.ref (z + 1)) from rfl) r
  have hl : (Value.ref (z + 1) :: us).length = ps.length := r2.length.symm.trans (F.len _ _ _ _ hq)
  have bb := hb _ (Value.ref (z + 1) :: us) I2.kIn (by rw [List.append_nil]; exact hl)
  rw [List.append_nil] at bb
  have hz2 : s.heap.objs.size + 1 = z + 1 := by rw [hz]
  refine wpAny_call (make_map (f := f) I.kIn Mm.makes Mm.init (beq_iff_eq.mp Mm.fn) ?_)
  rw [← hz]
  refine codeAny_mono (F.run _ X.stack _ _ ⟨Value.ref (z + 1) :: us, []⟩ _ _ _ E (hr.make C us []) (I2.env0.make C us []) bb r2 hq) fun rr s' hq' => ?_
  cases rr with
  | error e => exact hx pins _ _ e s' I2 hq'
  | ok fl =>
    cases fl with
    | ret u =>
      obtain ⟨v, H', I3, rv, ev, q3⟩ := I2.after hq'
      subst ev
      exact ⟨rv, ⟨V.ref (z + 1), H', I3, rfl, q3⟩⟩
    | next => exact hq'.elim
    | brk => exact hq'.elim
    | cont => exact hq'.elim
def tMakeS (C : Addr) (sp : Sp) (E : St → XK) (t : TA) : TE := fun σ H Q => t σ H fun vs H1 => ∀ x dx, H1 x = none → H1 dx = none → dx ≠ x →
  sp (.ref x :: vs) (upd (upd H1 dx (.own x)) x (.ins C dx [])) (fun v H2 => v = .non ∧ Q (.ref x) H2) (E σ)
theorem pe_mkS {C f : Addr} {fd : FuncData} {ps : List Str} {sp : Sp} {k : Nat} {x : Str} {t : TA} {E : St → XK} (Mm : Mk X.K C f) (F : FnOk X.prog X.w X.K X.mg X.base CX k f fd ps sp) (hr : Room (k + 1) X.A) (hg : Gl X x) (hm : X.mg x = some (.ref C)) (hb : Binds X.K fd ps []) (hx : ∀ σ, PassesAt CX X σ (E σ))
    (ha : PA X (a :: es) t) (hdb : (x == ("__debug__" : Str)) = false) (he : starEach (a :: es) X.env = (false, eval a X.env) :: starEach es X.env) (hpl : (backTo pos (starEach es X.env)).any (·.1) = false) :
    PE X (.Call (.Name x p) (a :: es) [] pos) (tMakeS C sp E t) := by
  refine ⟨fun pins s σ H Q I h => wpAny_Call_Name_kw (ld_glob I hg hm ?_ hdb)⟩
  refine PySem.W.callWith_K (h₀ := X.base) I.ok.mod.kin Mm.kp (thn (ha.run pos pins s σ H _ I h) fun us s1 hh => ?_) he hpl
  obtain ⟨vs, H1, I1, r, q⟩ := hh
  exact ⟨I1.kIn, run_mkS Mm F hr hb (hx σ) I1 r q⟩
theorem pe_mk0S {C f : Addr} {fd : FuncData} {ps : List Str} {sp : Sp} {k : Nat} {x : Str} {E : St → XK} (Mm : Mk X.K C f) (F : FnOk X.prog X.w X.K X.mg X.base CX k f fd ps sp) (hr : Room (k + 1) X.A) (hg : Gl X x) (hm : X.mg x = some (.ref C)) (hb : Binds X.K fd ps []) (hx : ∀ σ, PassesAt CX X σ (E σ))
    (hdb : (x == ("__debug__" : Str)) = false) : PE X (.Call (.Name x p) [] [] pos) (tMakeS C sp E tNil) := by
  refine ⟨fun pins s σ H Q I h => wpAny_Call_Name_kw (ld_glob I hg hm ?_ hdb)⟩
  exact PySem.W.callWith_K0 I.kIn Mm.kp (run_mkS (us := []) (vs := []) Mm F hr hb (hx σ) I .nil h)
/-- what making does, told from behind the arguments -/
theorem mk_of {c : String} {M : List Addr} {σ : St} {H : Hp} {r : R TV} {Q : VK} {M1 : List Addr} {H1 : Hp} {xs : List TV} {vs : List V} {h1 : Hd} (e : bnd (Φ (c ++ ".__init__") (.obj (pros xs h1).2.sz :: (pros xs h1).1) ((pros xs h1).2.new (.ins c []))) (fun d h2 => (match d with
    | .non => some (.ok (.v (.obj (pros xs h1).2.sz)) h2)
    | _ => none)) = some r) (x1 : Ext M H M1 H1) (rh1 : RH X.K M1 h1 H1) (rs : RTs X.K M1 H H1 xs vs) (fin : Fin X.K W M σ H r Q) :
    ∀ x dx, H1 x = none → H1 dx = none → dx ≠ x → spF X.K Φ (c ++ ".__init__") (.ref x :: vs) (upd (upd H1 dx (.own x)) x (.ins (He.ga X.K (sO c)) dx [])) (fun v H2 => v = .non ∧ Q (.ref x) H2) (WE W σ) := by
  intro x dx hx hdx hne
  obtain ⟨M2, p2, x2, rh2, q2⟩ := RTs.pros rs rh1 x1
  have hx' : upd H1 dx (.own x) x = none := by rw [upd_ne hne.symm]; exact hx
  have y1 : Ext M2 H1 M2 (upd H1 dx (.own x)) := Ext.laid hdx
  have rh3 : RH X.K M2 (pros xs h1).2 (upd H1 dx (.own x)) := rh2.laid hdx
  have y2 : Ext M2 (upd H1 dx (.own x)) M2 (upd (upd H1 dx (.own x)) x (.ins (He.ga X.K (sO c)) dx [])) := Ext.laid hx'
  have rh4 : RH X.K M2 (pros xs h1).2 (upd (upd H1 dx (.own x)) x (.ins (He.ga X.K (sO c)) dx [])) := rh3.laid hx'
  have y : Ext M2 H1 M2 (upd (upd H1 dx (.own x)) x (.ins (He.ga X.K (sO c)) dx [])) := y1.trans y2
  have hxM : x ∉ M2 := rh2.notin hx
  have rh5 := rh4.name (o := .ins c []) hxM ⟨dx, [], upd_same, .nil⟩
  have y3 : Ext M H (M2 ++ [x]) (upd (upd H1 dx (.own x)) x (.ins (He.ga X.K (sO c)) dx [])) := (x2.trans y).name (x2.back _ hx)
  have hg : (M2 ++ [x])[(pros xs h1).2.sz]? = some x := by rw [rh2.len]; simp
  have q3 : RVs X.K (M2 ++ [x]) (upd (upd H1 dx (.own x)) x (.ins (He.ga X.K (sO c)) dx [])) (.obj (pros xs h1).2.sz :: (pros xs h1).1) (.ref x :: vs) := .cons (.obj hg) ((q2.ext y).pre (List.prefix_append _ _))
  rcases bnd_some e with ⟨d, h2, e1, e2⟩ | ⟨cc, fs', h2, e1, e2⟩
  · split at e2
    · cases e2
      refine ⟨_, _, _, _, rh5, q3, e1, fun M' H' v ex rh' rv => ?_⟩
      cases rv
      exact ⟨rfl, fin M' H' _ (y3.trans ex) rh' (.v (.obj (pre_get ex.pre hg)))⟩
    · cases e2
  · subst e2
    refine ⟨_, _, _, _, rh5, q3, e1, fun M' H' cls d ex rh' rx => ?_⟩
    exact fin M' H' cls d (y3.trans ex) rh' rx
theorem se_mk (Y : Hy CX L Γ Φ X) (P : WPass CX X W) {c : String} (hf : c ∈ Γ.cls) (hd : (sO c == ("__debug__" : Str)) = false) (hg : Gl X (sO c)) (sa : SA X W (a :: es) fs) (hst : (a :: es).all noSt = true) :
    SE X W (.Call (.Name (sO c) p) (a :: es) [] pos) (fun ρ h => bnd (fs ρ h) fun xs h1 => bnd (Φ (c ++ ".__init__") (.obj (pros xs h1).2.sz :: (pros xs h1).1) ((pros xs h1).2.new (.ins c []))) fun d h2 => (match d with
    | .non => some (.ok (.v (.obj (pros xs h1).2.sz)) h2)
    | _ => none)) := by
  intro M ρ h σ H r Q re rh e fin
  obtain ⟨A, hm, Mm, fd, ps, F, hb⟩ := Y.mkr c hf
  have hs2 := hst
  rw [List.all_cons, Bool.and_eq_true] at hs2
  refine RunE.of (pe_mkS (E := WE W) Mm F Y.room hg hm hb P RunA.pa hd (starEach_c hs2.1) (star_all hs2.2)) ?_
  refine sa.first re rh e fin.fx fun xs h1 e1 M1 H1 vs x1 rh1 rs re1 => ?_
  exact mk_of e1 x1 rh1 rs fin
theorem se_mk0 (Y : Hy CX L Γ Φ X) (P : WPass CX X W) {c : String} (hf : c ∈ Γ.cls) (hd : (sO c == ("__debug__" : Str)) = false) (hg : Gl X (sO c)) :
    SE X W (.Call (.Name (sO c) p) [] [] pos) (fun ρ h => bnd (some (.ok ([] : List TV) h)) fun xs h1 => bnd (Φ (c ++ ".__init__") (.obj (pros xs h1).2.sz :: (pros xs h1).1) ((pros xs h1).2.new (.ins c []))) fun d h2 => (match d with
    | .non => some (.ok (.v (.obj (pros xs h1).2.sz)) h2)
    | _ => none)) := by
  intro M ρ h σ H r Q re rh e fin
  obtain ⟨A, hm, Mm, fd, ps, F, hb⟩ := Y.mkr c hf
  refine RunE.of (pe_mk0S (E := WE W) Mm F Y.room hg hm hb P hd) ?_
  exact mk_of (xs := []) (h1 := h) e (Ext.refl M H) rh .nil fin
end
end Py


set_option Elab.async false
set_option linter.all false
set_option maxRecDepth 100000
set_option maxHeartbeats 1000000
/-! PyN: enumerate over a tuple. -/
namespace Py
open PySem PySem.Spec L2 Builtin
open PyProof.Rows hiding St
open PySem.AutoSeq1 (wpAny_loadPart')
theorem enumNew1 {v : Value} {o : Obj} {HH : Heap → Prop} (B : Begins v o HH) :
    Meets (Builtin.«enumerate.__new__» ⟨[.type "enumerate", v], []⟩) (fun _ R s => HH s.heap ∧
      R (.ok (.ret (.ref (s.heap.push o).objs.size))) { s with heap := (s.heap.push o).push { cls := .type "enumerate", data := .fields #[.none, .bool false, .ref s.heap.objs.size, rawInt 0, .none, .none] } }) :=
  .of_wp fun prog w A R s h => by
    obtain ⟨hp, g, d, tk, os⟩ := s; obtain ⟨h1, h⟩ := h
    have hsub := sub_enumerate
    have goOn : ∀ {A' : Around} {E : Value → Shared → Prop} {Q : Value → Shared → Prop}, Q (.ref hp.objs.size) ⟨hp.push o, g, d, tk, os⟩ → wpAny (model prog w) A' (pyIter v) Q E ⟨hp, g, d, tk, os⟩ :=
      fun q => B.iter prog w _ _ ⟨hp, g, d, tk, os⟩ _ h1 q
    wp_walk using goOn
    refine wpAny_stack_any fun st => wpAny_pure ?_
    split
    · rename_i c _ _ _ _ _
      cases hcc : (c == Value.type "enumerate")
      · wp_walk using goOn
        exact ⟨_, rfl, h⟩
      · wp_walk using goOn
        exact ⟨_, rfl, h⟩
    · wp_walk using goOn
      exact ⟨_, rfl, h⟩
section
variable {prog : Program} {w : World} {A : Around} {E : Value → Shared → Prop} {s : Shared}
theorem enum_begins1 {v : Value} {o : Obj} {HH : Heap → Prop} {Q : Value → Shared → Prop} (B : Begins v o HH) (h1 : HH s.heap)
    (h : ∀ h', IsEnum h' (s.heap.objs.size + 1) s.heap.objs.size 0 .none → h'.get? s.heap.objs.size = some o →
      (∀ b o, s.heap.get? b = some o → h'.get? b = some o) → Q (.ref (s.heap.objs.size + 1)) { s with heap := h' }) :
    wpAny (model prog w) A (call (.type "enumerate") [v]) Q E s := by
  refine callType_new F.called_enumerate (by decide) (F.typeCall_enumerate_1 _) (F.newCall_enumerate_1 _) (fun obj => F.args_object_init_2 obj _) F.entry_enumerate_new (enumNew1 B) ⟨h1, ?_⟩
  have hz : (s.heap.push o).objs.size = s.heap.objs.size + 1 := Heap.size_push ..
  show _ ∧ _
  rw [hz]
  obtain ⟨en, hen⟩ : ∃ en : Obj, en = { cls := .type "enumerate", data := .fields #[.none, .bool false, .ref s.heap.objs.size, rawInt 0, .none, .none] } := ⟨_, rfl⟩
  have he : IsEnum ((s.heap.push o).push en) (s.heap.objs.size + 1) s.heap.objs.size 0 .none := by
    have q := Heap.get?_push_size (s.heap.push o) (o := en) (by rw [hen]; rfl)
    rw [hz] at q
    rw [hen] at q ⊢
    exact q
  rw [hen] at he
  exact ⟨⟨_, he, rfl⟩, h _ he (Heap.get?_push_of_some _ (Heap.get?_push_size _ B.free)) fun b o x => Heap.get?_push_of_some _ (Heap.get?_push_of_some _ x)⟩
end
/-- the tuple at a, each item in a new pair -/
def IteT (K : PySem.W.Frag) (a : Addr) : L2.It :=
  ⟨fun i H => ∃ (xs : List V) (x : V), SqT K H a xs ∧ xs[i]? = some x, fun i H v H' => ∃ T x, v = .ref T ∧ H T = none ∧ H' = upd H T (.tup [.int (i : Nat), x]) ∧ ∀ xs, SqT K H a xs → xs[i]? = some x, fun i H => ∃ xs : List V, SqT K H a xs ∧ xs.length = i⟩
theorem turn_enumT {P : Program} {w : World} {K : PySem.W.Frag} {elts : List Expr} {kk : Nat} {tpos : Pos} (a e it : Addr) :
    Turn P w K (.Tuple elts kk tpos) (IteT K a) [e, it] e (fun i h => (∃ old, IsEnum h e it ((i : Nat) : Int) old) ∧ h.IsTupleIter it a i ∧ e ≠ it ∧ a ≠ it ∧ a ≠ e) where
  mem := by simp
  obj := fun i h st b hb => by
    obtain ⟨⟨old, he⟩, ⟨o, ho, hc, hd⟩, _⟩ := st
    have e' : b = e ∨ b = it := by simpa using hb
    rcases e' with z | z
    · subst z; exact ⟨_, he, fun v q => nomatch q⟩
    · subst z; exact ⟨o, ho, fun v q => by rw [hd] at q; cases q⟩
  keep := fun i h h' st k => let ⟨⟨old, he⟩, hi, hne⟩ := st; ⟨⟨old, k e (by simp) _ he⟩, hi.at fun o q => k it (by simp) o q, hne⟩
  item := by
    intro X hP hw hK hc i pins s σ H E I hf st hg
    subst hP hw hK
    obtain ⟨⟨old, he⟩, hit, hne, hai, hae⟩ := st
    obtain ⟨xs, x, hq, hx⟩ := hg
    obtain ⟨its, rv, p, hz⟩ := I.tuple hq
    obtain ⟨u, hu, ru⟩ := rv.get hx
    have hel : e < s.heap.objs.size := Heap.lt_size he
    have hil : it < s.heap.objs.size := by obtain ⟨_, q, _⟩ := hit; exact Heap.lt_size q
    have hi : i < its.toArray.size := by
      have := (List.getElem?_eq_some_iff.mp hu).1
      simpa using this
    have D := Draws.tuple (prog := X.prog) (w := X.w) (A := X.A.in1) (I.ok.hd hc) it a hai its.toArray
    refine wpAny_pyNext_enum_itemC (n := its.toArray.size) (i := i) (c := (i : Int)) D he ⟨hit, p⟩ hi hne (by simp [hne, hae.symm]) fun x' h' tk hP ho hst' hT hsz hk => ?_
    have ex : x' = u := by
      have h1 : its[i]? = some x' := by simpa using hP
      rw [hu] at h1
      exact (Option.some.inj h1).symm
    subst ex
    refine ⟨_, rfl, wpAny_letOwnedTupleGo_enum ho fun h'' he' sb => ?_⟩
    have hT2 : h''.get? s.heap.objs.size = some { cls := .type "tuple", data := .seq #[.int (i : Int) tk, x'] } := (sb.2 _ (Nat.ne_of_gt hel)).trans hT
    have new : ObjOk X.prog X.w (upd H s.heap.objs.size (.tup [.int (i : Nat), x])) h'' s.heap.objs.size (.tup [.int (i : Nat), x]) :=
      ⟨by show 2 ≤ sizeLine; decide, [.int (i : Int) tk, x'], .cons ⟨_, rfl⟩ (.cons ru .nil), ⟨_, hT2, rfl, _, rfl⟩⟩
    have I1 : Inv X pins σ (upd H s.heap.objs.size (.tup [.int (i : Nat), x])) { s with heap := h'', toks := tk + 1 } :=
      I.turnedNew (ch := [e, it]) (fun b ob hb q => (sb.2 b (fun z => hb (by simp [z]))).trans (hk b ob (fun z => hb (by simp [z])) (fun z => hb (by simp [z])) q)) hf (Nat.le_refl _) new
    have e1 : ((i + 1 : Nat) : Int) = (i : Int) + 1 := by omega
    refine ⟨.ref s.heap.objs.size, _, I1, rfl, ⟨_, x, rfl, I.hok.fresh (Nat.le_refl _), rfl, fun ys hy => by rw [I.tuple_inj hy hq]; exact hx⟩, ⟨⟨x', by rw [e1]; exact he'⟩, hst'.1.at fun o q => (sb.2 it hne.symm).trans q, hne, hai, hae⟩, fun b hb => ?_⟩
    have hb' : b < s.heap.objs.size := by
      have e' : b = e ∨ b = it := by simpa using hb
      rcases e' with z | z
      · subst z; exact hel
      · subst z; exact hil
    rw [upd_ne (Nat.ne_of_lt hb')]
    exact (hf b hb).1
  done := by
    intro X hP hw hK hc i pins s σ H E I hf st hg
    subst hP hw hK
    obtain ⟨⟨old, he⟩, hit, hne, hai, hae⟩ := st
    obtain ⟨xs, hq, hx⟩ := hg
    obtain ⟨its, rv, p, hz⟩ := I.tuple hq
    obtain ⟨f0, f1, f2, f3, f4, f5⟩ := hf it (by simp)
    have hs : its.toArray.size = i := by
      have h1 := rv.length
      simp only [List.size_toArray]
      omega
    subst hs
    have D := Draws.tuple (prog := X.prog) (w := X.w) (A := X.A.in1) (I.ok.hd hc) it a hai its.toArray
    exact wpAny_pyNext_enum_endD D he ⟨hit, p⟩ fun h' eb => ⟨rfl, I.turned (t' := s.toks) (fun b o hb q => eb b o hb q) f0 f1 f3 f4 f5⟩
  self := fun A i s Q E st h => let ⟨⟨_, he⟩, _⟩ := st; wpAny_pyIter_enum he h
/-- enumerate(list) or enumerate(tuple) -/
def iEnumA (K : PySem.W.Frag) (ta : TA) : TI := fun σ H R => ta σ H fun vs H1 => ∃ a xs, vs = [.ref a] ∧ ((SqL K H1 a xs ∧ (xs.length ≤ sizeLine → R (Ite K a) H1)) ∨ (SqT K H1 a xs ∧ (xs.length ≤ sizeLine → R (IteT K a) H1)))
theorem pi_enumA {X : Cx} {e : Expr} {ta : TA} {p pos tpos : Pos} {elts : List Expr} {kk : Nat} (hg : Gl X "enumerate") (hm : X.mg "enumerate" = none) (ha : PA X [e] ta) (hs : starEach [e] X.env = [(false, eval e X.env)]) :
    PI X (.Tuple elts kk tpos) (.Call (.Name "enumerate" p) [e] [] pos) (iEnumA X.K ta) := by
  refine ⟨fun pins s σ H R I h => ?_⟩
  refine Call_ (ld_blt I hg hm boot_enumerate (PyProof.Rows.callWith_type1 (thn (ha.run pos pins s σ H _ I h) fun us s1 hh => ?_) hs rfl))
  obtain ⟨vs, H1, I1, r1, a, xs, ex, q1⟩ := hh
  subst ex
  cases r1 with
  | cons r rr =>
    cases rr
    cases r
    have new : ∀ b, b = s1.heap.objs.size + 1 ∨ b = s1.heap.objs.size → FpOk X pins H1 b := fun b e' => by
      have hle : s1.heap.objs.size ≤ b := by omega
      exact I1.fpOk hle (I1.hok.fresh hle)
    rcases q1 with ⟨hq, q⟩ | ⟨hq, q⟩
    · obtain ⟨its, rv, p', hz⟩ := I1.list hq
      refine call_enumerate_list p'.isList fun h' he hit hsz hk => wpAny_pyIter_enum he ?_
      exact ⟨s1.heap.objs.size + 1, [s1.heap.objs.size + 1, s1.heap.objs.size], _, _, H1, rfl, I1.kept (t' := s1.toks) hk, turn_enum a (s1.heap.objs.size + 1) s1.heap.objs.size, ⟨⟨.none, he⟩, hit, Nat.succ_ne_self _⟩, fun b hb => new b (by simpa using hb), q hz⟩
    · obtain ⟨its, rv, p', hz⟩ := I1.tuple hq
      have hal : a < s1.heap.objs.size := by obtain ⟨_, z, _⟩ := p'; exact Heap.lt_size z
      refine enum_begins1 (begins_tuple a its.toArray) p' fun h' he hit hk => wpAny_pyIter_enum he ?_
      exact ⟨s1.heap.objs.size + 1, [s1.heap.objs.size + 1, s1.heap.objs.size], _, _, H1, rfl, I1.kept (t' := s1.toks) hk, turn_enumT a (s1.heap.objs.size + 1) s1.heap.objs.size,
        ⟨⟨.none, he⟩, ⟨_, hit, rfl, rfl⟩, Nat.succ_ne_self _, Nat.ne_of_lt hal, Nat.ne_of_lt (Nat.lt_succ_of_lt hal)⟩, fun b hb => new b (by simpa using hb), q hz⟩
theorem walk_enumT {K : PySem.W.Frag} {a : Addr} {xs : List V} : Walk (IteT K a) xs.length (fun H => SqT K H a xs) (YPair (fun i => some (.int (i : Nat))) (fun i => xs[i]?)) := by
  refine ⟨fun i _ hi q => ⟨xs, xs[i], q, by simp [hi]⟩, fun _ q => ⟨xs, q, rfl⟩, fun i H v H' _ q y => ?_⟩
  obtain ⟨T, x, h1, h2, h3, h4⟩ := y
  exact ⟨T, .int (i : Nat), x, h1, h2, h3, rfl, h4 xs q⟩
end Py


set_option Elab.async false
set_option linter.all false
set_option maxRecDepth 100000
set_option maxHeartbeats 1000000
/-! PyN2: zip of two, each a list or a tuple. -/
namespace Py
open PySem PySem.Spec L2 Builtin
open PyProof.Rows hiding St
open RZ
/-- a tuple (true) or a list (false) -/
def SqK (K : PySem.W.Frag) : Bool → Hp → Addr → List V → Prop
  | true, H, a, xs => SqT K H a xs
  | false, H, a, xs => SqL K H a xs
def SrcK : Bool → Heap → Addr → Array Value → Prop
  | true, h, a, its => h.IsTuple a its
  | false, h, a, its => h.IsList a its
def ItrK : Bool → Heap → Addr → Addr → Nat → Prop
  | true, h, it, a, i => h.IsTupleIter it a i
  | false, h, it, a, i => h.IsListIter it a i
def obK : Bool → Addr → Obj
  | true, a => { cls := .type "tuple_iterator", data := .fields #[.ref a, .int 0 0] }
  | false, a => { cls := .type "list_iterator", data := .fields #[.ref a, .int 0 0] }
theorem drawsK {prog : Program} {w : World} {A : Around} (t : Bool) (hh : A.handled = none) (it a : Addr) (hne : a ≠ it) (items : Array Value) :
    Draws prog w A it [it, a] items.size (fun i v => items[i]? = some v) (fun i h => ItrK t h it a i ∧ SrcK t h a items) := by
  cases t
  · exact Draws.list hh it a hne items
  · exact Draws.tuple hh it a hne items
theorem beginsK (t : Bool) (a : Addr) (items : Array Value) : Begins (.ref a) (obK t a) fun h => SrcK t h a items := by
  cases t
  · exact begins_list a items
  · exact begins_tuple a items
theorem ItrK.cell {t : Bool} {h : Heap} {it a : Addr} {i : Nat} (x : ItrK t h it a i) : ∃ o, h.get? it = some o ∧ ∀ v, o.data ≠ .cell v := by
  cases t
  · obtain ⟨o, ho, _, hd⟩ := x
    exact ⟨o, ho, fun v q => by rw [hd] at q; cases q⟩
  · obtain ⟨o, ho, _, hd⟩ := x
    exact ⟨o, ho, fun v q => by rw [hd] at q; cases q⟩
theorem ItrK.at {t : Bool} {h h' : Heap} {it a : Addr} {i : Nat} (x : ItrK t h it a i) (e : ∀ o, h.get? it = some o → h'.get? it = some o) : ItrK t h' it a i := by
  cases t
  · exact Heap.IsListIter.at x e
  · exact Heap.IsTupleIter.at x e
theorem ItrK.new {t : Bool} {h : Heap} {it a : Addr} (e : h.get? it = some (obK t a)) : ItrK t h it a 0 := by
  cases t
  · exact ⟨_, e, rfl, rfl⟩
  · exact ⟨_, e, rfl, rfl⟩
theorem SrcK.lt {t : Bool} {h : Heap} {a : Addr} {its : Array Value} (x : SrcK t h a its) : a < h.objs.size := by
  cases t
  · obtain ⟨o, ho, _⟩ := x
    exact Heap.lt_size ho
  · obtain ⟨o, ho, _⟩ := x
    exact Heap.lt_size ho
section
variable {X : Cx}
theorem srcK {pins : List (Addr × Obj)} {σ : L2.St} {H : Hp} {s : Shared} {t : Bool} {a : Addr} {xs : List V} (I : Inv X pins σ H s) (q : SqK X.K t H a xs) : ∃ its, Vals xs its ∧ SrcK t s.heap a its.toArray := by
  cases t
  · obtain ⟨its, rv, p, _⟩ := I.list q
    exact ⟨its, rv, p.isList⟩
  · obtain ⟨its, rv, p, _⟩ := I.tuple q
    exact ⟨its, rv, p⟩
theorem sqK_inj {pins : List (Addr × Obj)} {σ : L2.St} {H : Hp} {s : Shared} {t : Bool} {a : Addr} {xs ys : List V} (I : Inv X pins σ H s) (q : SqK X.K t H a xs) (q' : SqK X.K t H a ys) : xs = ys := by
  cases t
  · exact I.list_inj q q'
  · exact I.tuple_inj q q'
end
/-- what lies at a and b at each turn, the items in new pairs -/
def ItzK (K : PySem.W.Frag) (t u : Bool) (a b : Addr) : L2.It :=
  ⟨fun i H => ∃ (xs ys : List V) (x y : V), SqK K t H a xs ∧ SqK K u H b ys ∧ xs[i]? = some x ∧ ys[i]? = some y,
    fun i H v H' => ∃ T x y, v = .ref T ∧ H T = none ∧ H' = upd H T (.tup [x, y]) ∧ (∀ xs, SqK K t H a xs → xs[i]? = some x) ∧ ∀ ys, SqK K u H b ys → ys[i]? = some y,
    fun i H => ∃ xs ys : List V, SqK K t H a xs ∧ SqK K u H b ys ∧ i ≤ xs.length ∧ i ≤ ys.length ∧ (i = xs.length ∨ i = ys.length)⟩
theorem zsep {z TI TO i1 i2 a b : Addr} (D : ZipApart z TI TO i1 i2 a b) : ZipSep2 z TI TO i1 i2 [i1, a] [i2, b] where
  TIz := D.TIz
  TOz := D.TOz
  TITO := D.TITO
  TIi1 := D.TIi1
  mem1 := by simp
  zf1 := by simp [D.i1z.symm, D.l1z.symm]
  Tf1 := by simp [D.TOi1, D.l1TO.symm]
  TIi2 := D.TIi2
  mem2 := by simp
  zf2 := by simp [D.i2z.symm, D.l2z.symm]
  Tf2 := by simp [D.TOi2, D.l2TO.symm]
  sep1_2 := by simp [D.i12, D.l2i1.symm]
  sep2_1 := by simp [D.i12.symm, D.l1i2.symm]
theorem turn_zipK {P : Program} {w : World} {K : PySem.W.Frag} {elts : List Expr} {kk : Nat} {tpos : Pos} {t u : Bool} {a b z TI TO i1 i2 : Addr} (D : ZipApart z TI TO i1 i2 a b) :
    Turn P w K (.Tuple elts kk tpos) (ItzK K t u a b) [z, TI, TO, i1, i2] z (fun i h => IsZip h z TI TO .none ∧ IsPair h TI (.ref i1) (.ref i2) ∧ (∃ x y, IsPair h TO x y) ∧ ItrK t h i1 a i ∧ ItrK u h i2 b i) where
  mem := by simp
  obj := fun i h st c hc => by
    obtain ⟨hz, hTI, ⟨x, y, hTO⟩, h1, h2⟩ := st
    have e' : c = z ∨ c = TI ∨ c = TO ∨ c = i1 ∨ c = i2 := by simpa using hc
    rcases e' with q | q | q | q | q
    · rw [q]; exact ⟨_, hz, fun v q => nomatch q⟩
    · rw [q]; exact ⟨_, hTI, fun v q => nomatch q⟩
    · rw [q]; exact ⟨_, hTO, fun v q => nomatch q⟩
    · rw [q]; exact h1.cell
    · rw [q]; exact h2.cell
  keep := fun i h h' st k => by
    obtain ⟨hz, hTI, ⟨x, y, hTO⟩, h1, h2⟩ := st
    exact ⟨k z (by simp) _ hz, k TI (by simp) _ hTI, ⟨x, y, k TO (by simp) _ hTO⟩, h1.at fun o q => k i1 (by simp) o q, h2.at fun o q => k i2 (by simp) o q⟩
  item := by
    intro X hP hw hK hc i pins s σ H E I hf st hg
    subst hP hw hK
    obtain ⟨hz, hTI, ⟨x0, y0, hTO⟩, h1, h2⟩ := st
    obtain ⟨xs, ys, x, y, hqx, hqy, hx, hy⟩ := hg
    obtain ⟨its, rv, p⟩ := srcK I hqx
    obtain ⟨its2, rv2, p2⟩ := srcK I hqy
    obtain ⟨v, hu, ru⟩ := rv.get hx
    obtain ⟨v2, hu2, ru2⟩ := rv2.get hy
    have hzl : z < s.heap.objs.size := Heap.lt_size hz
    have D1 := drawsK (prog := X.prog) (w := X.w) (A := X.A.in1) t (I.ok.hd hc) i1 a D.l1i1 its.toArray
    have D2 := drawsK (prog := X.prog) (w := X.w) (A := X.A.in1) u (I.ok.hd hc) i2 b D.l2i2 its2.toArray
    have l1 : i < its.toArray.size := by simpa using (List.getElem?_eq_some_iff.mp hu).1
    have l2 : i < its2.toArray.size := by simpa using (List.getElem?_eq_some_iff.mp hu2).1
    refine wpAny_pyNext_zipD2_item (zsep D) D1 D2 hz hTI hTO ⟨h1, p⟩ ⟨h2, p2⟩ l1 l2 fun x1 x2 h' tk e1 e2 z' TO' s1 s2 hT hsz hk => ?_
    have ex1 : x1 = v := by
      have h1 : its[i]? = some x1 := by simpa using e1
      rw [hu] at h1
      exact (Option.some.inj h1).symm
    have ex2 : x2 = v2 := by
      have h1 : its2[i]? = some x2 := by simpa using e2
      rw [hu2] at h1
      exact (Option.some.inj h1).symm
    subst ex1 ex2
    refine ⟨_, rfl, wpAny_letOwnedTupleGo_zip (s := { s with heap := h', toks := tk }) z' fun h'' z'' sb => ?_⟩
    have hT2 : h''.get? s.heap.objs.size = some { cls := .type "tuple", data := .seq #[x1, x2] } := (sb.2 _ (Nat.ne_of_gt hzl)).trans hT
    have new : ObjOk X.prog X.w (upd H s.heap.objs.size (.tup [x, y])) h'' s.heap.objs.size (.tup [x, y]) :=
      ⟨by show 2 ≤ sizeLine; decide, [x1, x2], .cons ru (.cons ru2 .nil), ⟨_, hT2, rfl, _, rfl⟩⟩
    have I1 : Inv X pins σ (upd H s.heap.objs.size (.tup [x, y])) { s with heap := h'', toks := tk } :=
      I.turnedNew (t' := tk) (ch := [z, TI, TO, i1, i2]) (fun c o hb q => (sb.2 c (fun q' => hb (by simp [q']))).trans (hk c o (fun q' => hb (by simp [q'])) (fun q' => hb (by simp [q'])) (fun q' => hb (by simp [q'])) (fun q' => hb (by simp [q'])) q)) hf (Nat.le_refl _) new
    refine ⟨.ref s.heap.objs.size, _, I1, rfl, ⟨_, x, y, rfl, I.hok.fresh (Nat.le_refl _), rfl, fun l hl => by rw [sqK_inj I hl hqx]; exact hx, fun l hl => by rw [sqK_inj I hl hqy]; exact hy⟩, ⟨z'', ?_, ⟨x1, x2, ?_⟩, ?_, ?_⟩, fun c hcm => ?_⟩
    · exact (sb.2 _ D.TIz).trans (hk _ _ D.TIz D.TITO D.TIi1 D.TIi2 hTI)
    · exact (sb.2 _ D.TOz).trans TO'
    · exact s1.1.at fun o q => (sb.2 _ D.i1z).trans q
    · exact s2.1.at fun o q => (sb.2 _ D.i2z).trans q
    · have hlt : c < s.heap.objs.size := by
        have e' : c = z ∨ c = TI ∨ c = TO ∨ c = i1 ∨ c = i2 := by simpa using hcm
        rcases e' with q | q | q | q | q
        · rw [q]; exact hzl
        · rw [q]; exact Heap.lt_size hTI
        · rw [q]; exact Heap.lt_size hTO
        · rw [q]; obtain ⟨_, e1, _⟩ := h1.cell; exact Heap.lt_size e1
        · rw [q]; obtain ⟨_, e2, _⟩ := h2.cell; exact Heap.lt_size e2
      rw [upd_ne (Nat.ne_of_lt hlt)]
      exact (hf c hcm).1
  done := by
    intro X hP hw hK hc i pins s σ H E I hf st hg
    subst hP hw hK
    obtain ⟨hz, hTI, ⟨x0, y0, hTO⟩, h1, h2⟩ := st
    obtain ⟨xs, ys, hqx, hqy, g1, g2, hend⟩ := hg
    obtain ⟨its, rv, p⟩ := srcK I hqx
    obtain ⟨its2, rv2, p2⟩ := srcK I hqy
    have l1 := rv.length
    have l2 := rv2.length
    have D1 := drawsK (prog := X.prog) (w := X.w) (A := X.A.in1) t (I.ok.hd hc) i1 a D.l1i1 its.toArray
    have D2 := drawsK (prog := X.prog) (w := X.w) (A := X.A.in1) u (I.ok.hd hc) i2 b D.l2i2 its2.toArray
    exact wpAny_pyNext_zipD2_end (zsep D) D1 D2 hz hTI hTO ⟨h1, p⟩ ⟨h2, p2⟩ (by simp only [List.size_toArray]; omega) (by simp only [List.size_toArray]; omega) (by simp only [List.size_toArray]; omega)
      fun h' tk hk => ⟨rfl, I.turnedL (t' := tk) (ch := [z, TI, TO, i1, i2]) (fun c o hb q =>
      hk c o (fun q' => hb (by simp [q'])) (fun q' => hb (by simp [q'])) (fun q' => hb (by simp [q'])) (fun q' => hb (by simp [q'])) q) hf⟩
  self := fun A i s Q E st h => wpAny_pyIter_zip st.1 h
def iZipK (K : PySem.W.Frag) (ta : TA) : TI := fun σ H R => ta σ H fun vs H1 => ∃ t u a b xs ys, vs = [.ref a, .ref b] ∧ SqK K t H1 a xs ∧ SqK K u H1 b ys ∧ R (ItzK K t u a b) H1
theorem pi_zipK {X : Cx} {e e2 : Expr} {ta : TA} {p pos tpos : Pos} {elts : List Expr} {kk : Nat} (hg : Gl X "zip") (hm : X.mg "zip" = none) (ha : PA X [e, e2] ta)
    (hs : starEach [e, e2] X.env = (false, eval e X.env) :: starEach [e2] X.env) (hpl : (backTo pos (starEach [e2] X.env)).any (·.1) = false) :
    PI X (.Tuple elts kk tpos) (.Call (.Name "zip" p) [e, e2] [] pos) (iZipK X.K ta) := by
  refine ⟨fun pins s σ H R I h => ?_⟩
  refine Call_ (ld_blt I hg hm PyProof.Rows.boot_zip (PyProof.Rows.callWith_type1 (thn (ha.run pos pins s σ H _ I h) fun us s1 ⟨vs, H1, I1, r1, q1⟩ => ?_) hs hpl))
  obtain ⟨t, u, a, b, xs, ys, ex, hqx, hqy, q⟩ := q1
  subst ex
  cases r1 with
  | cons r rr =>
    cases rr with
    | cons r' rr =>
      cases rr
      cases r
      cases r'
      have fresh5 : ∀ c, c ∈ [s1.heap.objs.size + 4, s1.heap.objs.size + 2, s1.heap.objs.size + 3, s1.heap.objs.size, s1.heap.objs.size + 1] → FpOk X pins H1 c := fun c hcm => by
        have hle : s1.heap.objs.size ≤ c := by
          have e' : c = s1.heap.objs.size + 4 ∨ c = s1.heap.objs.size + 2 ∨ c = s1.heap.objs.size + 3 ∨ c = s1.heap.objs.size ∨ c = s1.heap.objs.size + 1 := by simpa using hcm
          rcases e' with z | z | z | z | z <;> rw [z]
          · exact Nat.le_add_right _ _
          · exact Nat.le_add_right _ _
          · exact Nat.le_add_right _ _
          · exact Nat.le_refl _
          · exact Nat.le_add_right _ _
        exact I1.fpOk hle (I1.hok.fresh hle)
      obtain ⟨its, rv, p1⟩ := srcK I1 hqx
      obtain ⟨its2, rv2, p2⟩ := srcK I1 hqy
      refine zip_begins2 (beginsK t a its.toArray) (beginsK u b its2.toArray) p1 p2 fun h' hz hTI hTO h1 h2 hsz hk => wpAny_pyIter_zip hz ?_
      have I2 : Inv X pins σ H1 { s1 with heap := h' } := I1.kept (t' := s1.toks) hk
      exact ⟨s1.heap.objs.size + 4, [s1.heap.objs.size + 4, s1.heap.objs.size + 2, s1.heap.objs.size + 3, s1.heap.objs.size, s1.heap.objs.size + 1], _, _, H1, rfl, I2, turn_zipK (PySem.W.ktu_apart s1.heap.objs.size a b p1.lt p2.lt), ⟨hz, hTI, ⟨_, _, hTO⟩, .new h1, .new h2⟩, fresh5, q⟩
end Py


set_option Elab.async false
set_option linter.all false
set_option maxRecDepth 100000
set_option maxHeartbeats 1000000
/-! PyO: what is walked. -/
namespace Py
open PySem PySem.Spec L2
open PyProof.Rows hiding St
open RZ
/-- how an iterator walks the items of w -/
structure WkAt (K : PySem.W.Frag) (M : List Addr) (H : Hp) (w : Wk) (J : L2.It) : Prop where
  go : ∀ i M2 H2 h2, i < w.items.length → Ext M H M2 H2 → RH K M2 h2 H2 → Gd.ok w.g h2 → J.go i H2
  stop : ∀ M2 H2 h2, Ext M H M2 H2 → RH K M2 h2 H2 → Gd.ok w.g h2 → J.stop w.items.length H2
  yld : ∀ i M2 H2 h2 x H3, i < w.items.length → Ext M H M2 H2 → RH K M2 h2 H2 → Gd.ok w.g h2 → J.yld i H2 x H3 → Ext M2 H2 M2 H3 ∧ RH K M2 h2 H3 ∧ ∃ d, w.items[i]? = some d ∧ RV K M2 H3 d x
/-- what a list or a tuple holds, as long as it stays -/
theorem seq_stays {K : PySem.W.Frag} {M M2 : List Addr} {H0 H H2 : Hp} {h h2 : Hd} {x : TV} {v : V} {xs : List D} (rh : RH K M h H) (rt : RT K M H0 H x v) (e : seqOf x h = some xs) (ex : Ext M H M2 H2) (rh2 : RH K M2 h2 H2) (hg : Gd.ok (gOf x h) h2) :
    seqOf x h2 = some xs := by
  cases rt with
  | l h0 ha hm q => exact e
  | d h0 ha q hm => exact e
  | v q =>
    cases q with
    | obj hn =>
      rename_i n p
      obtain ⟨o, ho⟩ := rh.al n p hn
      have hg2 : h2.at_ n = some o := by
        have := hg (n, o) (by simp [gOf, ho])
        exact this
      simp only [seqOf, lstOf, ho] at e
      simp only [seqOf, lstOf, hg2]
      exact e
    | _ => exact e
def RunI (X : Cx) (tg iter : Expr) (σ : St) (H : Hp) (R : L2.It → Hp → Prop) : Prop := ∀ (pins : List (Addr × Obj)) (s : Shared), Inv X pins σ H s →
    wpAny (model X.prog X.w) X.A (eval iter X.env) (fun v s1 => wpAny (model X.prog X.w) X.A (pyIter v) (PIE X pins σ tg R) X.xe s1) X.xe s
theorem RunI.pi {X : Cx} {tg iter : Expr} : PI X tg iter (fun σ H R => RunI X tg iter σ H R) := ⟨fun pins s σ H R I h => h pins s I⟩
theorem RunI.of {X : Cx} {tg iter : Expr} {t : TI} (h : PI X tg iter t) {σ : St} {H : Hp} {R : L2.It → Hp → Prop} (q : t σ H R) : RunI X tg iter σ H R := fun pins s I => h.run pins s σ H R I q
def FinI (K : PySem.W.Frag) (W : WX) (M : List Addr) (σ : St) (H : Hp) (r : R Wk) (Q : L2.It → Hp → Prop) : Prop := match r with
  | .ok w h' => ∀ M' H' J, Ext M H M' H' → RH K M' h' H' → WkAt K M' H' w J → w.items.length ≤ sizeLine → Q J H'
  | .ex c fs h' => ∀ M' H' cls d, Ext M H M' H' → RH K M' h' H' → RX K M' H' c fs cls d → W cls d σ H'
theorem FinI.mono {K : PySem.W.Frag} {W : WX} {M M1 : List Addr} {σ : St} {H H1 : Hp} {r : R Wk} {Q : L2.It → Hp → Prop} (e : Ext M H M1 H1) (f : FinI K W M σ H r Q) : FinI K W M1 σ H1 r Q := by
  cases r with
  | ok x h' => exact fun M' H' J e' rh wk hl => f M' H' J (e.trans e') rh wk hl
  | ex c fs h' => exact fun M' H' cls d e' rh rx => f M' H' cls d (e.trans e') rh rx
theorem FinI.fx {K : PySem.W.Frag} {W : WX} {M : List Addr} {σ : St} {H : Hp} {r : R Wk} {Q : L2.It → Hp → Prop} (f : FinI K W M σ H r Q) : ∀ c fs h', r = .ex c fs h' → ∀ M' H' cls d, Ext M H M' H' → RH K M' h' H' → RX K M' H' c fs cls d → W cls d σ H' := by
  intro c fs h' e
  subst e
  exact f
def SI (X : Cx) (W : WX) (tg iter : Expr) (f : Env → Hd → Res Wk) : Prop := ∀ (M : List Addr) (ρ : Env) (h : Hd) (σ : St) (H : Hp) (r : R Wk) (Q : L2.It → Hp → Prop),
  RE X.K M H ρ σ → RH X.K M h H → f ρ h = some r → FinI X.K W M σ H r Q → RunI X tg iter σ H Q
section
variable {X : Cx} {CX : CXT} {L : Nat} {Γ : Tab} {Φ : Calls} {W : WX} {pos p tpos : Pos} {a b o tg : Expr} {es elts : List Expr} {kk : Nat} {fa fb : Env → Hd → Res TV} {fs : Env → Hd → Res (List TV)}
/-! ### a list, a tuple, a text -/
def iSeqA (K : PySem.W.Frag) (te : TE) : TI := fun σ H R => te σ H fun x H1 => (∃ a xs, x = .ref a ∧ SqL K H1 a xs ∧ (xs.length ≤ sizeLine → R (Itl K a) H1)) ∨ (∃ a xs, x = .ref a ∧ SqT K H1 a xs ∧ (xs.length ≤ sizeLine → R (Itt K a) H1)) ∨ ∃ z, x = .str z ∧ R (Its z) H1
theorem pi_seqA {e : Expr} {te : TE} (he : PE X e te) : PI X tg e (iSeqA X.K te) := by
  refine ⟨fun pins s σ H R I h => ?_⟩
  refine thn (he.run pins s σ H _ I h) fun v s1 hh => ?_
  obtain ⟨x, H1, I1, r1, q1⟩ := hh
  rcases q1 with ⟨a, xs, rfl, hq, q⟩ | ⟨a, xs, rfl, hq, q⟩ | ⟨z, rfl, q⟩
  · cases r1
    obtain ⟨its, rv, p, hz⟩ := I1.list hq
    exact wpAny_pyIter_list p.isList (pi_one (tk := s1.toks) I1 _ (turn_list a _) ⟨_, Heap.get?_push_size _ rfl, rfl, rfl⟩ (q hz))
  · cases r1
    obtain ⟨its, rv, p, hz⟩ := I1.tuple hq
    exact wpAny_pyIter_tuple (show s1.heap.IsTuple a its.toArray from p) (pi_one (tk := s1.toks) I1 _ (turn_tuple a _) ⟨_, Heap.get?_push_size _ rfl, rfl, rfl⟩ (q hz))
  · obtain ⟨t, rfl⟩ := r1
    cases ha : z.cps.all (· < 128)
    · exact wpAny_pyIter_wide ha (pi_one (tk := s1.toks) I1 _ (turn_str _ z t "str_iterator" (.inr rfl)) ⟨_, Heap.get?_push_size _ rfl, rfl, rfl⟩ q)
    · exact wpAny_pyIter_ascii ha (pi_one (tk := s1.toks) I1 _ (turn_str _ z t "str_ascii_iterator" (.inl rfl)) ⟨_, Heap.get?_push_size _ rfl, rfl, rfl⟩ q)
theorem seqOf_cases {K : PySem.W.Frag} {M : List Addr} {H0 H : Hp} {h : Hd} {x : TV} {v : V} {xs : List D} (rh : RH K M h H) (rt : RT K M H0 H x v) (e : seqOf x h = some xs) :
    (∃ a vs, v = .ref a ∧ SqL K H a vs ∧ RVs K M H xs vs ∧ lstOf x h = some xs) ∨ (∃ a vs, v = .ref a ∧ SqT K H a vs ∧ RVs K M H xs vs ∧ x = .v (.tup xs)) := by
  unfold seqOf at e
  split at e
  · cases e
    obtain ⟨a, vs, h1, h2, h3⟩ := tup_at rt
    exact .inr ⟨a, vs, h1, h2, h3, rfl⟩
  · obtain ⟨a, vs, h1, h2, h3⟩ := lstOf_at rh rt e
    exact .inl ⟨a, vs, h1, h2, h3, e⟩
/-- the list at a, later -/
theorem sqL_later {K : PySem.W.Frag} {M M2 : List Addr} {H0 H H2 : Hp} {h h2 : Hd} {x : TV} {a : Addr} {xs : List D} (rh : RH K M h H) (rt : RT K M H0 H x (.ref a)) (e : lstOf x h = some xs) (ex : Ext M H M2 H2) (rh2 : RH K M2 h2 H2) (hg : Gd.ok (gOf x h) h2) :
    ∃ vs, SqL K H2 a vs ∧ RVs K M2 H2 xs vs := by
  have hnt : ∀ ys, x ≠ .v (.tup ys) := by
    intro ys q
    subst q
    simp [lstOf] at e
  have es : seqOf x h = some xs := by
    unfold seqOf
    split
    · exact absurd rfl (hnt _)
    · exact e
  have e2 := seq_stays rh rt es ex rh2 hg
  have e3 : lstOf x h2 = some xs := by
    unfold seqOf at e2
    split at e2
    · exact absurd rfl (hnt _)
    · exact e2
  obtain ⟨a', vs, q1, q2, q3⟩ := lstOf_at rh2 (rt.ext ex) e3
  cases q1
  exact ⟨vs, q2, q3⟩
theorem sqT_later {K : PySem.W.Frag} {M M2 : List Addr} {H0 H H2 : Hp} {x : TV} {a : Addr} {xs : List D} (rt : RT K M H0 H (.v (.tup xs)) (.ref a)) (ex : Ext M H M2 H2) : ∃ vs, SqT K H2 a vs ∧ RVs K M2 H2 xs vs := by
  obtain ⟨a', vs, q1, q2, q3⟩ := tup_at (rt.ext ex)
  cases q1
  exact ⟨vs, q2, q3⟩
theorem wk_list {K : PySem.W.Frag} {M : List Addr} {H0 H : Hp} {h : Hd} {x : TV} {a : Addr} {xs : List D} (rh : RH K M h H) (rt : RT K M H0 H x (.ref a)) (e : lstOf x h = some xs) : WkAt K M H ⟨xs, gOf x h⟩ (Itl K a) := by
  refine ⟨fun i M2 H2 h2 hi ex rh2 hg => ?_, fun M2 H2 h2 ex rh2 hg => ?_, fun i M2 H2 h2 y H3 hi ex rh2 hg hy => ?_⟩
  · obtain ⟨vs, q1, q2⟩ := sqL_later rh rt e ex rh2 hg
    have hi' : i < vs.length := by rw [← q2.length]; exact hi
    exact ⟨vs, vs[i], q1, by simp [hi']⟩
  · obtain ⟨vs, q1, q2⟩ := sqL_later rh rt e ex rh2 hg
    exact ⟨vs, q1, by rw [← q2.length]; exact Nat.le_refl _⟩
  · obtain ⟨vs, q1, q2⟩ := sqL_later rh rt e ex rh2 hg
    obtain ⟨rfl, hy⟩ := hy
    have := hy vs q1
    obtain ⟨d, z1, z2⟩ := q2.get' this
    exact ⟨Ext.refl _ _, rh2, d, z1, z2⟩
theorem wk_tup {K : PySem.W.Frag} {M : List Addr} {H0 H : Hp} {h : Hd} {a : Addr} {xs : List D} (rt : RT K M H0 H (.v (.tup xs)) (.ref a)) : WkAt K M H ⟨xs, gOf (.v (.tup xs)) h⟩ (Itt K a) := by
  refine ⟨fun i M2 H2 h2 hi ex rh2 hg => ?_, fun M2 H2 h2 ex rh2 hg => ?_, fun i M2 H2 h2 y H3 hi ex rh2 hg hy => ?_⟩
  · obtain ⟨vs, q1, q2⟩ := sqT_later (x := .v (.tup xs)) rt ex
    have hi' : i < vs.length := by rw [← q2.length]; exact hi
    exact ⟨vs, vs[i], q1, by simp [hi']⟩
  · obtain ⟨vs, q1, q2⟩ := sqT_later (x := .v (.tup xs)) rt ex
    exact ⟨vs, q1, by rw [← q2.length]; exact Nat.le_refl _⟩
  · obtain ⟨vs, q1, q2⟩ := sqT_later (x := .v (.tup xs)) rt ex
    obtain ⟨rfl, hy⟩ := hy
    have := hy vs q1
    obtain ⟨d, z1, z2⟩ := q2.get' this
    exact ⟨Ext.refl _ _, rh2, d, z1, z2⟩
theorem wk_str {K : PySem.W.Frag} {M : List Addr} {H : Hp} {z : Str} : WkAt K M H ⟨z.cps.toList.map fun c => .str ⟨#[c]⟩, []⟩ (Its z) := by
  have hl : (z.cps.toList.map fun c => D.str ⟨#[c]⟩).length = z.cps.size := by simp
  refine ⟨fun i M2 H2 h2 hi ex rh2 hg => ?_, fun M2 H2 h2 ex rh2 hg => ?_, fun i M2 H2 h2 y H3 hi ex rh2 hg hy => ?_⟩
  · exact Nat.lt_of_lt_of_le hi (Nat.le_of_eq hl)
  · exact Nat.le_of_eq hl.symm
  · obtain ⟨rfl, c, hc, rfl⟩ := hy
    exact ⟨Ext.refl _ _, rh2, .str ⟨#[c]⟩, by simp [hc], .str _⟩
theorem si_seq (sa : SE X W a fa) : SI X W tg a (fun ρ h => bnd (fa ρ h) fun x h1 => lift (walkSeq x h1) h1) := by
  intro M ρ h σ H r Q re rh e fin
  refine RunI.of (pi_seqA RunE.pe) ?_
  refine sa.firstG re rh e fin.fx fun x h1 e1 M1 H1 v x1 rh1 rt1 re1 => ?_
  obtain ⟨w, e3, rfl⟩ := lift_ok e1
  unfold walkSeq at e3
  split at e3
  · split at e3
    · rename_i hl
      cases e3
      cases rt1 with
      | v q => cases q; exact .inr (.inr ⟨_, rfl, fin M1 H1 _ x1 rh1 wk_str (by rw [← line_eq]; simpa [Str.length] using hl)⟩)
    · cases e3
  · obtain ⟨xs, e4, rfl⟩ := Option.map_eq_some_iff.mp e3
    rcases seqOf_cases rh1 rt1 e4 with ⟨A, vs, rfl, h1, h2, h3⟩ | ⟨A, vs, rfl, h1, h2, rfl⟩
    · exact .inl ⟨A, vs, rfl, h1, fun hl => fin M1 H1 _ x1 rh1 (wk_list rh1 rt1 h3) (by show xs.length ≤ _; rw [h2.length]; exact hl)⟩
    · exact .inr (.inl ⟨A, vs, rfl, h1, fun hl => fin M1 H1 _ x1 rh1 (wk_tup rt1) (by show xs.length ≤ _; rw [h2.length]; exact hl)⟩)
/-! ### ranges -/
theorem wk_rng {K : PySem.W.Frag} {M : List Addr} {H : Hp} {lo : Int} {n : Nat} : WkAt K M H ⟨rngL lo n, []⟩ (Itr lo n) := by
  have hl : (rngL lo n).length = n := by simp [rngL]
  refine ⟨fun i M2 H2 h2 hi ex rh2 hg => ?_, fun M2 H2 h2 ex rh2 hg => ?_, fun i M2 H2 h2 y H3 hi ex rh2 hg hy => ?_⟩
  · exact Nat.lt_of_lt_of_le hi (Nat.le_of_eq hl)
  · exact Nat.le_of_eq hl.symm
  · obtain ⟨rfl, rfl⟩ := hy
    have hi' : i < n := Nat.lt_of_lt_of_le hi (Nat.le_of_eq hl)
    exact ⟨Ext.refl _ _, rh2, .int (lo + i), by simp [rngL, hi'], .int _⟩
theorem wk_rngC {K : PySem.W.Frag} {M : List Addr} {H : Hp} {lo c : Int} {n : Nat} : WkAt K M H ⟨(List.range n).map fun (k : Nat) => .int (lo + (k : Int) * c), []⟩ (Itc lo c n) := by
  have hl : ((List.range n).map fun (k : Nat) => D.int (lo + (k : Int) * c)).length = n := by simp
  refine ⟨fun i M2 H2 h2 hi ex rh2 hg => ?_, fun M2 H2 h2 ex rh2 hg => ?_, fun i M2 H2 h2 y H3 hi ex rh2 hg hy => ?_⟩
  · exact Nat.lt_of_lt_of_le hi (Nat.le_of_eq hl)
  · exact Nat.le_of_eq hl.symm
  · obtain ⟨rfl, rfl⟩ := hy
    have hi' : i < n := Nat.lt_of_lt_of_le hi (Nat.le_of_eq hl)
    exact ⟨Ext.refl _ _, rh2, .int (lo + (i : Nat) * c), by simp [hi'], .int _⟩
theorem line_val : (LINE : Int) = 16777216 := rfl
theorem si_rng1 (Y : Hy CX L Γ Φ X) (hf : "range" ∈ Γ.free) (hg : Gl X (sO "range")) (sa : SA X W [a] fs) (hn : ∀ ρ h xs h', fs ρ h = some (.ok xs h') → xs.length = 1) (hst : noSt a = true) : SI X W tg (.Call (.Name (sO "range") p) [a] [] pos) (fun ρ h => bnd (fs ρ h) fun xs h1 => lift ((walkRng xs).map fun l => ⟨l, []⟩) h1) := by
  intro M ρ h σ H r Q re rh e fin
  refine RunI.of (pi_range1 hg (Y.free _ hf) RunA.pa (starEach_c hst)) ?_
  have hl : ∀ xs h1, fs ρ h = some (.ok xs h1) → xs.length = 1 := fun xs h1 q => hn ρ h xs h1 q
  rcases bnd_some e with ⟨xs, h1, e1, e2⟩ | ⟨cc, fs', h1, e1, e2⟩
  · obtain ⟨w, e3, rfl⟩ := lift_ok e2
    obtain ⟨l, e4, rfl⟩ := Option.map_eq_some_iff.mp e3
    refine sa M ρ h σ H _ _ re rh e1 fun M1 H1 vs x1 rh1 rs => ?_
    have h1' := hl _ _ e1
    unfold walkRng at e4
    split at e4
    · split at e4
      · rename_i hc
        cases e4
        cases rs with | cons r rs => cases rs; cases r with | v r => cases r; exact ⟨_, rfl, by have := line_val; omega, by have := line_val; omega, fin M1 H1 _ x1 rh1 wk_rng (by rw [← line_eq]; simp [rngL]; have := line_val; omega)⟩
      · cases e4
    · simp at h1'
    · simp at h1'
    · cases e4
  · subst e2
    exact sa M ρ h σ H _ _ re rh e1 (by exact fin)
theorem si_rng2 (Y : Hy CX L Γ Φ X) (hf : "range" ∈ Γ.free) (hg : Gl X (sO "range")) (sa : SA X W [a, b] fs) (hn : ∀ ρ h xs h', fs ρ h = some (.ok xs h') → xs.length = 2) (hst : noSt a = true) (hst2 : noSt b = true) : SI X W tg (.Call (.Name (sO "range") p) [a, b] [] pos) (fun ρ h => bnd (fs ρ h) fun xs h1 => lift ((walkRng xs).map fun l => ⟨l, []⟩) h1) := by
  intro M ρ h σ H r Q re rh e fin
  refine RunI.of (pi_range2 hg (Y.free _ hf) RunA.pa (by rw [starEach_c hst, starEach_c hst2]; rfl) (starEach_c hst2)) ?_
  have hl : ∀ xs h1, fs ρ h = some (.ok xs h1) → xs.length = 2 := fun xs h1 q => hn ρ h xs h1 q
  rcases bnd_some e with ⟨xs, h1, e1, e2⟩ | ⟨cc, fs', h1, e1, e2⟩
  · obtain ⟨w, e3, rfl⟩ := lift_ok e2
    obtain ⟨l, e4, rfl⟩ := Option.map_eq_some_iff.mp e3
    refine sa M ρ h σ H _ _ re rh e1 fun M1 H1 vs x1 rh1 rs => ?_
    have h1' := hl _ _ e1
    unfold walkRng at e4
    split at e4
    · simp at h1'
    · split at e4
      · rename_i hc
        cases e4
        cases rs with | cons r rs => cases r with | v r => cases r; cases rs with | cons r rs => cases rs; cases r with | v r => cases r; exact ⟨_, _, rfl, by have := line_val; omega, fin M1 H1 _ x1 rh1 wk_rng (by rw [← line_eq]; simp [rngL]; have := line_val; omega)⟩
      · cases e4
    · simp at h1'
    · cases e4
  · subst e2
    exact sa M ρ h σ H _ _ re rh e1 (by exact fin)
theorem si_rng3 {c : Expr} (Y : Hy CX L Γ Φ X) (hf : "range" ∈ Γ.free) (hg : Gl X (sO "range")) (sa : SA X W [a, b, c] fs) (hn : ∀ ρ h xs h', fs ρ h = some (.ok xs h') → xs.length = 3) (hst : [a, b, c].all noSt = true) : SI X W tg (.Call (.Name (sO "range") p) [a, b, c] [] pos) (fun ρ h => bnd (fs ρ h) fun xs h1 => lift ((walkRng xs).map fun l => ⟨l, []⟩) h1) := by
  intro M ρ h σ H r Q re rh e fin
  have hs2 := hst
  rw [List.all_cons, Bool.and_eq_true] at hs2
  refine RunI.of (pi_range3 hg (Y.free _ hf) RunA.pa (starEach_c hs2.1) (star_all hs2.2)) ?_
  have hl : ∀ xs h1, fs ρ h = some (.ok xs h1) → xs.length = 3 := fun xs h1 q => hn ρ h xs h1 q
  rcases bnd_some e with ⟨xs, h1, e1, e2⟩ | ⟨cc, fs', h1, e1, e2⟩
  · obtain ⟨w, e3, rfl⟩ := lift_ok e2
    obtain ⟨l, e4, rfl⟩ := Option.map_eq_some_iff.mp e3
    refine sa M ρ h σ H _ _ re rh e1 fun M1 H1 vs x1 rh1 rs => ?_
    have h1' := hl _ _ e1
    unfold walkRng at e4
    split at e4
    · simp at h1'
    · simp at h1'
    · split at e4
      · rename_i hc
        cases e4
        cases rs with
        | cons r rs =>
          cases r with
          | v r =>
            cases r
            cases rs with
            | cons r rs =>
              cases r with
              | v r =>
                cases r
                cases rs with
                | cons r rs =>
                  cases rs
                  cases r with
                  | v r =>
                    cases r
                    exact ⟨_, _, _, _, rfl, ⟨hc.1.1, hc.1.2.1, hc.1.2.2, (Int.toNat_of_nonneg hc.2.1).symm⟩, fin M1 H1 _ x1 rh1 wk_rngC (by rw [← line_eq]; simp; have := line_val; omega)⟩
      · cases e4
    · cases e4
  · subst e2
    exact sa M ρ h σ H _ _ re rh e1 (by exact fin)
/-! ### pairs -/
theorem pair_new {K : PySem.W.Frag} {M : List Addr} {H : Hp} {h : Hd} {T : Addr} {x y : V} {d e : D} (rh : RH K M h H) (hT : H T = none) (rx : RV K M H d x) (ry : RV K M H e y) :
    Ext M H M (upd H T (.tup [x, y])) ∧ RH K M h (upd H T (.tup [x, y])) ∧ RV K M (upd H T (.tup [x, y])) (.tup [d, e]) (.ref T) :=
  ⟨Ext.laid hT, rh.laid hT, .tup upd_same (.cons (rx.ext (Ext.laid hT)) (.cons (ry.ext (Ext.laid hT)) .nil))⟩
theorem enumL_get {xs : List D} {i : Nat} {d : D} (h : xs[i]? = some d) : (enumL xs)[i]? = some (.tup [.int (i : Int), d]) := by
  have hi := (List.getElem?_eq_some_iff.mp h).1
  unfold enumL
  rw [List.getElem?_map, List.getElem?_range hi]
  simp [h]
theorem enumL_len (xs : List D) : (enumL xs).length = xs.length := by simp [enumL]
theorem wk_enum {K : PySem.W.Frag} {M : List Addr} {H0 H : Hp} {h : Hd} {x : TV} {a : Addr} {xs : List D} (rh : RH K M h H) (rt : RT K M H0 H x (.ref a)) (e : lstOf x h = some xs) : WkAt K M H ⟨enumL xs, gOf x h⟩ (Ite K a) := by
  refine ⟨fun i M2 H2 h2 hi ex rh2 hg => ?_, fun M2 H2 h2 ex rh2 hg => ?_, fun i M2 H2 h2 y H3 hi ex rh2 hg hy => ?_⟩
  · obtain ⟨vs, q1, q2⟩ := sqL_later rh rt e ex rh2 hg
    have hi' : i < vs.length := by rw [← q2.length, ← enumL_len]; exact hi
    exact ⟨vs, vs[i], q1, by simp [hi']⟩
  · obtain ⟨vs, q1, q2⟩ := sqL_later rh rt e ex rh2 hg
    exact ⟨vs, q1, by rw [← q2.length, ← enumL_len]; exact Nat.le_refl _⟩
  · obtain ⟨vs, q1, q2⟩ := sqL_later rh rt e ex rh2 hg
    obtain ⟨T, x', rfl, hT, rfl, hy⟩ := hy
    obtain ⟨d, z1, z2⟩ := q2.get' (hy vs q1)
    obtain ⟨w1, w2, w3⟩ := pair_new rh2 hT (.int (i : Int)) z2
    exact ⟨w1, w2, _, enumL_get z1, w3⟩
theorem wk_enumT {K : PySem.W.Frag} {M : List Addr} {H0 H : Hp} {h : Hd} {a : Addr} {xs : List D} (rt : RT K M H0 H (.v (.tup xs)) (.ref a)) : WkAt K M H ⟨enumL xs, gOf (.v (.tup xs)) h⟩ (IteT K a) := by
  refine ⟨fun i M2 H2 h2 hi ex rh2 hg => ?_, fun M2 H2 h2 ex rh2 hg => ?_, fun i M2 H2 h2 y H3 hi ex rh2 hg hy => ?_⟩
  · obtain ⟨vs, q1, q2⟩ := sqT_later (x := .v (.tup xs)) rt ex
    have hi' : i < vs.length := by rw [← q2.length, ← enumL_len]; exact hi
    exact ⟨vs, vs[i], q1, by simp [hi']⟩
  · obtain ⟨vs, q1, q2⟩ := sqT_later (x := .v (.tup xs)) rt ex
    exact ⟨vs, q1, by rw [← q2.length, ← enumL_len]⟩
  · obtain ⟨vs, q1, q2⟩ := sqT_later (x := .v (.tup xs)) rt ex
    obtain ⟨T, x', rfl, hT, rfl, hy⟩ := hy
    obtain ⟨d, z1, z2⟩ := q2.get' (hy vs q1)
    obtain ⟨w1, w2, w3⟩ := pair_new rh2 hT (.int (i : Int)) z2
    exact ⟨w1, w2, _, enumL_get z1, w3⟩
theorem si_enum (Y : Hy CX L Γ Φ X) (hf : "enumerate" ∈ Γ.free) (hg : Gl X (sO "enumerate")) (sa : SE X W a fa) (hst : noSt a = true) : SI X W (.Tuple elts kk tpos) (.Call (.Name (sO "enumerate") p) [a] [] pos) (fun ρ h => bnd (fa ρ h) fun x h1 => lift ((seqOf x h1).map fun xs => ⟨enumL xs, gOf x h1⟩) h1) := by
  intro M ρ h σ H r Q re rh e fin
  refine RunI.of (pi_enumA hg (Y.free _ hf) (pa_cons RunE.pe pa_nil (starEach_c hst)) (starEach_c hst)) ?_
  refine sa.firstG re rh e fin.fx fun x h1 e1 M1 H1 v x1 rh1 rt1 re1 => ?_
  obtain ⟨w, e3, rfl⟩ := lift_ok e1
  obtain ⟨xs, e4, rfl⟩ := Option.map_eq_some_iff.mp e3
  rcases seqOf_cases rh1 rt1 e4 with ⟨A, vs, rfl, h1, h2, h3⟩ | ⟨A, vs, rfl, h1, h2, rfl⟩
  · exact ⟨A, vs, rfl, .inl ⟨h1, fun hl => fin M1 H1 _ x1 rh1 (wk_enum rh1 rt1 h3) (by rw [enumL_len, h2.length]; exact hl)⟩⟩
  · exact ⟨A, vs, rfl, .inr ⟨h1, fun hl => fin M1 H1 _ x1 rh1 (wk_enumT rt1) (by rw [enumL_len, h2.length]; exact hl)⟩⟩
theorem zipL_get {xs ys : List D} {i : Nat} {d e : D} (h : xs[i]? = some d) (h' : ys[i]? = some e) : (zipL xs ys)[i]? = some (.tup [d, e]) := by
  unfold zipL
  rw [List.getElem?_map, List.getElem?_zip_eq_some (z := (d, e)) |>.mpr ⟨h, h'⟩]
  rfl
theorem zipL_len (xs ys : List D) : (zipL xs ys).length = min xs.length ys.length := by simp [zipL]
theorem gd_app {g g' : Gd} {h : Hd} (q : Gd.ok (g ++ g') h) : Gd.ok g h ∧ Gd.ok g' h := ⟨fun p hp => q p (List.mem_append_left _ hp), fun p hp => q p (List.mem_append_right _ hp)⟩
theorem wk_zipT {K : PySem.W.Frag} {M : List Addr} {H0 H1 H : Hp} {h : Hd} {a b : Addr} {xs ys : List D} (rt : RT K M H0 H (.v (.tup xs)) (.ref a)) (rt' : RT K M H1 H (.v (.tup ys)) (.ref b)) (g : Gd) : WkAt K M H ⟨zipL xs ys, g⟩ (ItzT K a b) := by
  refine ⟨fun i M2 H2 h2 hi ex rh2 hg => ?_, fun M2 H2 h2 ex rh2 hg => ?_, fun i M2 H2 h2 z H3 hi ex rh2 hg hy => ?_⟩
  · obtain ⟨vs, q1, q2⟩ := sqT_later (x := .v (.tup xs)) rt ex
    obtain ⟨us, q3, q4⟩ := sqT_later (x := .v (.tup ys)) rt' ex
    have hi2 : i < (zipL xs ys).length := hi
    rw [zipL_len, q2.length, q4.length] at hi2
    have h1 : i < vs.length := by omega
    have h2' : i < us.length := by omega
    exact ⟨vs, us, vs[i], us[i], q1, q3, by simp [h1], by simp [h2']⟩
  · obtain ⟨vs, q1, q2⟩ := sqT_later (x := .v (.tup xs)) rt ex
    obtain ⟨us, q3, q4⟩ := sqT_later (x := .v (.tup ys)) rt' ex
    refine ⟨vs, us, q1, q3, ?_⟩
    show vs.length ≤ (zipL xs ys).length ∨ us.length ≤ (zipL xs ys).length
    rw [zipL_len, q2.length, q4.length]
    omega
  · obtain ⟨vs, q1, q2⟩ := sqT_later (x := .v (.tup xs)) rt ex
    obtain ⟨us, q3, q4⟩ := sqT_later (x := .v (.tup ys)) rt' ex
    obtain ⟨T, x', y', rfl, hT, rfl, hy, hy'⟩ := hy
    obtain ⟨d, z1, z2⟩ := q2.get' (hy vs q1)
    obtain ⟨d', z3, z4⟩ := q4.get' (hy' us q3)
    obtain ⟨w1, w2, w3⟩ := pair_new rh2 hT z2 z4
    exact ⟨w1, w2, _, zipL_get z1 z3, w3⟩
theorem seqK {K : PySem.W.Frag} {M : List Addr} {H0 H : Hp} {h : Hd} {x : TV} {v : V} {xs : List D} (rh : RH K M h H) (rt : RT K M H0 H x v) (e : seqOf x h = some xs) :
    ∃ t a vs, v = .ref a ∧ SqK K t H a vs ∧ RVs K M H xs vs ∧ ∀ M2 H2 h2, Ext M H M2 H2 → RH K M2 h2 H2 → Gd.ok (gOf x h) h2 → ∃ us, SqK K t H2 a us ∧ RVs K M2 H2 xs us := by
  rcases seqOf_cases rh rt e with ⟨a, vs, rfl, h1, h2, h3⟩ | ⟨a, vs, rfl, h1, h2, rfl⟩
  · exact ⟨false, a, vs, rfl, h1, h2, fun M2 H2 k ex rh2 g => sqL_later rh rt h3 ex rh2 g⟩
  · exact ⟨true, a, vs, rfl, h1, h2, fun M2 H2 k ex rh2 g => sqT_later (x := .v (.tup xs)) rt ex⟩
theorem si_zip (Y : Hy CX L Γ Φ X) (hf : "zip" ∈ Γ.free) (hg : Gl X (sO "zip")) (sa : SE X W a fa) (sb : SE X W b fb) (hst : noSt a = true) (hst2 : noSt b = true) : SI X W (.Tuple elts kk tpos) (.Call (.Name (sO "zip") p) [a, b] [] pos) (fun ρ h => bnd (fa ρ h) fun x h1 => bnd (fb ρ h1) fun y h2 => (match seqOf x h2, seqOf y h2 with
      | some xs, some ys => if xs.length ≤ LINE then some (.ok ⟨zipL xs ys, gOf x h2 ++ gOf y h2⟩ h2) else none
      | _, _ => none)) := by
  intro M ρ h σ H r Q re rh e fin
  refine RunI.of (pi_zipK hg (Y.free _ hf) (pa_cons RunE.pe (pa_cons RunE.pe pa_nil (starEach_c hst2)) (starEach_c hst)) (starEach_c hst) (star_all (es := [b]) (by simp [hst2]))) ?_
  refine sa.firstG re rh e fin.fx fun x h1 e1 M1 H1 v x1 rh1 rt1 re1 => ?_
  refine sb.firstG re1 rh1 e1 (fin.mono x1).fx fun y h2 e2 M2 H2 u x2 rh2 rt2 re2 => ?_
  split at e2
  · rename_i xs ys hx hy
    split at e2
    · rename_i hl
      cases e2
      have hlen : (zipL xs ys).length ≤ sizeLine := by rw [zipL_len, ← line_eq]; omega
      obtain ⟨t, A, vs, rfl, g1, g2, g3⟩ := seqK rh2 (rt1.ext x2) hx
      obtain ⟨t', B, us, rfl, k1, k2, k3⟩ := seqK rh2 rt2 hy
      refine ⟨t, t', A, B, vs, us, rfl, g1, k1, fin M2 H2 _ (x1.trans x2) rh2 ⟨fun i M3 H3 h3 hi ex rh3 hg => ?_, fun M3 H3 h3 ex rh3 hg => ?_, fun i M3 H3 h3 z H4 hi ex rh3 hg hz => ?_⟩ hlen⟩
      · obtain ⟨vs, q1, q2⟩ := g3 M3 H3 h3 ex rh3 (gd_app hg).1
        obtain ⟨us, q3, q4⟩ := k3 M3 H3 h3 ex rh3 (gd_app hg).2
        have hi2 : i < (zipL xs ys).length := hi
        rw [zipL_len, q2.length, q4.length] at hi2
        have h1 : i < vs.length := by omega
        have h2' : i < us.length := by omega
        exact ⟨vs, us, vs[i], us[i], q1, q3, by simp [h1], by simp [h2']⟩
      · obtain ⟨vs, q1, q2⟩ := g3 M3 H3 h3 ex rh3 (gd_app hg).1
        obtain ⟨us, q3, q4⟩ := k3 M3 H3 h3 ex rh3 (gd_app hg).2
        refine ⟨vs, us, q1, q3, ?_⟩
        show (zipL xs ys).length ≤ vs.length ∧ (zipL xs ys).length ≤ us.length ∧ ((zipL xs ys).length = vs.length ∨ (zipL xs ys).length = us.length)
        rw [zipL_len, q2.length, q4.length]
        omega
      · obtain ⟨vs, q1, q2⟩ := g3 M3 H3 h3 ex rh3 (gd_app hg).1
        obtain ⟨us, q3, q4⟩ := k3 M3 H3 h3 ex rh3 (gd_app hg).2
        obtain ⟨T, x', y', rfl, hT, rfl, hy, hy'⟩ := hz
        obtain ⟨d, z1, z2⟩ := q2.get' (hy vs q1)
        obtain ⟨d', z3, z4⟩ := q4.get' (hy' us q3)
        obtain ⟨w1, w2, w3⟩ := pair_new rh3 hT z2 z4
        exact ⟨w1, w2, _, zipL_get z1 z3, w3⟩
    · cases e2
  · cases e2
theorem rev_get {xs : List D} {i : Nat} {d : D} (hi : i < xs.length) (h : xs[xs.length - 1 - i]? = some d) : xs.reverse[i]? = some d := by
  rw [List.getElem?_reverse hi]
  exact h
theorem si_rvd (Y : Hy CX L Γ Φ X) (hf : "reversed" ∈ Γ.free) (hg : Gl X (sO "reversed")) (sa : SE X W a fa) (hst : noSt a = true) : SI X W tg (.Call (.Name (sO "reversed") p) [a] [] pos) (fun ρ h => bnd (fa ρ h) fun x h1 => (match seqOf x h1 with
    | some xs => if xs.length ≤ LINE then some (.ok ⟨xs.reverse, gOf x h1⟩ h1) else none
    | none => none)) := by
  intro M ρ h σ H r Q re rh e fin
  refine RunI.of (_root_.RT.pi_revA hg (Y.free _ hf) RunE.pe (starEach_c hst)) ?_
  refine sa.firstG re rh e fin.fx fun x h1 e1 M1 H1 v x1 rh1 rt1 re1 => ?_
  split at e1
  · rename_i xs hx
    split at e1
    · rename_i hl
      cases e1
      have hlen : xs.reverse.length ≤ sizeLine := by rw [List.length_reverse, ← line_eq]; exact hl
      rcases seqOf_cases rh1 rt1 hx with ⟨A, vs, rfl, g1, g2, g3⟩ | ⟨A, vs, rfl, g1, g2, rfl⟩
      · refine ⟨A, vs, rfl, .inl ⟨g1, fin M1 H1 _ x1 rh1 ⟨fun i M2 H2 h2 hi ex rh2 hg => ?_, fun M2 H2 h2 ex rh2 hg => ?_, fun i M2 H2 h2 z H3 hi ex rh2 hg hy => ?_⟩ hlen⟩⟩
        · obtain ⟨us, q1, q2⟩ := sqL_later rh1 rt1 g3 ex rh2 hg
          simp only [List.length_reverse] at hi
          rw [g2.length] at hi
          have hul : us.length = vs.length := by rw [← q2.length, g2.length]
          have hj : vs.length - 1 - i < us.length := by omega
          exact ⟨hi, us, us[vs.length - 1 - i], q1, by simp [hj]⟩
        · show vs.length ≤ xs.reverse.length
          rw [List.length_reverse, g2.length]
          exact Nat.le_refl _
        · obtain ⟨us, q1, q2⟩ := sqL_later rh1 rt1 g3 ex rh2 hg
          simp only [List.length_reverse] at hi
          obtain ⟨rfl, hy⟩ := hy
          obtain ⟨d, z1, z2⟩ := q2.get' (hy us q1)
          rw [← g2.length] at z1
          exact ⟨Ext.refl _ _, rh2, d, rev_get hi z1, z2⟩
      · refine ⟨A, vs, rfl, .inr ⟨g1, fin M1 H1 _ x1 rh1 ⟨fun i M2 H2 h2 hi ex rh2 hg => ?_, fun M2 H2 h2 ex rh2 hg => ?_, fun i M2 H2 h2 z H3 hi ex rh2 hg hy => ?_⟩ hlen⟩⟩
        · obtain ⟨us, q1, q2⟩ := sqT_later (x := .v (.tup xs)) rt1 ex
          simp only [List.length_reverse] at hi
          rw [g2.length] at hi
          have hul : us.length = vs.length := by rw [← q2.length, g2.length]
          have hj : vs.length - 1 - i < us.length := by omega
          exact ⟨hi, us, us[vs.length - 1 - i], q1, by simp [hj]⟩
        · show vs.length ≤ xs.reverse.length
          rw [List.length_reverse, g2.length]
          exact Nat.le_refl _
        · obtain ⟨us, q1, q2⟩ := sqT_later (x := .v (.tup xs)) rt1 ex
          simp only [List.length_reverse] at hi
          obtain ⟨rfl, hy⟩ := hy
          obtain ⟨d, z1, z2⟩ := q2.get' (hy us q1)
          rw [← g2.length] at z1
          exact ⟨Ext.refl _ _, rh2, d, rev_get hi z1, z2⟩
    · cases e1
  · cases e1
end
end Py


set_option Elab.async false
set_option linter.all false
set_option maxRecDepth 100000
set_option maxHeartbeats 1000000
/-! PyP: stores. -/
namespace Py
open PySem PySem.Spec L2
open PyProof.Rows hiding St
def RunG (X : Cx) (tg : Expr) (v : V) (σ : St) (H : Hp) (Q : St → Hp → Prop) : Prop := ∀ (pins : List (Addr × Obj)) (s : Shared) (u : Value), Inv X pins σ H s → RelV v u →
    wpAny (model X.prog X.w) X.A (assign tg X.env u) (fun _ s' => ∃ σ' H', Inv X pins σ' H' s' ∧ Q σ' H') X.xe s
theorem RunG.pg {X : Cx} {tg : Expr} : PG X tg (fun v σ H Q => RunG X tg v σ H Q) := ⟨fun pins s σ H v u Q I r h => h pins s u I r⟩
theorem RunG.of {X : Cx} {tg : Expr} {t : TG} (h : PG X tg t) {v : V} {σ : St} {H : Hp} {Q : St → Hp → Prop} (q : t v σ H Q) : RunG X tg v σ H Q := fun pins s u I r => h.run pins s σ H v u Q I r q
def RunGs (X : Cx) (ts : List Expr) (vs : List V) (σ : St) (H : Hp) (Q : St → Hp → Prop) : Prop := ∀ (pins : List (Addr × Obj)) (s : Shared) (us : List Value), Inv X pins σ H s → Vals vs us →
    wpAny (model X.prog X.w) X.A (assignInOrder ((assignEach ts X.env).map (·.2)) us) (fun _ s' => ∃ σ' H', Inv X pins σ' H' s' ∧ Q σ' H') X.xe s
theorem RunGs.pgs {X : Cx} {ts : List Expr} : PGs X ts (fun vs σ H Q => RunGs X ts vs σ H Q) := ⟨fun pins s σ H vs us Q I r h => h pins s us I r⟩
theorem RunGs.of {X : Cx} {ts : List Expr} {t : TGs} (h : PGs X ts t) {vs : List V} {σ : St} {H : Hp} {Q : St → Hp → Prop} (q : t vs σ H Q) : RunGs X ts vs σ H Q := fun pins s us I r => h.run pins s σ H vs us Q I r q
/-- only the slots is are stored -/
def Same (is : List Nat) (σ σ' : St) : Prop := σ'.length = σ.length ∧ ∀ j, j ∉ is → σ'[j]? = σ[j]?
theorem Same.refl {is : List Nat} {σ : St} : Same is σ σ := ⟨rfl, fun _ _ => rfl⟩
theorem Same.trans {is js : List Nat} {σ σ1 σ2 : St} (a : Same is σ σ1) (b : Same js σ1 σ2) : Same (is ++ js) σ σ2 :=
  ⟨b.1.trans a.1, fun j hj => (b.2 j fun h => hj (List.mem_append_right _ h)).trans (a.2 j fun h => hj (List.mem_append_left _ h))⟩
def FinG (K : PySem.W.Frag) (W : WX) (is : List Nat) (M : List Addr) (σ : St) (H : Hp) (r : R Env) (Q : St → Hp → Prop) : Prop := match r with
  | .ok ρ' h' => ∀ M' H' σ', Ext M H M' H' → RH K M' h' H' → RE K M' H' ρ' σ' → Same is σ σ' → Q σ' H'
  | .ex c fs h' => ∀ σ' M' H' cls d, Ext M H M' H' → RH K M' h' H' → RX K M' H' c fs cls d → W cls d σ' H'
/-- a store tells of no exception of ours: r is an ok -/
def okG {α : Type} (r : R α) : Prop := match r with
  | .ok _ _ => True
  | .ex _ _ _ => False
def SG (X : Cx) (W : WX) (is : List Nat) (tg : Expr) (f : D → Env → Hd → Res Env) : Prop := ∀ (M : List Addr) (ρ : Env) (h : Hd) (σ : St) (H : Hp) (d : D) (v : V) (r : R Env) (Q : St → Hp → Prop),
  RE X.K M H ρ σ → RH X.K M h H → RV X.K M H d v → f d ρ h = some r → okG r → FinG X.K W is M σ H r Q → RunG X tg v σ H Q
def SGs (X : Cx) (W : WX) (is : List Nat) (tgs : List Expr) (f : List D → Env → Hd → Res Env) : Prop := ∀ (M : List Addr) (ρ : Env) (h : Hd) (σ : St) (H : Hp) (ds : List D) (vs : List V) (r : R Env) (Q : St → Hp → Prop),
  RE X.K M H ρ σ → RH X.K M h H → RVs X.K M H ds vs → f ds ρ h = some r → okG r → FinG X.K W is M σ H r Q → RunGs X tgs vs σ H Q
theorem okG_bnd {α β : Type} {m : Res α} {f : α → Hd → Res β} {r : R β} (e : bnd m f = some r) (ho : okG r) : ∃ a h, m = some (.ok a h) ∧ f a h = some r := by
  rcases bnd_some e with h | ⟨c, fs, h, _, e2⟩
  · exact h
  · subst e2; exact ho.elim
theorem RE.set {K : PySem.W.Frag} {M : List Addr} {H : Hp} {ρ : Env} {σ : St} {i : Nat} {d : D} {v : V} (r : RE K M H ρ σ) (rv : RV K M H d v) : RE K M H (ρ.set i (some d)) (σ.set i (some v)) := by
  refine ⟨by rw [List.length_set, List.length_set]; exact r.len, fun j e h => ?_⟩
  by_cases hj : i = j
  · subst hj
    by_cases hl : i < ρ.length
    · rw [List.getElem?_set_self hl] at h
      cases h
      exact ⟨v, List.getElem?_set_self (by rw [← r.len]; exact hl), rv⟩
    · rw [List.getElem?_eq_none (by rw [List.length_set]; omega)] at h
      cases h
  · rw [List.getElem?_set_ne hj] at h ⊢
    exact r.get j e h
section
variable {X : Cx} {CX : CXT} {L : Nat} {Γ : Tab} {Φ : Calls} {W : WX} {pos p tpos : Pos} {a b o tg : Expr} {es elts : List Expr} {kk : Nat} {fa fb : Env → Hd → Res TV} {fs : Env → Hd → Res (List TV)}
theorem sg_name {i : Nat} {x : Str} (hN : X.N.Nodup) (hi : X.N[i]? = some x) (hx : Loc X.env.scope x) (hf : X.fn x = true ∨ X.env.scope.names.lookup x = some .local) : SG X W [i] (.Name x pos) (fun d ρ h => some (.ok (ρ.set i (some d)) h)) := by
  intro M ρ h σ H d v r Q re rh rv e ho fin
  cases e
  refine RunG.of (pg_name hN hi hx hf) (fin M H _ (Ext.refl _ _) rh (re.set rv) ⟨List.length_set, fun j hj => ?_⟩)
  exact List.getElem?_set_ne fun z => hj (by simp [z])
theorem sgs_nil : SGs X W [] [] (fun ds ρ h => match ds with
    | [] => some (.ok ρ h)
    | _ => none) := by
  intro M ρ h σ H ds vs r Q re rh rv e ho fin
  cases rv with
  | nil =>
    cases e
    exact RunGs.of pgs_nil ⟨rfl, fin M H σ (Ext.refl _ _) rh re Same.refl⟩
  | cons _ _ => cases e
theorem sgs_cons {is js : List Nat} {g : D → Env → Hd → Res Env} {gs : List D → Env → Hd → Res Env} (s1 : SG X W is a g) (s2 : SGs X W js es gs) (hs : (assignEach (a :: es) X.env).map (·.2) = assign a X.env :: (assignEach es X.env).map (·.2)) : SGs X W (is ++ js) (a :: es) (fun ds ρ h => match ds with
    | d :: ds => bnd (g d ρ h) fun ρ1 h1 => gs ds ρ1 h1
    | _ => none) := by
  intro M ρ h σ H ds vs r Q re rh rv e ho fin
  cases rv with
  | nil => cases e
  | cons rv rvs =>
    obtain ⟨ρ1, h1, e1, e2⟩ := okG_bnd e ho
    refine RunGs.of (pgs_cons RunG.pg RunGs.pgs hs) ⟨_, _, rfl, ?_⟩
    refine s1 M ρ h σ H _ _ _ _ re rh rv e1 trivial fun M1 H1 σ1 x1 rh1 re1 sm1 => ?_
    refine s2 M1 ρ1 h1 σ1 H1 _ _ _ _ re1 rh1 (rvs.ext x1) e2 ho ?_
    cases r with
    | ex _ _ _ => exact ho.elim
    | ok ρ2 h2 => exact fun M2 H2 σ2 x2 rh2 re2 sm2 => fin M2 H2 σ2 (x1.trans x2) rh2 re2 (sm1.trans sm2)
theorem sg_tup {is : List Nat} {k n : Nat} {gs : List D → Env → Hd → Res Env} (hc : X.calm = true) (s : SGs X W is es gs) (hlen : ∀ ds ρ h r, gs ds ρ h = some r → okG r → ds.length = n) (hn : (assignEach es X.env).length = n) (hst : (assignEach es X.env).findIdx? (·.1) = none) : SG X W is (.Tuple es k pos) (fun d ρ h => match d with
    | .tup xs => gs xs ρ h
    | _ => none) := by
  intro M ρ h σ H d v r Q re rh rv e ho fin
  cases rv with
  | tup ht rvs =>
    refine RunG.of (pg_tup hc RunGs.pgs hn hst) ⟨_, _, rfl, .inl (.inl ht), ?_, s M ρ h σ H _ _ _ _ re rh rvs e ho fin⟩
    rw [← rvs.length]
    exact hlen _ _ _ _ e ho
  | _ => cases e
/-! ### x[i] = .. -/
def setAll' (X : Cx) : TSet := fun o i v H Q => ∃ t : TSet, PSet X t ∧ t o i v H Q
theorem set_all : PSet X (setAll' X) := fun pins s σ H o i v ov iv u Q I ro ri rv ⟨t, ht, q⟩ => ht pins s σ H o i v ov iv u Q I ro ri rv q
theorem kPut_eq {κ : Type} [DecidableEq κ] (kvs : List (κ × V)) (k : κ) (v : V) : L2.putK kvs k v = (if (kvs.any fun kv => decide (kv.1 = k)) = true then kvs.map (fun kv => if kv.1 = k then (kv.1, v) else kv) else kvs ++ [(k, v)]) := rfl
theorem DK.any {K : PySem.W.Frag} {M : List Addr} {H : Hp} {κ : Type} [DecidableEq κ] {k : κ} : ∀ {ds : List (κ × D)} {vs : List (κ × V)}, DK K M H ds vs → (ds.any fun kv => decide (kv.1 = k)) = vs.any fun kv => decide (kv.1 = k)
  | _, _, .nil => rfl
  | _, _, .cons _ rs => by rw [List.any_cons, List.any_cons, rs.any]
theorem DK.repl {K : PySem.W.Frag} {M : List Addr} {H : Hp} {κ : Type} [DecidableEq κ] {k : κ} {d : D} {v : V} (r : RV K M H d v) : ∀ {ds : List (κ × D)} {vs : List (κ × V)}, DK K M H ds vs → DK K M H (ds.map fun kv => if kv.1 = k then (kv.1, d) else kv) (vs.map fun kv => if kv.1 = k then (kv.1, v) else kv)
  | _, _, .nil => .nil
  | _, _, .cons (k := j) q rs => by
    rw [List.map_cons, List.map_cons]
    by_cases e : j = k
    · rw [if_pos e, if_pos e]; exact .cons r (DK.repl r rs)
    · rw [if_neg e, if_neg e]; exact .cons q (DK.repl r rs)
theorem DK.snoc {K : PySem.W.Frag} {M : List Addr} {H : Hp} {κ : Type} {k : κ} {d : D} {v : V} (r : RV K M H d v) : ∀ {ds : List (κ × D)} {vs : List (κ × V)}, DK K M H ds vs → DK K M H (ds ++ [(k, d)]) (vs ++ [(k, v)])
  | _, _, .nil => .cons r .nil
  | _, _, .cons q rs => .cons q (DK.snoc r rs)
theorem DK.put {K : PySem.W.Frag} {M : List Addr} {H : Hp} {κ : Type} [DecidableEq κ] {k : κ} {d : D} {v : V} (r : RV K M H d v) {ds : List (κ × D)} {vs : List (κ × V)} (q : DK K M H ds vs) : DK K M H (kPut ds k d) (L2.putK vs k v) := by
  rw [kPut_eq]
  unfold kPut
  rw [q.any]
  split
  · exact q.repl r
  · exact q.snoc r
theorem setX_ok (Y : Hy CX L Γ Φ X) {x y : TV} {d : D} {vx vy v : V} {h h' : Hd} {M : List Addr} {H0 H1 H : Hp} {Q : Hp → Prop} (e : setX x y d h = some (.ok () h')) (rh : RH X.K M h H) (rx : RT X.K M H0 H x vx) (ry : RT X.K M H1 H y vy) (rv : RV X.K M H d v)
    (k : ∀ H', Ext M H M H' → RH X.K M h' H' → Q H') : setAll' X vx vy v H Q := by
  have hu : X.A.units + 1 < cLine := by have := Y.u65; omega
  unfold setX at e
  split at e
  · rename_i n kd
    cases rx with
    | v rx =>
      cases rx with
      | obj hm =>
        rename_i p
        cases ry with
        | v ry =>
          split at e
          · rename_i xs hn
            split at e
            · split at e
              · rename_i j hj
                cases e
                cases ry
                obtain ⟨us, h1, h2⟩ := rh.at hn hm
                obtain ⟨y1, y2⟩ := putL rh hm (h2.set rv j)
                exact ⟨_, set_list, p, us, _, j, rfl, rfl, h1, by rw [← h2.length]; exact hj, k _ y1 y2⟩
              · cases e
            · cases e
          · rename_i c hn
            split at e
            · rename_i c' hc
              split at e
              · rename_i hl
                cases e
                obtain ⟨u, h1, h2⟩ := rh.at hn hm
                cases c with
                | k kvs =>
                  obtain ⟨ks, rfl, dk⟩ := h2
                  simp only [Dc.put] at hc
                  obtain ⟨kk, e1, rfl⟩ := Option.map_eq_some_iff.mp hc
                  have ev := toKey_at ry e1
                  subst ev
                  have ex : Ext M H M (upd H p (.dK (L2.putK ks kk v))) := Ext.put rh hm
                  refine ⟨_, set_dict hu, p, _, rfl, DPut.k h1 ?_, k _ ex (rh.put hm ⟨_, upd_same, _, rfl, (dk.put rv).ext ex⟩)⟩
                  rw [← dk.length, ← line_eq]; exact hl
                | t kvs =>
                  obtain ⟨ks, rfl, dk⟩ := h2
                  simp only [Dc.put] at hc
                  obtain ⟨kk, e1, rfl⟩ := Option.map_eq_some_iff.mp hc
                  obtain ⟨q, ev, hb⟩ := tupKey_at ry e1
                  subst ev
                  have ex : Ext M H M (upd H p (.dT (L2.putK ks kk v))) := Ext.put rh hm
                  refine ⟨_, set_dict hu, p, _, rfl, DPut.t h1 hb ?_, k _ ex (rh.put hm ⟨_, upd_same, _, rfl, (dk.put rv).ext ex⟩)⟩
                  rw [← dk.length, ← line_eq]; exact hl
              · cases e
            · cases e
          · cases e
  · cases e
/-- the slice's place aside -/
def noSlice : Expr → Bool
  | .Slice _ _ _ _ => false
  | _ => true
theorem sg_ix (Y : Hy CX L Γ Φ X) (so : SE X W o fa) (si : SE X W a fb) (hs : noSlice a = true) : SG X W [] (.Subscript o a pos) (fun d ρ h => bnd (fa ρ h) fun x h1 => bnd (fb ρ h1) fun y h2 => bnd (setX x y d h2) fun _ h3 => some (.ok ρ h3)) := by
  intro M ρ h σ H d v r Q re rh rv e ho fin
  refine RunG.of (pg_sub RunE.pe RunE.pe set_all (by
    intro _
    cases a <;> first | rfl | (simp [noSlice] at hs))) ?_
  obtain ⟨x, h1, e1, e2⟩ := okG_bnd e ho
  obtain ⟨y, h2, e3, e4⟩ := okG_bnd e2 ho
  obtain ⟨u, h3, e5, e6⟩ := okG_bnd e4 ho
  cases e6
  refine so M ρ h σ H _ _ re rh e1 fun M1 H1 v1 x1 rh1 rt1 => ?_
  refine si M1 ρ h1 σ H1 _ _ (re.ext x1) rh1 e3 fun M2 H2 v2 x2 rh2 rt2 => ?_
  exact setX_ok Y e5 rh2 (rt1.ext x2) rt2 ((rv.ext x1).ext x2) fun H' x3 rh3 => fin M2 H' σ ((x1.trans x2).trans x3) rh3 ((((re.ext x1).ext x2).ext x3)) Same.refl
/-! ### x.f = .. -/
theorem FR.put {K : PySem.W.Frag} {M : List Addr} {H : Hp} {f : String} {d : D} {v : V} (r : RV K M H d v) : ∀ {fs : List (String × D)} {vs : List (Str × V)}, FR K M H fs vs → FR K M H (setF fs f d) (putF (sO f) v vs)
  | _, _, .nil => .cons r .nil
  | _, _, .cons (f := g) q rs => by
    unfold setF putF
    by_cases e : g = f
    · subst e
      rw [if_pos rfl, if_pos rfl]
      exact .cons r rs
    · have e2 : ¬ Str.ofString g = sO f := fun z => e (sO_inj z)
      rw [if_neg e, if_neg e2]
      exact .cons q (FR.put r rs)
theorem FR.length {K : PySem.W.Frag} {M : List Addr} {H : Hp} : ∀ {fs : List (String × D)} {vs : List (Str × V)}, FR K M H fs vs → fs.length = vs.length
  | _, _, .nil => rfl
  | _, _, .cons _ rs => by rw [List.length_cons, List.length_cons, rs.length]
theorem sg_fd (Y : Hy CX L Γ Φ X) {f : String} {cs : List String} (hcs : ∀ c ∈ cs, (c, f) ∈ Γ.flds) (so : SE X W o fa) : SG X W [] (.Attribute o (sO f) pos) (fun d ρ h => bnd (fa ρ h) fun x h1 => (match x with
    | .v (.obj n) => (match h1.at_ n with
      | some (.ins c fs) => if cs.contains c = true ∧ fs.length < 100 then some (.ok ρ (h1.put n (.ins c (setF fs f d)))) else none
      | _ => none)
    | _ => none)) := by
  intro M ρ h σ H d v r Q re rh rv e ho fin pins s u I ru
  obtain ⟨x, h1, e1, e2⟩ := okG_bnd e ho
  show wpAny _ _ (do let ov ← holding [u] (eval o X.env); standAt pos.atName; holding [u, ov] (setAttr ov (sO f) u); release [u, ov] []) _ _ s
  have w := so M ρ h σ H _ (fun ov H1 => ∃ p C dx vs, ov = V.ref p ∧ H1 p = some (.ins C dx vs) ∧ Cls X.K C ∧ NoAttr X.K C (sO f) ∧ vs.length < 1000 ∧ Q σ (upd H1 p (.ins C dx (putF (sO f) v vs)))) re rh e1 (fun M1 H1 v1 x1 rh1 rt1 => by
    split at e2
    · rename_i n
      split at e2
      · rename_i c fs hn
        split at e2
        · rename_i hc
          cases e2
          obtain ⟨na, cl⟩ := Y.na _ (hcs c (List.contains_iff_mem.mp hc.1))
          have hi : insOf (.v (.obj n)) h1 = some c := by simp only [insOf, hn]
          obtain ⟨p, dx, vs, fs', n', en, hn', rfl, h1', h2'⟩ := insOf_at rh1 rt1 hi
          cases en
          rw [hn] at hn'
          cases hn'
          have hm : M1[n]? = some p := by
            cases rt1 with
            | v q => cases q with
              | obj hm => exact hm
          refine ⟨p, _, dx, vs, rfl, h1', cl, na, by rw [← h2'.length]; omega, ?_⟩
          have ex : Ext M1 H1 M1 (upd H1 p (.ins (He.ga X.K (sO c)) dx (putF (sO f) v vs))) := Ext.put rh1 hm
          exact fin M1 _ σ (x1.trans ex) (rh1.put hm ⟨dx, _, upd_same, (FR.put (rv.ext x1) h2').ext ex⟩) ((re.ext x1).ext ex) Same.refl
        · cases e2
      · cases e2
    · cases e2) pins s I
  refine wpAny_bind (wpAny_holding (thn w fun ov s1 hh => ?_))
  obtain ⟨vv, H1, I1, rx, p, C, dx, vs, rfl, h1', cl, na, hl, q⟩ := hh
  obtain rfl : ov = Value.ref p := rx
  refine wpAny_bind (wpAny_standAt (wpAny_bind (wpAny_holding (setattr_ok I1 h1' cl na hl ru fun s3 I3 => ?_))))
  exact wpAny_release ⟨σ, _, I3, q⟩
end
end Py


set_option Elab.async false
set_option linter.all false
set_option maxRecDepth 100000
set_option maxHeartbeats 1000000
/-! PyQ: comprehensions. -/
namespace Py
open PySem PySem.Spec L2
open PyProof.Rows hiding St
section
variable {K : PySem.W.Frag} {M : List Addr} {H : Hp} {Dd : Addr} {acc acc' : List V}
/-! ### an unnamed list changes -/
theorem RoL.upd (hD : H Dd = some (.lst acc)) {a : Addr} {vs : List V} (h : RoL K H a vs) : RoL K (upd H Dd (.lst acc')) a vs := by
  rcases h with ⟨o, h⟩ | h
  · exact .inl ⟨o, by rw [upd_ne (ne_of h hD (by intro z; cases z))]; exact h⟩
  · exact .inr h
mutual
theorem RV.upd (hD : H Dd = some (.lst acc)) : ∀ {d : D} {v : V}, RV K M H d v → RV K M (upd H Dd (.lst acc')) d v
  | _, _, .non => .non
  | _, _, .bl b => .bl b
  | _, _, .int i => .int i
  | _, _, .str s => .str s
  | _, _, .tup h r => .tup (by rw [upd_ne (ne_of h hD (by intro z; cases z))]; exact h) (RVs.upd hD r)
  | _, _, .obj h => .obj h
  | _, _, .rol h r => .rol (h.upd hD) (RVs.upd hD r)
theorem RVs.upd (hD : H Dd = some (.lst acc)) : ∀ {d : List D} {v : List V}, RVs K M H d v → RVs K M (upd H Dd (.lst acc')) d v
  | _, _, .nil => .nil
  | _, _, .cons h r => .cons (RV.upd hD h) (RVs.upd hD r)
end
theorem DK.upd (hD : H Dd = some (.lst acc)) {κ : Type} : ∀ {ds : List (κ × D)} {vs : List (κ × V)}, DK K M H ds vs → DK K M (upd H Dd (.lst acc')) ds vs
  | _, _, .nil => .nil
  | _, _, .cons h r => .cons (h.upd hD) (DK.upd hD r)
theorem FR.upd (hD : H Dd = some (.lst acc)) : ∀ {ds : List (String × D)} {vs : List (Str × V)}, FR K M H ds vs → FR K M (upd H Dd (.lst acc')) ds vs
  | _, _, .nil => .nil
  | _, _, .cons h r => .cons (h.upd hD) (FR.upd hD r)
theorem DRel.upd (hD : H Dd = some (.lst acc)) {kvs : Dc} {u : HO} (h : DRel K M H kvs u) : DRel K M (upd H Dd (.lst acc')) kvs u := by
  cases kvs with
  | k kvs => obtain ⟨ks, e1, h⟩ := h; exact ⟨ks, e1, h.upd hD⟩
  | t kvs => obtain ⟨ks, e1, h⟩ := h; exact ⟨ks, e1, h.upd hD⟩
theorem RH.upd {h : Hd} (r : RH K M h H) (hD : H Dd = some (.lst acc)) (hn : Dd ∉ M) : RH K M h (upd H Dd (.lst acc')) := by
  refine ⟨r.len, r.nd, fun n o ho => ?_, r.al⟩
  obtain ⟨b, hb, q⟩ := r.ob n o ho
  refine ⟨b, hb, ?_⟩
  have ne : b ≠ Dd := fun e => hn (e ▸ List.mem_of_getElem? hb)
  have k : L2.upd H Dd (.lst acc') b = H b := upd_ne ne
  cases o with
  | lst xs => obtain ⟨vs, h1, h2⟩ := q; exact ⟨vs, k.trans h1, h2.upd hD⟩
  | dct kvs lk =>
    cases lk with
    | false => obtain ⟨u, h1, h2⟩ := q; exact ⟨u, k.trans h1, h2.upd hD⟩
    | true => obtain ⟨o, u, h1, h2⟩ := q; exact ⟨o, u, k.trans h1, h2.upd hD⟩
  | ins c fs => obtain ⟨dx, vs, h1, h2⟩ := q; exact ⟨dx, vs, k.trans h1, h2.upd hD⟩
theorem RE.upd {ρ : Env} {σ : St} (r : RE K M H ρ σ) (hD : H Dd = some (.lst acc)) : RE K M (upd H Dd (.lst acc')) ρ σ :=
  ⟨r.len, fun i d h => let ⟨v, h1, h2⟩ := r.get i d h; ⟨v, h1, h2.upd hD⟩⟩
theorem Py.wipe_len (ρ : Env) : ∀ vs : List Nat, (Py.wipe ρ vs).length = ρ.length
  | [] => rfl
  | v :: vs => by unfold Py.wipe; rw [List.length_set, Py.wipe_len ρ vs]
theorem Py.wipe_get {ρ : Env} {i : Nat} {x : D} : ∀ {vs : List Nat}, (Py.wipe ρ vs)[i]? = some (some x) → ρ[i]? = some (some x) ∧ i ∉ vs
  | [], h => ⟨h, by simp⟩
  | v :: vs, h => by
    unfold Py.wipe at h
    by_cases e : v = i
    · subst e
      by_cases hl : v < (Py.wipe ρ vs).length
      · rw [List.getElem?_set_self hl] at h; cases h
      · rw [List.getElem?_eq_none (by rw [List.length_set]; omega)] at h; cases h
    · rw [List.getElem?_set_ne e] at h
      obtain ⟨h1, h2⟩ := Py.wipe_get h
      exact ⟨h1, fun hm => (List.mem_cons.mp hm).elim (fun z => e z.symm) h2⟩
theorem wipe_keep {σ : St} {i : Nat} : ∀ {vs : List Nat}, i ∉ vs → (L2.wipe σ vs)[i]? = σ[i]?
  | [], _ => rfl
  | v :: vs, h => by
    unfold L2.wipe
    rw [List.getElem?_set_ne (fun e => h (by simp [e]))]
    exact wipe_keep fun z => h (by simp [z])
theorem RE.wipe {ρ : Env} {σ : St} (r : RE K M H ρ σ) (vs : List Nat) : RE K M H (Py.wipe ρ vs) (L2.wipe σ vs) := by
  refine ⟨by rw [Py.wipe_len, wipe_length]; exact r.len, fun i d h => ?_⟩
  obtain ⟨h1, h2⟩ := Py.wipe_get h
  obtain ⟨v, g1, g2⟩ := r.get i d h1
  exact ⟨v, by rw [wipe_keep h2]; exact g1, g2⟩
theorem wipe_at {σ : St} {i : Nat} : ∀ {vs : List Nat}, i ∈ vs → i < σ.length → (L2.wipe σ vs)[i]? = some none
  | v :: vs, h, hl => by
    unfold L2.wipe
    by_cases e : v = i
    · subst e
      exact List.getElem?_set_self (by rw [wipe_length]; exact hl)
    · rw [List.getElem?_set_ne e]
      exact wipe_at ((List.mem_cons.mp h).elim (fun z => absurd z.symm e) id) hl
theorem wipe_same {σ σ2 : St} {is vs : List Nat} (hs : ∀ i ∈ is, i ∈ vs) (sm : Same is (L2.wipe σ vs) σ2) : L2.wipe σ2 vs = L2.wipe σ vs := by
  obtain ⟨h1, h2⟩ := sm
  have hl : σ2.length = σ.length := by rw [h1, wipe_length]
  apply List.ext_getElem?
  intro j
  by_cases hj : j ∈ vs
  · by_cases hjl : j < σ.length
    · rw [wipe_at hj (by rw [hl]; exact hjl), wipe_at hj hjl]
    · rw [List.getElem?_eq_none (by rw [wipe_length]; omega), List.getElem?_eq_none (by rw [wipe_length]; omega)]
  · rw [wipe_keep hj, h2 j fun z => hj (hs j z)]
end
/-! ### the tests of a comprehension -/
def RunTs (X : Cx) (ifs : List Expr) (σ : St) (H : Hp) (Q : Bool → Hp → Prop) : Prop := ∀ (pins : List (Addr × Obj)) (s : Shared), Inv X pins σ H s →
    wpAny (model X.prog X.w) X.A (forIn ifs true fun c r => if r = true then do let ok ← isTrue c X.env (eval c X.env); pure (ForInStep.yield ok) else pure (ForInStep.yield r)) (TP X pins σ Q) X.xe s
theorem RunTs.pts {X : Cx} {ifs : List Expr} : PTs X ifs (fun σ H Q => RunTs X ifs σ H Q) := ⟨fun pins s σ H Q I h => h pins s I⟩
theorem RunTs.of {X : Cx} {ifs : List Expr} {t : TT} (h : PTs X ifs t) {σ : St} {H : Hp} {Q : Bool → Hp → Prop} (q : t σ H Q) : RunTs X ifs σ H Q := fun pins s I => h.run pins s σ H Q I q
def STs (X : Cx) (ifs : List Expr) (f : Env → Hd → Res Bool) : Prop := ∀ (M : List Addr) (ρ : Env) (h : Hd) (σ : St) (H : Hp) (b : Bool) (h' : Hd) (Q : Bool → Hp → Prop),
  RE X.K M H ρ σ → RH X.K M h H → f ρ h = some (.ok b h') → (∀ M' H', Ext M H M' H' → RH X.K M' h' H' → Q b H') → RunTs X ifs σ H Q
def W0 : WX := fun _ _ _ _ => False
section
variable {X : Cx} {W : WX} {a : Expr} {fa : Env → Hd → Res TV}
theorem sts_nil : STs X [] (fun _ h => some (.ok true h)) := by
  intro M ρ h σ H b h' Q re rh e fin
  cases e
  exact RunTs.of pts_nil (fin M H (Ext.refl _ _) rh)
theorem sts_one (sa : ST X W a fa) : STs X [a] (fun ρ h => bnn (fa ρ h) fun x h1 => (match x with
    | .v (.bl true) => some (.ok true h1)
    | .v (.bl false) => some (.ok false h1)
    | _ => none)) := by
  intro M ρ h σ H b h' Q re rh e fin
  refine RunTs.of (pts_one RunT.pt) ?_
  obtain ⟨x, h1, e1, e2⟩ := bnn_some e
  have hx : x = .v (.bl b) ∧ h1 = h' := by
    split at e2
    · cases e2; exact ⟨rfl, rfl⟩
    · cases e2; exact ⟨rfl, rfl⟩
    · cases e2
  obtain ⟨rfl, rfl⟩ := hx
  refine sa M ρ h σ H _ _ re rh e1 trivial fun b' hb M1 H1 x1 rh1 => ?_
  cases hb
  exact fin M1 H1 x1 rh1
end
/-- a block's context, whatever it stands in -/
abbrev Blk (X : Cx) (scope : Scope) (P : Cx → Prop) : Prop := ∀ (s : Shared) (H : Hp) (C : Addr) (cl : List (Str × Addr)) (fp : List Addr), P (X.blk s H scope (compEnvC scope cl C X.env) fp)
section
variable {X : Cx} {W : WX} {elt tg iter : Expr} {ifs : List Expr} {scope : Scope} {own : List (Str × Nat)} {pos : Pos} {is : List Nat} {fi : Env → Hd → Res Wk} {ft : D → Env → Hd → Res Env} {fc : Env → Hd → Res Bool} {fe : Env → Hd → Res TV}
noncomputable def lcEl (vs : List Nat) (ft : D → Env → Hd → Res Env) (fc : Env → Hd → Res Bool) (fe : Env → Hd → Res TV) (ρ : Env) : D → Hd → Res (Option D) := fun d h => bnn (ft d (Py.wipe ρ vs) h) fun ρ1 h1 => bnn (fc ρ1 h1) fun k h2 =>
      (match k with
      | true => bnn (fe ρ1 h2) fun x h3 => some (.ok (some (pro x h3).1) (pro x h3).2)
      | false => some (.ok none h2))
theorem compL_cons {α : Type} {g : Gd} {el : D → Hd → Res (Option α)} {x : D} {xs : List D} {h h' : Hd} {ys : List α} (e : compL g el (x :: xs) h = some (.ok ys h')) : g.ok h ∧ ∃ o h1 zs, el x h = some (.ok o h1) ∧ compL g el xs h1 = some (.ok zs h') ∧ ys = o.toList ++ zs := by
  unfold compL at e
  split at e
  · rename_i hg
    obtain ⟨o, h1, e1, e2⟩ := bnn_some e
    obtain ⟨zs, h2, e3, e4⟩ := bnn_some e2
    cases e4
    exact ⟨hg, o, h1, zs, e1, e3, rfl⟩
  · cases e
theorem compL_nil {α : Type} {g : Gd} {el : D → Hd → Res (Option α)} {h h' : Hd} {ys : List α} (e : compL g el [] h = some (.ok ys h')) : g.ok h ∧ ys = [] ∧ h = h' := by
  unfold compL at e
  split at e
  · rename_i hg
    cases e
    exact ⟨hg, rfl, rfl⟩
  · cases e
/-- a comprehension, from behind what it walks -/
def lcBody (g : TG) (tt : TT) (te : TE) (vs : List Nat) (σ : St) (J : L2.It) (H1 : Hp) (Q : VK) : Prop := ∀ D, H1 D = none → ∃ Wv : Nat → Nat → Hp → Prop, (∃ m, Wv 0 m (upd H1 D (.lst []))) ∧ ∀ i m H, Wv i m H → (J.stop i H ∧ Q (.ref D) H) ∨
  (J.go i H ∧ ∃ Nx : Hp → Prop, (∀ H', Nx H' → ∃ m', m' < m ∧ Wv (i + 1) m' H') ∧ ∀ x H', J.yld i H x H' → g x (L2.wipe σ vs) H' fun σ2 H2 => L2.wipe σ2 vs = L2.wipe σ vs ∧ tt σ2 H2 fun b H3 => if b = true then te σ2 H3 fun y H4 => ∃ acc, H4 D = some (.lst acc) ∧ acc.length < sizeLine ∧ Nx (upd H4 D (.lst (acc ++ [y]))) else Nx H3)
theorem lc_tail (hsub : ∀ i ∈ is, i ∈ own.map (·.2)) (sg : Blk X scope fun B => SG B W0 is tg ft) (sc : Blk X scope fun B => STs B ifs fc) (se : Blk X scope fun B => SE B W0 elt fe)
    {M1 : List Addr} {ρ : Env} {h1 h' : Hd} {σ : St} {H1 : Hp} {w : Wk} {J : L2.It} {xs : List D} {Q : VK} (re1 : RE X.K M1 H1 ρ σ) (rh1 : RH X.K M1 h1 H1) (wk : WkAt X.K M1 H1 w J) (hlen : w.items.length ≤ sizeLine)
    (e3 : compL w.g (lcEl (own.map (·.2)) ft fc fe ρ) w.items h1 = some (.ok xs h')) (fin : ∀ M' H' v, Ext M1 H1 M' H' → RH X.K M' h' H' → RT X.K M' H1 H' (.l xs) v → Q v H') :
    lcBody (fun v σ H Q => Blk X scope fun B => RunG B tg v σ H Q) (fun σ H Q => Blk X scope fun B => RunTs B ifs σ H Q) (fun σ H Q => Blk X scope fun B => RunE B elt σ H Q) (own.map (·.2)) σ J H1 Q := by
  intro Dd hD
  let n := w.items.length
  let Pv : Nat → Hp → Prop := fun i H2 => ∃ M2 h2 accd acc rest, Ext M1 H1 M2 H2 ∧ RH X.K M2 h2 H2 ∧ H2 Dd = some (.lst acc) ∧ Dd ∉ M2 ∧ RVs X.K M2 H2 accd acc ∧ acc.length ≤ i ∧ compL w.g (lcEl (own.map (·.2)) ft fc fe ρ) (w.items.drop i) h2 = some (.ok rest h') ∧ accd ++ rest = xs
  refine ⟨fun i m H2 => m = n - i ∧ i ≤ n ∧ Pv i H2, ⟨n, by simp, Nat.zero_le _, M1, h1, [], [], xs, Ext.laid hD, rh1.laid hD, upd_same, rh1.notin hD, .nil, Nat.le_refl _, by simpa using e3, rfl⟩, ?_⟩
  rintro i m H2 ⟨rfl, hi, M2, h2, accd, acc, rest, y1, y2, y3, y4, y5, y6, y7, y8⟩
  by_cases hlt : i < n
  · have hdrop : w.items.drop i = w.items[i] :: w.items.drop (i + 1) := List.drop_eq_getElem_cons hlt
    rw [hdrop] at y7
    obtain ⟨hg, o, h3, zs, c1, c2, c3⟩ := compL_cons y7
    refine .inr ⟨wk.go i M2 H2 h2 hlt y1 y2 hg, Pv (i + 1), fun H' p' => ⟨n - (i + 1), by omega, rfl, hlt, p'⟩, fun x' H3 hy => ?_⟩
    obtain ⟨z1, z2, d, z3, z4⟩ := wk.yld i M2 H2 h2 x' H3 hlt y1 y2 hg hy
    have ed : d = w.items[i] := by
      rw [List.getElem?_eq_getElem hlt] at z3
      exact (Option.some.inj z3).symm
    subst ed
    have d3 : H3 Dd = some (.lst acc) := z1.kept _ _ y3 y4
    unfold lcEl at c1
    obtain ⟨ρ1, h4, b1, b2⟩ := bnn_some c1
    obtain ⟨k, h5, b3, b4⟩ := bnn_some b2
    intro s0 H0 C cl fp
    have re3 := ((re1.ext y1).ext z1).wipe (own.map (·.2))
    refine sg s0 H0 C cl fp M2 _ h2 _ H3 _ x' _ _ re3 z2 z4 b1 trivial fun M4 H4 σ4 x4 rh4 re4 sm => ⟨wipe_same hsub sm, ?_⟩
    intro s0 H0 C cl fp
    refine sc s0 H0 C cl fp M4 ρ1 h4 σ4 H4 k h5 _ re4 rh4 b3 fun M5 H5 x5 rh5 => ?_
    have d4 : H4 Dd = some (.lst acc) := x4.kept _ _ d3 y4
    have n4 : Dd ∉ M4 := fun hm => by
      obtain ⟨j, hj⟩ := List.mem_iff_getElem?.mp hm
      by_cases hjl : j < M2.length
      · have q1 : M2[j]? = some M2[j] := List.getElem?_eq_getElem hjl
        have q2 := pre_get x4.pre q1
        rw [hj] at q2
        cases q2
        exact y4 (List.mem_of_getElem? q1)
      · have := x4.new j Dd (by omega) hj
        rw [d3] at this; cases this
    have d5 : H5 Dd = some (.lst acc) := x5.kept _ _ d4 n4
    have n5 : Dd ∉ M5 := fun hm => by
      obtain ⟨j, hj⟩ := List.mem_iff_getElem?.mp hm
      by_cases hjl : j < M4.length
      · have q1 : M4[j]? = some M4[j] := List.getElem?_eq_getElem hjl
        have q2 := pre_get x5.pre q1
        rw [hj] at q2
        cases q2
        exact n4 (List.mem_of_getElem? q1)
      · have := x5.new j Dd (by omega) hj
        rw [d4] at this; cases this
    have ex5 : Ext M1 H1 M5 H5 := ((y1.trans z1).trans x4).trans x5
    have ac5 : RVs X.K M5 H5 accd acc := (((y5.ext z1).ext x4).ext x5)
    cases k with
    | false =>
      rw [if_neg Bool.false_ne_true]
      cases b4
      exact ⟨M5, _, accd, acc, rest, ex5, rh5, d5, n5, ac5, Nat.le_succ_of_le y6, by rw [c3]; exact c2, y8⟩
    | true =>
      rw [if_pos rfl]
      obtain ⟨x, h6, b5, b6⟩ := bnn_some b4
      cases b6
      intro s0 H0 C cl fp
      refine se s0 H0 C cl fp M5 ρ1 h5 σ4 H5 _ _ (re4.ext x5) rh5 b5 fun M6 H6 y x6 rh6 rt6 => ?_
      have d6 : H6 Dd = some (.lst acc) := x6.kept _ _ d5 n5
      have n6 : Dd ∉ M6 := fun hm => by
        obtain ⟨j, hj⟩ := List.mem_iff_getElem?.mp hm
        by_cases hjl : j < M5.length
        · have q1 : M5[j]? = some M5[j] := List.getElem?_eq_getElem hjl
          have q2 := pre_get x6.pre q1
          rw [hj] at q2
          cases q2
          exact n5 (List.mem_of_getElem? q1)
        · have := x6.new j Dd (by omega) hj
          rw [d5] at this; cases this
      obtain ⟨M7, p7, x7, rh7, rv7, c7⟩ := rt6.pro rh6 x6
      have n7 : Dd ∉ M7 := fun hm => by
        rcases c7 _ hm with hm | hm
        · exact n6 hm
        · have hfresh : H5 Dd = none := by
            cases rt6 with
            | v q => cases hm
            | l h0 _ _ _ =>
              have := Option.some.inj hm
              subst this
              exact h0
            | d h0 _ _ _ =>
              have := Option.some.inj hm
              subst this
              exact h0
          rw [d5] at hfresh; cases hfresh
      have hal : acc.length < sizeLine := Nat.lt_of_le_of_lt y6 (Nat.lt_of_lt_of_le hlt hlen)
      refine ⟨acc, d6, hal, M7, _, accd ++ [(pro x h6).1], acc ++ [y], zs, (ex5.trans x7).upd' hD, rh7.upd d6 n7, upd_same, n7, ?_, ?_, c2, ?_⟩
      · exact ((ac5.ext x7).append (.cons rv7 .nil)).upd d6
      · rw [List.length_append]; simp only [List.length_cons, List.length_nil]; omega
      · rw [← y8, c3]
        simp
  · have hin : i = n := by omega
    subst hin
    have hd : w.items.drop n = [] := List.drop_of_length_le (Nat.le_refl _)
    rw [hd] at y7
    obtain ⟨hg, rfl, rfl⟩ := compL_nil y7
    refine .inl ⟨wk.stop M2 H2 h2 y1 y2 hg, ?_⟩
    rw [List.append_nil] at y8
    subst y8
    exact fin M2 H2 _ y1 y2 (.l hD y3 y4 y5)
/-- the comprehension's reading -/
theorem lc_reads (hsub : ∀ i ∈ is, i ∈ own.map (·.2)) (si : SI X W tg iter fi) (sg : Blk X scope fun B => SG B W0 is tg ft) (sc : Blk X scope fun B => STs B ifs fc) (se : Blk X scope fun B => SE B W0 elt fe)
    {M : List Addr} {ρ : Env} {h : Hd} {σ : St} {H : Hp} {r : R TV} {Q : VK} (re : RE X.K M H ρ σ) (rh : RH X.K M h H)
    (e : bnd (fi ρ h) (fun w h1 => bnn (compL w.g (lcEl (own.map (·.2)) ft fc fe ρ) w.items h1) fun xs h2 => some (.ok (.l xs) h2)) = some r) (fin : Fin X.K W M σ H r Q) :
    tLc (fun σ H R => RunI X tg iter σ H R) (fun v σ H Q => Blk X scope fun B => RunG B tg v σ H Q) (fun σ H Q => Blk X scope fun B => RunTs B ifs σ H Q) (fun σ H Q => Blk X scope fun B => RunE B elt σ H Q) (own.map (·.2)) σ H Q := by
  by_cases hex : ∃ cc fs' h1, fi ρ h = some (.ex cc fs' h1) ∧ r = .ex cc fs' h1
  · obtain ⟨cc, fs', h1, e1, e2⟩ := hex
    subst e2
    exact si M ρ h σ H _ _ re rh e1 (by exact fin)
  obtain ⟨w, h1, e1, e2⟩ := (bnd_some e).resolve_right hex
  obtain ⟨xs, h', e3, e4⟩ := bnn_some e2
  cases e4
  refine si M ρ h σ H _ _ re rh e1 fun M1 H1 J x1 rh1 wk hlen => ?_
  exact lc_tail hsub sg sc se (re.ext x1) rh1 wk hlen e3 fun M' H' v x2 rh2 rt2 => fin M' H' v (x1.trans x2) rh2 (rt2.back x1.back)
theorem se_lc (hc : X.calm = true) (hN : X.N.Nodup) (ok : BlkOk X.N X.env.scope scope own) (hsub : ∀ i ∈ is, i ∈ own.map (·.2)) (si : SI X W tg iter fi) (sg : Blk X scope fun B => SG B W0 is tg ft) (sc : Blk X scope fun B => STs B ifs fc) (se : Blk X scope fun B => SE B W0 elt fe)
    (hs : ∀ x, foldedSetIterable iter X.env x = pure x) : SE X W (.ListComp elt [⟨tg, iter, ifs, 0⟩] scope pos) (fun ρ h => bnd (fi ρ h) (fun w h1 => bnn (compL w.g (lcEl (own.map (·.2)) ft fc fe ρ) w.items h1) fun xs h2 => some (.ok (.l xs) h2))) := by
  intro M ρ h σ H r Q re rh e fin
  exact RunE.of (pe_lc hc hN RunI.pi ok (fun s H C cl fp => ⟨fun pins s' σ H v u Q I r q => q s _ C cl fp pins s' u I r⟩) (fun s H C cl fp => ⟨fun pins s' σ H Q I q => q s _ C cl fp pins s' I⟩) (fun s H C cl fp => ⟨fun pins s' σ H Q I q => q s _ C cl fp pins s' I⟩) hs) (lc_reads hsub si sg sc se re rh e fin)
end
end Py


set_option Elab.async false
set_option linter.all false
set_option maxRecDepth 100000
set_option maxHeartbeats 1000000
/-! PyR: statements. -/
namespace Py
open PySem PySem.Spec L2
open PyProof.Rows hiding St
def RunS (X : Cx) (st : Stmt) (D : Ends) (σ : St) (H : Hp) : Prop := ∀ (pins : List (Addr × Obj)) (s : Shared), Inv X pins σ H s → wpAny (model X.prog X.w) X.A (exec st X.env) (SP X pins D) X.xe s
theorem RunS.ps {X : Cx} {st : Stmt} : PS X st (fun D σ H => RunS X st D σ H) := ⟨fun pins s σ H D I h => h pins s I⟩
theorem RunS.of {X : Cx} {st : Stmt} {t : TS} (h : PS X st t) {D : Ends} {σ : St} {H : Hp} (q : t D σ H) : RunS X st D σ H := fun pins s I => h.run pins s σ H D I q
def RunSs (X : Cx) (st : List Stmt) (D : Ends) (σ : St) (H : Hp) : Prop := ∀ (pins : List (Addr × Obj)) (s : Shared), Inv X pins σ H s → wpAny (model X.prog X.w) X.A (execs st X.env) (SP X pins D) X.xe s
theorem RunSs.pss {X : Cx} {st : List Stmt} : PSs X st (fun D σ H => RunSs X st D σ H) := ⟨fun pins s σ H D I h => h pins s I⟩
theorem RunSs.of {X : Cx} {st : List Stmt} {t : TS} (h : PSs X st t) {D : Ends} {σ : St} {H : Hp} (q : t D σ H) : RunSs X st D σ H := fun pins s I => h.run pins s σ H D I q
def FinS (K : PySem.W.Frag) (W : WX) (M : List Addr) (H : Hp) (r : RS) (D : Ends) : Prop := match r with
  | .nx ρ' h' => ∀ M' H' σ', Ext M H M' H' → RH K M' h' H' → RE K M' H' ρ' σ' → D.nx σ' H'
  | .rt d h' => ∀ M' H' v, Ext M H M' H' → RH K M' h' H' → RV K M' H' d v → D.rt v H'
  | .ex c fs ρ' h' => ∀ M' H' σ' cls d, Ext M H M' H' → RH K M' h' H' → RE K M' H' ρ' σ' → RX K M' H' c fs cls d → W cls d σ' H'
theorem FinS.mono {K : PySem.W.Frag} {W : WX} {M M1 : List Addr} {H H1 : Hp} {r : RS} {D : Ends} (e : Ext M H M1 H1) (f : FinS K W M H r D) : FinS K W M1 H1 r D := by
  cases r with
  | nx ρ h => exact fun M' H' σ' e' rh re => f M' H' σ' (e.trans e') rh re
  | rt d h => exact fun M' H' v e' rh re => f M' H' v (e.trans e') rh re
  | ex c fs ρ h => exact fun M' H' σ' cls d e' rh re rx => f M' H' σ' cls d (e.trans e') rh re rx
def SS (X : Cx) (W : WX) (st : Stmt) (f : Env → Hd → ResS) : Prop := ∀ (M : List Addr) (ρ : Env) (h : Hd) (σ : St) (H : Hp) (r : RS) (D : Ends),
  RE X.K M H ρ σ → RH X.K M h H → f ρ h = some r → FinS X.K W M H r D → RunS X st D σ H
def SSs (X : Cx) (W : WX) (st : List Stmt) (f : Env → Hd → ResS) : Prop := ∀ (M : List Addr) (ρ : Env) (h : Hd) (σ : St) (H : Hp) (r : RS) (D : Ends),
  RE X.K M H ρ σ → RH X.K M h H → f ρ h = some r → FinS X.K W M H r D → RunSs X st D σ H
theorem bndS_some {α : Type} {ρ : Env} {m : Res α} {f : α → Hd → ResS} {r : RS} (e : bndS ρ m f = some r) : (∃ a h, m = some (.ok a h) ∧ f a h = some r) ∨ ∃ c fs h, m = some (.ex c fs h) ∧ r = .ex c fs ρ h := by
  cases m with
  | none => cases e
  | some q =>
    cases q with
    | ok a h => exact .inl ⟨a, h, rfl, e⟩
    | ex c fs h => exact .inr ⟨c, fs, h, rfl, (Option.some.inj e).symm⟩
theorem bnnS_some {α : Type} {m : Res α} {f : α → Hd → ResS} {r : RS} (e : bnnS m f = some r) : ∃ a h, m = some (.ok a h) ∧ f a h = some r := by
  cases m with
  | none => cases e
  | some q =>
    cases q with
    | ok a h => exact ⟨a, h, rfl, e⟩
    | ex c fs h => cases e
section
variable {X : Cx} {CX : CXT} {L : Nat} {Γ : Tab} {Φ : Calls} {W : WX} {pos p tpos : Pos} {a b o tg : Expr} {es elts : List Expr} {fa fb fc : Env → Hd → Res TV} {fs : Env → Hd → Res (List TV)}
theorem SE.firstS (sa : SE X W a fa) {M : List Addr} {ρ : Env} {h : Hd} {σ : St} {H : Hp} {r : RS} {D : Ends} {Q : VK} {g : TV → Hd → ResS}
    (re : RE X.K M H ρ σ) (rh : RH X.K M h H) (e : bndS ρ (fa ρ h) g = some r) (fin : FinS X.K W M H r D)
    (k : ∀ x h1, g x h1 = some r → ∀ M1 H1 v, Ext M H M1 H1 → RH X.K M1 h1 H1 → RT X.K M1 H H1 x v → RE X.K M1 H1 ρ σ → FinS X.K W M1 H1 r D → Q v H1) : RunE X a σ H Q := by
  rcases bndS_some e with ⟨x, h1, e1, e2⟩ | ⟨cc, fs, h1, e1, e2⟩
  · exact sa M ρ h σ H _ _ re rh e1 fun M1 H1 v x1 rh1 rt => k x h1 e2 M1 H1 v x1 rh1 rt (re.ext x1) (fin.mono x1)
  · subst e2
    exact sa M ρ h σ H _ _ re rh e1 fun M1 H1 cls d x1 rh1 rx => fin M1 H1 σ cls d x1 rh1 (re.ext x1) rx
theorem ss_pass : SS X W (.Pass pos) (fun ρ h => some (.nx ρ h)) := by
  intro M ρ h σ H r D re rh e fin
  cases e
  exact RunS.of ps_pass (fin M H σ (Ext.refl _ _) rh re)
theorem ss_ret (sa : SE X W a fa) : SS X W (.Return (some a) pos) (fun ρ h => bndS ρ (fa ρ h) fun x h1 => some (.rt (pro x h1).1 (pro x h1).2)) := by
  intro M ρ h σ H r D re rh e fin
  refine RunS.of (ps_ret RunE.pe) ?_
  refine sa.firstS re rh e fin fun x h1 e1 M1 H1 v x1 rh1 rt1 re1 fin1 => ?_
  cases e1
  obtain ⟨M2, p2, x2, rh2, rv2, _⟩ := rt1.pro rh1 x1
  exact fin M2 H1 v x2 rh2 rv2
theorem ss_retn : SS X W (.Return none pos) (fun ρ h => some (.rt .non h)) := by
  intro M ρ h σ H r D re rh e fin
  cases e
  exact RunS.of ps_retN (fin M H .non (Ext.refl _ _) rh .non)
theorem ss_ex (sa : SE X W a fa) (hs : swapsWith a none pos.line X.env = pure false) : SS X W (.Expr a pos) (fun ρ h => bndS ρ (fa ρ h) fun _ h1 => some (.nx ρ h1)) := by
  intro M ρ h σ H r D re rh e fin
  refine RunS.of (ps_expr RunE.pe hs) ?_
  refine sa.firstS re rh e fin fun x h1 e1 M1 H1 v x1 rh1 rt1 re1 fin1 => ?_
  cases e1
  exact fin M1 H1 σ x1 rh1 re1
theorem ss_if {c : Expr} {t u : List Stmt} {ft fu : Env → Hd → ResS} (sc : ST X W c fc) (st : SSs X W t ft) (su : SSs X W u fu) : SS X W (.If c t u pos) (fun ρ h => bndS ρ (fc ρ h) fun x h1 => (match x with
    | .v (.bl true) => ft ρ h1
    | .v (.bl false) => fu ρ h1
    | _ => none)) := by
  intro M ρ h σ H r D re rh e fin
  refine RunS.of (ps_if RunT.pt RunSs.pss RunSs.pss) ?_
  rcases bndS_some e with ⟨x, h1, e1, e2⟩ | ⟨cc, fs, h1, e1, e2⟩
  · split at e2
    · refine sc M ρ h σ H _ _ re rh e1 trivial fun b hb M1 H1 x1 rh1 => ?_
      cases hb
      rw [if_pos rfl]
      exact st M1 ρ h1 σ H1 r D (re.ext x1) rh1 e2 (fin.mono x1)
    · refine sc M ρ h σ H _ _ re rh e1 trivial fun b hb M1 H1 x1 rh1 => ?_
      cases hb
      rw [if_neg Bool.false_ne_true]
      exact su M1 ρ h1 σ H1 r D (re.ext x1) rh1 e2 (fin.mono x1)
    · cases e2
  · subst e2
    exact sc M ρ h σ H _ _ re rh e1 trivial fun M1 H1 cls d x1 rh1 rx => fin M1 H1 σ cls d x1 rh1 (re.ext x1) rx
theorem sss_nil : SSs X W [] (fun ρ h => some (.nx ρ h)) := by
  intro M ρ h σ H r D re rh e fin
  cases e
  exact RunSs.of pss_nil (fin M H σ (Ext.refl _ _) rh re)
theorem sss_cons {st : Stmt} {rest : List Stmt} {f g : Env → Hd → ResS} (s1 : SS X W st f) (s2 : SSs X W rest g) : SSs X W (st :: rest) (fun ρ h => thenS (f ρ h) fun ρ1 h1 => g ρ1 h1) := by
  intro M ρ h σ H r D re rh e fin
  refine RunSs.of (pss_cons RunS.ps RunSs.pss) ?_
  change thenS (f ρ h) (fun ρ1 h1 => g ρ1 h1) = some r at e
  cases q : f ρ h with
  | none => rw [q] at e; cases e
  | some r1 =>
    rw [q] at e
    cases r1 with
    | nx ρ1 h1 => exact s1 M ρ h σ H _ _ re rh q fun M1 H1 σ1 x1 rh1 re1 => s2 M1 ρ1 h1 σ1 H1 r D re1 rh1 e (fin.mono x1)
    | rt d h1 => cases e; exact s1 M ρ h σ H _ _ re rh q fin
    | ex c fs' ρ1 h1 => cases e; exact s1 M ρ h σ H _ _ re rh q fin
theorem sss_one {st : Stmt} {f : Env → Hd → ResS} (s1 : SS X W st f) : SSs X W [st] (fun ρ h => thenS (f ρ h) fun ρ1 h1 => some (.nx ρ1 h1)) := sss_cons s1 sss_nil
/-! ### assignments -/
theorem ss_asg {is : List Nat} {g : D → Env → Hd → Res Env} (sa : SE X W a fa) (sg : SG X W is tg g) (hs : swapsWithSole [tg] a pos.line X.env = pure false) (hw : swappedStores [tg] a X.env = pure none) (h1 : (assignEach [tg] X.env).map (·.2) = [assign tg X.env]) :
    SS X W (.Assign [tg] a pos) (fun ρ h => bndS ρ (fa ρ h) fun x h1 => bnnS (g (pro x h1).1 ρ (pro x h1).2) fun ρ1 h2 => some (.nx ρ1 h2)) := by
  intro M ρ h σ H r D re rh e fin
  refine RunS.of (ps_asg RunE.pe RunG.pg hs hw h1) ?_
  refine sa.firstS re rh e fin fun x h1 e1 M1 H1 v x1 rh1 rt1 re1 fin1 => ?_
  obtain ⟨ρ1, h2, e2, e3⟩ := bnnS_some e1
  cases e3
  obtain ⟨M2, p2, x2, rh2, rv2, _⟩ := rt1.pro rh1 x1
  have re2 : RE X.K M2 H1 ρ σ := ⟨re1.len, fun i d hh => let ⟨w, g1, g2⟩ := re1.get i d hh; ⟨w, g1, g2.pre p2⟩⟩
  exact sg M2 ρ _ σ H1 _ v _ _ re2 rh2 rv2 e2 trivial fun M3 H3 σ3 x3 rh3 re3 _ => fin M3 H3 σ3 (x2.trans x3) rh3 re3
/-- name = [..] on one line -/
theorem ss_asgLc {scope : Scope} {own : List (Str × Nat)} {elt iter tg0 : Expr} {ifs : List Expr} {lpos npos : Pos} {i : Nat} {y : Str} {is : List Nat} {fi : Env → Hd → Res Wk} {ft : D → Env → Hd → Res Env} {fcc : Env → Hd → Res Bool} {fe : Env → Hd → Res TV}
    (hc : X.calm = true) (hN : X.N.Nodup) (hy : X.N[i]? = some y) (hyl : X.env.scope.names.lookup y = some .local) (hsw : swapsWith (.ListComp elt [⟨tg0, iter, ifs, 0⟩] scope lpos) (some (.Name y npos)) pos.line X.env = pure true)
    (ok : BlkOk X.N X.env.scope scope own) (hsub : ∀ i ∈ is, i ∈ own.map (·.2)) (si : SI X W tg0 iter fi) (sg : Blk X scope fun B => SG B W0 is tg0 ft) (sc : Blk X scope fun B => STs B ifs fcc) (se : Blk X scope fun B => SE B W0 elt fe)
    (hs : ∀ x, foldedSetIterable iter X.env x = pure x) : SS X W (.Assign [.Name y npos] (.ListComp elt [⟨tg0, iter, ifs, 0⟩] scope lpos) pos)
      (fun ρ h => bndS ρ (bnd (fi ρ h) (fun w h1 => bnn (compL w.g (lcEl (own.map (·.2)) ft fcc fe ρ) w.items h1) fun xs h2 => some (.ok (.l xs) h2))) fun x h1 => bnnS (some (.ok (ρ.set i (some (pro x h1).1)) (pro x h1).2)) fun ρ1 h2 => some (.nx ρ1 h2)) := by
  intro M ρ h σ H r D re rh e fin
  refine RunS.of (ps_setLc (wi := fun σ H R => RunI X tg0 iter σ H R) (g := fun v σ H Q => Blk X scope fun B => RunG B tg0 v σ H Q) (tt := fun σ H Q => Blk X scope fun B => RunTs B ifs σ H Q) (te := fun σ H Q => Blk X scope fun B => RunE B elt σ H Q) hc hN hy hyl hsw RunI.pi ok (fun s H C cl fp => ⟨fun pins s' σ H v u Q I r q => q s _ C cl fp pins s' u I r⟩) (fun s H C cl fp => ⟨fun pins s' σ H Q I q => q s _ C cl fp pins s' I⟩) (fun s H C cl fp => ⟨fun pins s' σ H Q I q => q s _ C cl fp pins s' I⟩) hs) ?_
  rcases bndS_some e with ⟨x, h1, e1, e2⟩ | ⟨cc, fs, h1, e1, e2⟩
  · simp only [bnnS_ok] at e2
    cases e2
    refine lc_reads hsub si sg sc se re rh e1 fun M1 H1 v x1 rh1 rt1 => ?_
    obtain ⟨M2, p2, x2, rh2, rv2, _⟩ := rt1.pro rh1 x1
    have re2 : RE X.K M2 H1 ρ σ := ⟨re.len, fun i d hh => let ⟨w, g1, g2⟩ := (re.ext x1).get i d hh; ⟨w, g1, g2.pre p2⟩⟩
    exact fin M2 H1 _ x2 rh2 (re2.set rv2)
  · subst e2
    exact lc_reads hsub si sg sc se re rh e1 fun M1 H1 cls d x1 rh1 rx => fin M1 H1 σ cls d x1 rh1 (re.ext x1) rx
/-- two names at once -/
theorem ss_par {i j : Nat} {x y : Str} {px py pt : Pos} {kt k2 : Nat} {pt2 : Pos} (hc : X.calm = true) (hN : X.N.Nodup) (hi : X.N[i]? = some x) (hj : X.N[j]? = some y) (hij : i ≠ j) (hx : X.env.scope.names.lookup x = some .local) (hy : X.env.scope.names.lookup y = some .local)
    (sa : SA X W [a, b] fs) (hw : swappedStores [.Tuple [.Name x px, .Name y py] kt pt] (.Tuple [a, b] k2 pt2) X.env = pure (some [x, y])) :
    SS X W (.Assign [.Tuple [.Name x px, .Name y py] kt pt] (.Tuple [a, b] k2 pt2) pos) (fun ρ h => bndS ρ (fs ρ h) fun xs h1 => (match decide ([i, j].length = xs.length) with
    | true => some (.nx (setAll [i, j] (pros xs h1).1 ρ) (pros xs h1).2)
    | false => none)) := by
  intro M ρ h σ H r D re rh e fin
  refine RunS.of (ps_par hc hN hi hj hij hx hy RunA.pa hw rfl) ?_
  rcases bndS_some e with ⟨xs, h1, e1, e2⟩ | ⟨cc, fs', h1, e1, e2⟩
  · split at e2
    · rename_i hl
      cases e2
      have hl2 : 2 = xs.length := by simpa using hl
      refine sa M ρ h σ H _ _ re rh e1 fun M1 H1 vs x1 rh1 rs => ?_
      obtain ⟨M2, p2, x2, rh2, q2⟩ := RTs.pros rs rh1 x1
      have re2 : RE X.K M2 H1 ρ σ := ⟨re.len, fun i d hh => let ⟨w, g1, g2⟩ := (re.ext x1).get i d hh; ⟨w, g1, g2.pre p2⟩⟩
      match xs, hl2, rs, q2 with
      | [u, w], _, rs, q2 =>
        cases rs with
        | cons r1 rs1 _ =>
          cases rs1 with
          | cons r2 rs2 _ =>
            cases rs2
            simp only [pros] at q2
            cases q2 with
            | cons a1 q3 =>
              cases q3 with
              | cons a2 q4 => exact ⟨_, _, rfl, fin M2 H1 _ x2 rh2 ((re2.set a1).set a2)⟩
    · cases e2
  · subst e2
    exact sa M ρ h σ H _ _ re rh e1 fun M1 H1 cls d x1 rh1 rx => fin M1 H1 σ cls d x1 rh1 (re.ext x1) rx
/-! ### op= -/
def ipAll (X : Cx) (op : Operator) : TIp := fun x y H Q => ∃ t : TIp, PIp X op t ∧ t x y H Q
theorem ip_all {op : Operator} : PIp X op (ipAll X op) := fun pins s σ H x y v u Q I rx ry ⟨t, ht, q⟩ => ht pins s σ H x y v u Q I rx ry q
theorem augF_ok {op : BOp} {d z : D} {y : TV} {x vy : V} {M : List Addr} {H0 H : Hp} {Q : VK} (e : augF op d y = some z) (rx : RV X.K M H d x) (ry : RT X.K M H0 H y vy) (k : ∀ v, RV X.K M H z v → Q v H) : ipAll X (opr op) x vy H Q := by
  unfold augF at e
  split at e
  · cases e
    cases rx; cases ry with | v ry => cases ry; exact ⟨_, iop_add, _, _, rfl, rfl, k _ (.int _)⟩
  · cases e
    cases rx; cases ry with | v ry => cases ry; exact ⟨_, iop_sub, _, _, rfl, rfl, k _ (.int _)⟩
  · split at e
    · rename_i hc
      cases e
      cases rx; cases ry with | v ry => cases ry; exact ⟨_, iop_mul, _, _, rfl, rfl, by unfold CMul; omega, k _ (.int _)⟩
    · cases e
  · split at e
    · rename_i hc
      cases e
      cases rx; cases ry with | v ry => cases ry; exact ⟨_, iop_fdiv, _, _, rfl, rfl, hc, k _ (.int _)⟩
    · cases e
  · split at e
    · rename_i hc
      cases e
      cases rx; cases ry with | v ry => cases ry; exact ⟨_, iop_mod, _, _, rfl, rfl, hc, k _ (.int _)⟩
    · cases e
  · split at e
    · rename_i hc
      cases e
      cases rx; cases ry with | v ry => cases ry; exact ⟨_, iop_add_str, _, _, rfl, rfl, by rw [← line_eq]; exact hc, k _ (.str _)⟩
    · cases e
  · cases e
theorem ss_aug {op : BOp} {i : Nat} {x : Str} {npos : Pos} (hN : X.N.Nodup) (hi : X.N[i]? = some x) (hx : Loc X.env.scope x) (hf : X.fn x = true ∨ X.env.scope.names.lookup x = some .local) (sa : SE X W a fa) : SS X W (.AugAssign (.Name x npos) (opr op) a pos) (fun ρ h => (match ρ[i]? with
    | some (some d) => bndS ρ (fa ρ h) fun y h1 => bndS ρ (lift (augF op d y) h1) fun z h2 => some (.nx (ρ.set i (some z)) h2)
    | _ => none)) := by
  intro M ρ h σ H r D re rh e fin
  refine RunS.of (ps_aug hN hi hx RunE.pe ip_all hf) ?_
  cases q : ρ[i]? with
  | none => simp only [q] at e; cases e
  | some o =>
    cases o with
    | none => simp only [q] at e; cases e
    | some d =>
      simp only [q] at e
      obtain ⟨v, g1, g2⟩ := re.get i d q
      refine ⟨v, g1, ?_⟩
      refine sa.firstS re rh e fin fun y h1 e1 M1 H1 u x1 rh1 rt1 re1 fin1 => ?_
      rcases bndS_some e1 with ⟨z, h2, e2, e3⟩ | ⟨cc, fs', h2, e2, e3⟩
      · obtain ⟨z', e4, e5⟩ := lift_ok e2
        cases e5
        cases e3
        exact augF_ok e4 (g2.ext x1) rt1 fun w rw => fin M1 H1 _ x1 rh1 (re1.set rw)
      · obtain ⟨z', e4, e5⟩ := lift_ok e2
        cases e5
/-! ### for -/
theorem forL_cons {g : Gd} {st : D → Env → Hd → ResS} {x : D} {xs : List D} {ρ : Env} {h : Hd} {r : RS} (e : forL g st (x :: xs) ρ h = some r) : g.ok h ∧ thenS (st x ρ h) (fun ρ' h' => forL g st xs ρ' h') = some r := by
  unfold forL at e
  split at e
  · rename_i hg
    exact ⟨hg, e⟩
  · cases e
theorem forL_nil {g : Gd} {st : D → Env → Hd → ResS} {ρ : Env} {h : Hd} {r : RS} (e : forL g st [] ρ h = some r) : g.ok h ∧ r = .nx ρ h := by
  unfold forL at e
  split at e
  · rename_i hg
    cases e
    exact ⟨hg, rfl⟩
  · cases e
theorem ss_for {iter : Expr} {body : List Stmt} {is : List Nat} {fi : Env → Hd → Res Wk} {g : D → Env → Hd → Res Env} {fb' : Env → Hd → ResS} (hp : PassesOwn (model X.prog X.w) X.A X.env X.xe) (hc : X.calm = true) (si : SI X W tg iter fi) (sg : SG X W is tg g) (sb : SSs X W body fb')
    (hs : ∀ x, foldedSetIterable iter X.env x = pure x) : SS X W (.For tg iter body [] pos) (fun ρ h => bndS ρ (fi ρ h) fun w h1 => forL w.g (fun d ρ h => bnnS (g d ρ h) fun ρ1 h2 => fb' ρ1 h2) w.items ρ h1) := by
  intro M ρ h σ H r D re rh e fin
  refine RunS.of (ps_for hp hc RunI.pi RunG.pg RunSs.pss hs) ?_
  by_cases hex : ∃ cc fs' h1, fi ρ h = some (.ex cc fs' h1) ∧ r = .ex cc fs' ρ h1
  · obtain ⟨cc, fs', h1, e1, e2⟩ := hex
    subst e2
    exact si M ρ h σ H _ _ re rh e1 fun M1 H1 cls d x1 rh1 rx => fin M1 H1 σ cls d x1 rh1 (re.ext x1) rx
  obtain ⟨w, h1, e1, e2⟩ := (bndS_some e).resolve_right hex
  refine si M ρ h σ H _ _ re rh e1 fun M1 H1 J x1 rh1 wk hlen => ?_
  let n := w.items.length
  let Pv : Nat → St → Hp → Prop := fun i σ2 H2 => ∃ M2 h2 ρ2, Ext M1 H1 M2 H2 ∧ RH X.K M2 h2 H2 ∧ RE X.K M2 H2 ρ2 σ2 ∧ forL w.g (fun d ρ h => bnnS (g d ρ h) fun ρ1 h2 => fb' ρ1 h2) (w.items.drop i) ρ2 h2 = some r
  refine ⟨fun i m σ2 H2 => m = n - i ∧ i ≤ n ∧ Pv i σ2 H2, ⟨n, by simp, Nat.zero_le _, M1, h1, ρ, Ext.refl _ _, rh1, re.ext x1, e2⟩, ?_⟩
  rintro i m σ2 H2 ⟨rfl, hi, M2, h2, ρ2, y1, y2, y3, y4⟩
  by_cases hlt : i < n
  · have hdrop : w.items.drop i = w.items[i] :: w.items.drop (i + 1) := List.drop_eq_getElem_cons hlt
    rw [hdrop] at y4
    obtain ⟨hg, e3⟩ := forL_cons y4
    refine .inr ⟨wk.go i M2 H2 h2 hlt y1 y2 hg, Pv (i + 1), fun σ' H' p' => ⟨n - (i + 1), by omega, rfl, hlt, p'⟩, fun x' H3 hy => ?_⟩
    obtain ⟨z1, z2, d, z3, z4⟩ := wk.yld i M2 H2 h2 x' H3 hlt y1 y2 hg hy
    have ed : d = w.items[i] := by
      rw [List.getElem?_eq_getElem hlt] at z3
      exact (Option.some.inj z3).symm
    subst ed
    cases q : (bnnS (g w.items[i] ρ2 h2) fun ρ1 h2 => fb' ρ1 h2) with
    | none => rw [q] at e3; cases e3
    | some r1 =>
      rw [q] at e3
      obtain ⟨ρ3, h3, c1, c2⟩ := bnnS_some q
      refine sg M2 ρ2 h2 σ2 H3 _ x' _ _ (y3.ext z1) z2 z4 c1 trivial fun M4 H4 σ4 x4 rh4 re4 _ => ?_
      cases r1 with
      | nx ρ5 h5 => exact sb M4 ρ3 h3 σ4 H4 _ _ re4 rh4 c2 fun M5 H5 σ5 x5 rh5 re5 => ⟨M5, h5, ρ5, ((y1.trans z1).trans x4).trans x5, rh5, re5, e3⟩
      | rt d5 h5 =>
        cases e3
        exact sb M4 ρ3 h3 σ4 H4 _ _ re4 rh4 c2 fun M5 H5 v x5 rh5 rv5 => fin M5 H5 v ((((x1.trans y1).trans z1).trans x4).trans x5) rh5 rv5
      | ex c5 fs5 ρ5 h5 =>
        cases e3
        exact sb M4 ρ3 h3 σ4 H4 _ _ re4 rh4 c2 fun M5 H5 σ5 cls dd x5 rh5 re5 rx => fin M5 H5 σ5 cls dd ((((x1.trans y1).trans z1).trans x4).trans x5) rh5 re5 rx
  · have hin : i = n := by omega
    subst hin
    have hd : w.items.drop n = [] := List.drop_of_length_le (Nat.le_refl _)
    rw [hd] at y4
    obtain ⟨hg, rfl⟩ := forL_nil y4
    exact .inl ⟨wk.stop M2 H2 h2 y1 y2 hg, fin M2 H2 σ2 (x1.trans y1) y2 y3⟩
end
end Py


set_option Elab.async false
set_option linter.all false
set_option maxRecDepth 100000
set_option maxHeartbeats 4000000
/-! PyM: [::-1], isinstance of two classes, list and tuple of ranges, sorted(set(..)). -/
namespace Py
open PySem PySem.Spec L2
open PyProof.Rows hiding St
/-! ### [::-1] -/
section
variable {prog : Program} {w : World} {A : Around} {E : Value → Shared → Prop} {s : Shared}
theorem back_places (n : Nat) : Builtin.Slice.slicePlaces ((n : Int) - 1) (-1) (-1) = n := by
  unfold Builtin.Slice.slicePlaces
  have h1 : ¬ ((-1 : Int) > 0) := by decide
  simp only [h1, if_false]
  have e : (-(-1 : Int)) = 1 := by decide
  rw [e, Int.ediv_one]
  split <;> omega
theorem back_applied {sl : Addr} {vl vu vs : Value} {n : Nat} {Q : Int × Int × Nat → Shared → Prop} (hs : s.heap.IsSliceOf sl vl vu vs) (pl : IsPart vl none) (pu : IsPart vu none) (ps : IsPart vs (some (-1)))
    (h : Q ((n : Int) - 1, -1, n) s) : wpAny (model prog w) A (Builtin.Slice.sliceApplied (.ref sl) (pure (n : Int))) Q E s := by
  obtain ⟨o, ho, _, hf⟩ := id hs
  unfold Builtin.Slice.sliceApplied Builtin.Slice.sliceFields
  refine wpAny_bind (wpAny_bind (wpAny_field ho hf (x := vl) rfl (wpAny_bind (wpAny_field ho hf (x := vu) rfl (wpAny_bind (wpAny_field ho hf (x := vs) rfl (wpAny_pure ?_)))))))
  refine wpAny_bind (HT.slicePart_ ps ?_)
  show wpAny _ _ (if ((-1 : Int) == 0) = true then _ else _) _ _ s
  rw [if_neg (by decide)]
  refine wpAny_bind (HT.slicePart_ pl (wpAny_bind (HT.slicePart_ pu (wpAny_bind (wpAny_pure ?_)))))
  show wpAny _ _ (pure ((n : Int) - 1, (-1 : Int), Builtin.Slice.slicePlaces ((n : Int) - 1) (-1) (-1))) _ _ s
  rw [back_places]
  exact wpAny_pure h
theorem fm_same {α β : Type} {f g : α → Option β} : ∀ {l : List α}, (∀ x ∈ l, f x = g x) → l.filterMap f = l.filterMap g
  | [], _ => rfl
  | x :: l, h => by
    rw [List.filterMap_cons, List.filterMap_cons, h x List.mem_cons_self, fm_same fun y hy => h y (List.mem_cons_of_mem _ hy)]
theorem back_pick (xs : Array Value) : ((List.range xs.size).filterMap fun (m : Nat) => xs[(((xs.size : Nat) : Int) - 1 + (m : Int) * (-1)).toNat]?).toArray = xs.toList.reverse.toArray := by
  have e : ((List.range xs.size).filterMap fun (m : Nat) => xs[(((xs.size : Nat) : Int) - 1 + (m : Int) * (-1)).toNat]?) = ((List.range xs.size).map fun k => xs.size - 1 - k).filterMap (xs[·]?) := by
    rw [List.filterMap_map]
    refine fm_same fun m hm => ?_
    have := List.mem_range.mp hm
    have e2 : (((xs.size : Nat) : Int) - 1 + (m : Int) * (-1)).toNat = xs.size - 1 - m := by omega
    rw [e2]
    try rfl
  rw [e, PySem.W.krv_range, List.filterMap_reverse, PySem.W.krv_all]
theorem back_tuple {t sl : Addr} {items : Array Value} {vl vu vs : Value} {Q : Value → Shared → Prop} (ht : IsTup s.heap t items) (hs : s.heap.IsSliceOf sl vl vu vs) (pl : IsPart vl none) (pu : IsPart vu none) (ps : IsPart vs (some (-1)))
    (h : Q (.ref s.heap.objs.size) { s with heap := s.heap.push { cls := .type "tuple", data := .seq items.toList.reverse.toArray } }) (hsz : items.size ≤ sizeLine) : wpAny (model prog w) A (getItem (.ref t) (.ref sl)) Q E s := by
  have hz : sizeOk (.seq items.toList.reverse.toArray) := by
    show items.toList.reverse.toArray.size ≤ sizeLine
    rw [List.size_toArray, List.length_reverse, Array.length_toList]
    exact hsz
  obtain ⟨o, ho, hc, _⟩ := id hs
  have hT : s.TypeIs (.ref sl) "slice" := ⟨o, ho, hc⟩
  unfold getItem
  try with_reducible refine wpAny_holding ?_
  first | refine wpAny_bind (wpAny_pure ?_) | skip
  refine wpAny_bind (wpAny_sequenceKey ht.typeIs (by decide) ?_)
  refine wpAny_bind (wpAny_callSpecial?_slot (name := Str.ofString "__getitem__") ht.typeIs PyProof.Rows.slot_tuple_getitem
    (wpAny_call_entry PyProof.Rows.slot_tuple_getitem ht.typeIs PyProof.Rows.entry_tuple_getitem ?_ (PyProof.Rows.args_tuple_getitem _ _)))
  show wpAny _ _ (Builtin.Tuple.tupleItemsOf (.ref t) >>= _) _ _ s
  refine wpAny_bind (tupleItemsOf_ ht ?_)
  refine wpAny_bind (wpAny_typeOf hT ?_)
  rw [if_pos (by decide)]
  refine wpAny_bind (back_applied hs pl pu ps ?_)
  have hno : ¬ ((((items.size : Nat) : Int) - 1 == 0 && (-1 : Int) == 1 && items.size == items.size) = true) := by
    intro q
    rw [Bool.and_eq_true, Bool.and_eq_true] at q
    exact absurd (eq_of_beq q.1.2) (by decide)
  show wpAny _ _ (if (((items.size : Nat) : Int) - 1 == 0 && (-1 : Int) == 1 && items.size == items.size) = true then _ else _) _ _ s
  rw [if_neg hno, back_pick]
  first
    | exact wpAny_bind (m := Builtin.Tuple.tupleExact _) (wpAny_newObj_type (wpAny_pure ⟨_, rfl, wpAny_pure h⟩) hz)
    | exact wpAny_bind (m := Builtin.Tuple.tupleExact _) (wpAny_newObj_type (wpAny_bind (wpAny_pure (wpAny_pure ⟨_, rfl, wpAny_pure h⟩))) hz)
    | exact wpAny_bind (wpAny_bind (m := Builtin.Tuple.tupleExact _) (wpAny_newObj_type (wpAny_pure (wpAny_pure ⟨_, rfl, wpAny_pure h⟩)) hz))
    | exact wpAny_bind (wpAny_bind (m := Builtin.Tuple.tupleExact _) (wpAny_newObj_type (wpAny_pure ⟨_, rfl, wpAny_pure h⟩) hz))
end
def tRevA (K : PySem.W.Frag) (te : TE) : TE := fun σ H Q => te σ H fun x H1 => ∃ a xs, x = .ref a ∧ ((SqL K H1 a xs ∧ ∀ p, H1 p = none → Q (.ref p) (upd H1 p (.lst xs.reverse))) ∨ (SqT K H1 a xs ∧ ∀ p, H1 p = none → Q (.ref p) (upd H1 p (.tup xs.reverse))))
section
variable {X : Cx} {CX : CXT} {L : Nat} {Γ : Tab} {Φ : Calls} {W : WX} {pos p p2 p3 pt apos : Pos} {a o : Expr} {es : List Expr} {fa : Env → Hd → Res TV} {fs : Env → Hd → Res (List TV)}
theorem pe_revA {e : Expr} {te : TE} {k : Nat} {p1 p2 p3 pos : Pos} (he : PE X e te) : PE X (.Subscript e (.Slice none none (some (.UnaryOp .USub (.Constant (.int 1) k p1) p2)) p3) pos) (tRevA X.K te) := by
  refine ⟨fun pins s σ H Q I h => ?_⟩
  refine Subscript_ (thn (he.run pins s σ H _ I h) fun v s1 ⟨x, H1, I1, r1, q1⟩ => ?_)
  obtain ⟨a, xs, rfl, q⟩ := q1
  cases r1
  have step : PO X (some (.UnaryOp .USub (.Constant (.int 1) k p1) p2)) (tPart (tUn (rU fun i => .int (-i)) (tC (.int 1)))) := po_some (pe_un un_neg pe_int)
  refine wpAny_Slice (thn (po_none.run pins s1 σ H1 (fun o H2 => o = none ∧ H2 = H1) I1 ⟨rfl, rfl⟩) fun vl s2 ⟨l, H2, I2, pl, el, e2⟩ => ?_)
  subst el e2
  refine thn (po_none.run pins s2 σ H2 (fun o H3 => o = none ∧ H3 = H2) I2 ⟨rfl, rfl⟩) fun vu s3 ⟨u, H3, I3, pu, eu, e3⟩ => ?_
  subst eu e3
  refine thn (step.run pins s3 σ H3 (fun o H4 => o = some (-1) ∧ H4 = H3) I3 ⟨1, rfl, -1, rfl, rfl, rfl⟩) fun vs s4 ⟨o, H4, I4, ps, eo, e4⟩ => ?_
  subst eo e4
  have J : Inv X pins σ H4 { s4 with heap := s4.heap.push { cls := .type "slice", data := .fields #[vl, vu, vs] } } := I4.kept (t' := s4.toks) fun b ob q => Heap.get?_push_of_some _ q
  show wpAny (model X.prog X.w) X.A (subscriptTail e (.Slice none none (some (.UnaryOp .USub (.Constant (.int 1) k p1) p2)) p3) (.ref a) (.ref s4.heap.objs.size)) (EP X pins σ Q) X.xe { s4 with heap := s4.heap.push { cls := .type "slice", data := .fields #[vl, vu, vs] } }
  rcases q with ⟨hx, q⟩ | ⟨hx, q⟩
  · obtain ⟨its, r, ht, hz⟩ := J.list hx
    have hlen := r.length
    refine tail_any (ops := [.ref a, .ref s4.heap.objs.size]) ht.isList.typeIs (PySem.slot_list_getitem.lookup) ?_ (by with_unfolding_all rfl)
    refine wpAny_getItem_list_slice ht.isList (Heap.IsSliceOf.new _ vl vu vs) pl pu ps (by decide) ?_ (by rw [List.size_toArray]; omega)
    rw [PySem.W.krv_pick]
    refine ⟨.ref _, _, J.laid (t' := s4.toks) (o := .lst xs.reverse) (fun b ob q => Heap.get?_push_of_some _ q) (Nat.le_refl _) ?_, rfl, q _ (J.hok.fresh (Nat.le_refl _))⟩
    exact ⟨by rw [List.length_reverse]; exact hz, _, 0, r.reverse, Heap.get?_push_size _ rfl⟩
  · obtain ⟨its, r, ht, hz⟩ := J.tuple hx
    have hlen := r.length
    refine tail_any (ops := [.ref a, .ref s4.heap.objs.size]) ht.typeIs PyProof.Rows.slot_tuple_getitem.lookup ?_ (by with_unfolding_all rfl)
    refine back_tuple ht (Heap.IsSliceOf.new _ vl vu vs) pl pu ps ?_ (by rw [List.size_toArray]; omega)
    refine ⟨.ref _, upd H4 _ (.tup xs.reverse), J.laid (t' := s4.toks) (o := .tup xs.reverse) (fun b ob q => Heap.get?_push_of_some _ q) (Nat.le_refl _) ?_, rfl, q _ (J.hok.fresh (Nat.le_refl _))⟩
    exact ⟨by rw [List.length_reverse]; exact hz, _, r.reverse, IsTup.new _ _⟩
theorem se_rev {k : Nat} {p1 : Pos} (sa : SE X W a fa) : SE X W (.Subscript a (.Slice none none (some (.UnaryOp .USub (.Constant (.int 1) k p1) p2)) p3) pos) (fun ρ h => bnd (fa ρ h) fun x h1 => lift (revF x h1) h1) := by
  intro M ρ h σ H r Q re rh e fin
  refine RunE.of (pe_revA RunE.pe) ?_
  refine sa.first re rh e fin fun x h1 e1 M1 H1 v x1 rh1 rt1 re1 fin1 => ?_
  obtain ⟨z, e3, rfl⟩ := lift_ok e1
  unfold revF at e3
  split at e3
  · cases e3
    obtain ⟨a, vs, rfl, hs, rv⟩ := tup_at rt1
    refine ⟨a, vs, rfl, .inr ⟨hs, fun p hp => ?_⟩⟩
    obtain ⟨g1, g2, g3⟩ := newT rh1 hp rv.rev
    exact fin1 M1 _ _ g1 g2 g3
  · obtain ⟨xs, e4, rfl⟩ := Option.map_eq_some_iff.mp e3
    obtain ⟨a, vs, rfl, hs, rv⟩ := lstOf_at rh1 rt1 e4
    refine ⟨a, vs, rfl, .inl ⟨hs, fun p hp => ?_⟩⟩
    obtain ⟨g1, g2, g3⟩ := newL rh1 (fun _ z => z) hp rv.rev
    exact fin1 M1 _ _ g1 g2 g3
/-! ### isinstance(x, (T, U)) -/
structure IsiOk (Γ : Tab) (cs : List String) (T : String) : Prop where
  kits : ∀ t ∈ isiTs, (t, T, (t == T || (t == "bool" && T == "int"))) ∈ Γ.kits
  own : ∀ t ∈ isiTs, Γ.cls.contains t = false
  nn : T ≠ "NoneType"
  cs : ∀ c ∈ cs, c ∈ Γ.cls ∧ (c, T, T == c) ∈ Γ.kits
  name : (T ∈ Γ.cls ∧ (sO T == ("__debug__" : Str)) = false) ∨ (Γ.cls.contains T = false ∧ T ∈ ["bool", "int", "str", "tuple", "list", "dict"] ∧ T ∈ Γ.free)
theorem isi_core (Y : Hy CX L Γ Φ X) {ts cs : List String} (hT : ∀ T ∈ ts, IsiOk Γ cs T) (hc : ∀ c ∈ cs, c ∈ Γ.cls) {x z : TV} {h : Hd} {M : List Addr} {H0 H : Hp} {v : V} (e : isiF cs ts x h = some z) (rh : RH X.K M h H) (rt : RT X.K M H0 H x v) :
    ∃ (t : Value) (f : String → Bool), TyX X.K H v t ∧ z = .v (.bl (ts.any f)) ∧ ∀ T ∈ ts, PySem.W.kitOne X.K t (kOf X.K Γ.cls T) = some (f T) := by
  have hcs2 : ∀ c, insOf x h = some c → c ∈ cs := fun c q => by
    unfold isiF at e
    rw [q] at e
    simp only at e
    split at e
    · rename_i hh
      exact List.contains_iff_mem.mp hh
    · cases e
  have hl : lkd x h = false := by
    cases q : lkd x h with
    | false => rfl
    | true =>
      unfold isiF at e
      have : insOf x h = none := by
        unfold lkd at q
        split at q
        · split at q
          · rename_i n _ hn
            simp only [insOf, hn]
          · cases q
        · cases q
      rw [this] at e
      simp only [q, if_true] at e
      cases e
  rcases tyX_of Y rh rt (fun c q => hc c (hcs2 c q)) hl with ⟨c, hi, ty⟩ | ⟨hi, t, ty, ht⟩
  · unfold isiF at e
    rw [hi] at e
    simp only [List.contains_iff_mem.mpr (hcs2 c hi), if_true] at e
    cases e
    refine ⟨_, fun T => T == c, ty, rfl, fun T hT2 => ?_⟩
    have hm := (hT T hT2).cs c (hcs2 c hi)
    have := Y.kit _ hm.2
    simp only [kOf] at this
    rw [if_pos (List.contains_iff_mem.mpr hm.1)] at this
    exact this
  · unfold isiF at e
    rw [hi] at e
    simp only [hl] at e
    cases e
    refine ⟨_, fun T => isTy x h T, ty, rfl, fun T hT2 => ?_⟩
    have I := hT T hT2
    have kt : ∀ t, t ∈ isiTs → PySem.W.kitOne X.K (.type t) (kOf X.K Γ.cls T) = some (t == T || (t == "bool" && T == "int")) := fun t ht => by
      have := Y.kit _ (I.kits t ht)
      simp only [kOf, I.own t ht, Bool.false_eq_true, if_false] at this
      exact this
    have fin : ∀ b, isTy x h T = b → b = (t == T || (t == "bool" && T == "int")) → t ∈ isiTs → PySem.W.kitOne X.K (.type t) (kOf X.K Γ.cls T) = some (isTy x h T) := fun b eb et hm => by
      rw [eb, et]; exact kt t hm
    rcases ht with ⟨rfl, q⟩ | ⟨rfl, q⟩ | ⟨ht, q⟩
    · refine fin _ (q T) ?_ (by simp [isiTs])
      have : ("NoneType" == T) = false := beq_eq_false_iff_ne.mpr fun z => I.nn z.symm
      simp [this]
    · refine fin _ (q T) ?_ (by simp [isiTs])
      rw [show (T == "bool") = ("bool" == T) from BEq.comm]
      simp
    · refine fin _ (q T) ?_ (by rcases ht with rfl | rfl | rfl | rfl | rfl <;> simp [isiTs])
      have h1 : (t == "bool") = false := by rcases ht with rfl | rfl | rfl | rfl | rfl <;> decide
      rw [show (T == t) = (t == T) from BEq.comm, h1]
      simp
theorem cls_name (Y : Hy CX L Γ Φ X) {T : String} {cs : List String} (I : IsiOk Γ cs T) (hg : Gl X (sO T)) : ∃ cv, ClsV cv (kOf X.K Γ.cls T) ∧ PE X (.Name (sO T) p2) (tC cv) := by
  rcases I.name with ⟨hk, hdb⟩ | ⟨h1, h2, h3⟩
  · obtain ⟨f, hm, _, _⟩ := Y.mkr T hk
    refine ⟨.ref (He.ga X.K (sO T)), ?_, pe_glob hg hm rfl hdb⟩
    unfold kOf
    rw [if_pos (List.contains_iff_mem.mpr hk)]
    exact .own _
  · obtain ⟨q1, q2, q3⟩ := boot_ty h2
    refine ⟨.ty T, ?_, pe_bltn hg (Y.free T h3) q1 rfl q2 q3⟩
    unfold kOf
    rw [h1]
    exact .ty T
theorem se_isi2 (Y : Hy CX L Γ Φ X) {T U : String} {cs : List String} {kk : Nat} (hT : IsiOk Γ cs T) (hU : IsiOk Γ cs U) (hf : "isinstance" ∈ Γ.free) (hg : Gl X (sO "isinstance")) (hgT : Gl X (sO T)) (hgU : Gl X (sO U)) (sa : SE X W a fa) (hs : noSt a = true) :
    SE X W (.Call (.Name (sO "isinstance") p) [a, .Tuple [.Name (sO T) p2, .Name (sO U) p3] kk pt] [] pos) (fun ρ h => bnd (fa ρ h) fun x h1 => lift (isiF cs [T, U] x h1) h1) := by
  intro M ρ h σ H r Q re rh e fin
  obtain ⟨b1, b2, b3⟩ := boot_isi
  have hst : starEach [a, .Tuple [.Name (sO T) p2, .Name (sO U) p3] kk pt] X.env = (false, eval a X.env) :: starEach [.Tuple [.Name (sO T) p2, .Name (sO U) p3] kk pt] X.env := starEach_c hs
  obtain ⟨cT, kT, pT⟩ := cls_name (p2 := p2) Y hT hgT
  obtain ⟨cU, kU, pU⟩ := cls_name (p2 := p3) Y hU hgU
  have ht : PE X (.Tuple [.Name (sO T) p2, .Name (sO U) p3] kk pt) (tTup (tCons (tC cT) (tCons (tC cU) tNil))) := pe_tup (pa_cons pT (pa_cons pU pa_nil rfl) rfl)
  refine RunE.of (pe_callB call_isiT hg (Y.free _ hf) b1 (pa_cons RunE.pe (pa_cons ht pa_nil rfl) hst) b2 b3 hst rfl) ?_
  refine sa.first re rh e fin fun x h1 e1 M1 H1 v x1 rh1 rt1 re1 fin1 => ?_
  obtain ⟨z, e3, rfl⟩ := lift_ok e1
  refine ⟨by show 2 ≤ sizeLine; decide, fun tp htp => ?_⟩
  have hc : ∀ c ∈ cs, c ∈ Γ.cls := fun c q => (hT.cs c q).1
  have g1 : Ext M1 H1 M1 (upd H1 tp (.tup [cT, cU])) := Ext.laid htp
  have rh2 := rh1.laid (u := .tup [cT, cU]) htp
  obtain ⟨t, f, ty, ez, kk2⟩ := isi_core (H0 := H) Y (ts := [T, U]) (fun V hV => by
    rcases List.mem_cons.mp hV with rfl | hV
    · exact hT
    · rw [List.mem_singleton.mp hV]; exact hU) hc e3 rh2 (rt1.ext g1)
  refine ⟨v, tp, [cT, cU], t, [kOf X.K Γ.cls T, kOf X.K Γ.cls U], ([T, U].any f), rfl, upd_same, .cons kT (.cons kU .nil), ty, ?_, ?_⟩
  · refine kitAny_cons (kk2 T (by simp)) (fun hb => kitAny_cons (kk2 U (by simp)) (fun hb2 => ?_) fun hb2 => ?_) fun hb => ?_
    · simp only [List.any_cons, List.any_nil, hb, hb2, Bool.or_false]
      exact kitAny_nil
    · simp only [List.any_cons, List.any_nil, hb, hb2, Bool.or_false, Bool.or_true]
    · simp only [List.any_cons, hb, Bool.true_or]
  · rw [← (show TV.v (.bl ([T, U].any f)) = _ from ez.symm)] at fin1
    exact fin1 M1 _ _ g1 rh2 (.v (.bl _))
end
end Py


set_option Elab.async false
set_option linter.all false
set_option maxRecDepth 100000
set_option maxHeartbeats 4000000
/-! PyM2: sorted(set(..)) of a list or a tuple of ints; list, tuple of ranges. -/
namespace Py
open PySem PySem.Spec L2
open PyProof.Rows hiding St
/-- the set that a call begins with -/
def setNil (w : World) : Obj := { cls := .type "set", dict := none, data := .set #[] 0 (.fresh 0 0 (!w.params.followText "set-order")) }
section
variable {P : Program} {w : World} {A : Around} {E : Value → Shared → Prop} {s : Shared}
set_option maxRecDepth 100000 in
set_option maxHeartbeats 6400000 in
/-- set(xs), xs a list of ints -/
theorem set_of_list {l : Addr} {its : Array Value} (ns : List Int) {Q : Value → Shared → Prop} (hd : A.handled = none) (hl : s.heap.IsList l its) (hi : IntsAre its.toList ns) (hb : ns.length + 1 < scanBound)
    (k : ∀ (h' : Heap) (tk c : Nat), SetR w h' s.heap.objs.size (fun j => decide (j ∈ ns)) c → c ≤ ns.length → (∀ b o, s.heap.get? b = some o → h'.get? b = some o) → Q (.ref s.heap.objs.size) { s with heap := h', toks := tk }) :
    wpAny (model P w) A (call (.type "set") [.ref l]) Q E s := by
  have many : its.size = ns.length := by rw [← Array.length_toList]; exact IntsAre.length hi
  have f0 := F.called_set
  obtain ⟨_, _, f1⟩ := f0.mro
  have f2 := f0.made
  have f3 := f0.sub
  have f4 := f0.notType
  have f5 := f0.canCreate
  have f6 := F.typeCall_set_1 (.ref l)
  refine wpAny_call (codeAny_of_tree (show wpAny _ _ (callAny (.type "set") _) _ _ _ from wpAny_pure ⟨Code.quiet_builtin _ (by decide +kernel), codeAny_builtin F.entry_type_call ?_⟩))
  rw [Around.under_plain (weight_type_call_type "set" [.ref l] []) rfl]
  repeat (any_goals (first | assumption | wp_step))

  refine codeAny_mono (code_set_led1 (.ref l) (E := E) (Q₁ := fun ob s₁ => ob = .ref s.heap.objs.size ∧ s₁ = { s with heap := s.heap.push (setNil w) }) ⟨rfl, rfl⟩) fun r s₁ q => ?_
  cases r with
  | error e => exact q
  | ok fl =>
    cases fl with
    | ret ob =>
      obtain ⟨rfl, rfl⟩ := q
      have at0 : (s.heap.push (setNil w)).get? s.heap.objs.size = some (setNil w) := Heap.get?_push_size _ rfl
      have ty0 : Shared.TypeIs { s with heap := s.heap.push (setNil w) } (.ref s.heap.objs.size) "set" := ⟨_, at0, rfl⟩
      have g1 := f0.init.lookup
      have g2 := f0.init.bind (.ref s.heap.objs.size)
      repeat (any_goals (first | assumption | wp_step))

      refine codeAny_mono (codeAny_call_builtin (R := wants (fun r s₂ => r = .none ∧ ∃ h' tk c, s₂ = { s with heap := h', toks := tk } ∧ SetR w h' s.heap.objs.size (fun j => decide (j ∈ ns)) c ∧ c ≤ ns.length ∧
          (∀ b o, s.heap.get? b = some o → h'.get? b = some o)) E) f0.init.plain F.entry_set_init (check_set_init_1 ty0 ?_)) fun r₂ s₂ q₂ => ?_
      · obtain ⟨⟨oc, od, oda, osl⟩, ho, hc, nl, hda⟩ := hl
        simp only at hc hda
        subst hc; subst hda
        have ho' : (s.heap.push (setNil w)).get? l = some { cls := .type "list", dict := od, data := .seq its nl, slots := osl } := Heap.get?_push_of_some _ ho
        have t1 := F.sub_list_set
        have t2 := F.sub_list_frozenset
        have t3 : (Value.type "list" == Value.type "dict") = false := by decide
        have il : (s.heap.push (setNil w)).IsList l its := ⟨_, ho', rfl, nl, rfl⟩
        unfold Builtin.«set.__init__» noKeywords Builtin.Frozenset.updateFrom
        generalize hIt : pyIter = It
        wp_walk
        subst hIt

        refine wpAny_pyIter_list il (wpAny_bind (wpAny_runValue ?_))
        have lt0 : l < s.heap.objs.size := Heap.lt_size ho
        have hd3 : A.in1.in1.in1.handled = none := by simp [hd]
        have ne1 : l ≠ (s.heap.push (setNil w)).objs.size := by rw [Heap.size_push]; exact Nat.ne_of_lt (Nat.lt_succ_of_lt lt0)
        have ne2 : s.heap.objs.size ∉ [(s.heap.push (setNil w)).objs.size, l] := by
          rw [Heap.size_push]
          intro hm
          rcases List.mem_cons.mp hm with e | hm
          · exact absurd e (Nat.ne_of_lt (Nat.lt_succ_self _))
          · exact absurd (List.mem_singleton.mp hm) (Nat.ne_of_gt lt0)
        have val : ∀ (i : Nat) (v : Value), its[i]? = some v → ∃ k t, ns[i]? = some k ∧ v = .int k t := fun i v hv => by
          have hlt : i < ns.length := by rw [← many]; exact (Array.getElem?_eq_some_iff.mp hv).1
          obtain ⟨t, e⟩ := PyProof.Rows.IntsAre.int_at hi i v (by rw [Array.getElem?_toList]; exact hv)
          refine ⟨ns[i], t, List.getElem?_eq_getElem hlt, ?_⟩
          rw [e, List.getD_eq_getElem?_getD, List.getElem?_eq_getElem hlt] <;> rfl
        refine set_update_ints ((Walks.list hd3 _ l ne1 its).toS) s.heap.objs.size ne2 ns many hb val (its.size - 0) 0 _ (by omega) (Nat.zero_le _) ⟨⟨_, Heap.get?_push_size _ rfl, rfl, rfl⟩, (il.push _)⟩ ⟨0, Nat.le_refl 0, setR_new_at (Heap.get?_push_of_some _ at0)⟩ fun s' c' mv cl hS => ?_
        obtain ⟨h', g, d, tk', os⟩ := s'
        obtain rfl : g = s.gens := mv.gens
        obtain rfl : d = s.drawn := mv.drawn
        obtain rfl : os = s.os := mv.os
        show wpAny _ _ _ _ _ _
        refine wpAny_pure ?_
        show wpAny _ _ (ret Value.none) _ _ _
        refine wpAny_pure ⟨rfl, h', tk', c', rfl, hS, by omega, fun b o e => ?_⟩
        have lb : b < s.heap.objs.size := Heap.lt_size e
        refine mv.heap b o ?_ (Heap.get?_push_of_some _ (Heap.get?_push_of_some _ e))
        rw [Heap.size_push]
        intro hm
        rcases List.mem_cons.mp hm with e | hm
        · exact absurd e (Nat.ne_of_lt lb)
        · exact absurd (List.mem_singleton.mp hm) (Nat.ne_of_lt (Nat.lt_succ_of_lt lb))

      · cases r₂ with
        | error e => exact q₂
        | ok fl₂ =>
          cases fl₂ with
          | ret r =>
            obtain ⟨rfl, h', tk, c', rfl, hS, cl, kp⟩ := q₂
            repeat (any_goals (first | assumption | wp_step))
            exact k _ _ _ hS cl kp
          | _ => exact q₂.elim
    | _ => exact q.elim
/-- sorted(s), s a set of ints of any number -/
theorem sorted_of_set {a : Addr} {S : Int → Bool} {n : Nat} {Q : Value → Shared → Prop} (R : SetR w s.heap a S n) (hd : A.handled = none)
    (k : ∀ s' p (out : Array Value) (c : Nat) (ns : List Int), (∀ b o, s.heap.get? b = some o → s'.heap.get? b = some o) → s'.gens = s.gens → s'.os = s.os → s.heap.objs.size ≤ p →
      s'.heap.get? p = some (seqObj "list" out c) → IntsAre out.toList ns → ns.Pairwise (· < ·) → (∀ j, j ∈ ns ↔ S j = true) → ns.length ≤ sizeLine → Q (.ref p) s') :
    wpAny (model P w) A (call (.builtin "sorted") [.ref a]) Q E s := by
  obtain ⟨o, es, ep, t, ho, hex, hda, g, nd, mem, bd, ft, sz, ris, led⟩ := R
  refine Calls.call_function_entry kind_sorted plain_sorted entry_sorted (args_sorted1 _) ?_
  unfold Builtin.«sorted»
  refine wpAny_bind (m := checkCount "sorted" 1 1 _) (wpAny_pure (wpAny_bind (collect_set (A := A.in1) hd ⟨o, ho, hex.1, hda⟩ ft bd ris led fun s1 vs kp hz g1 o1 pm => ?_)))
  have len : vs.length = n := by rw [pm.length_eq, List.length_map, Array.length_toList]; exact sz
  have ln : n ≤ sizeLine := by rw [sizeLine_eq]; unfold scanBound at bd; omega
  have hI : IntsAre vs (vs.map Builtin.Re.reRawOf) := ints_of vs fun v hv => by
    obtain ⟨e, he, q⟩ := List.mem_map.mp (pm.mem_iff.mp hv)
    obtain ⟨j, tk, q1, _⟩ := g e he
    exact ⟨j, tk, q.symm.trans q1⟩
  have pk : (vs.map Builtin.Re.reRawOf).Perm (es.toList.map keyOf) := by
    have q := pm.map Builtin.Re.reRawOf
    rw [List.map_map] at q
    exact q
  refine wpAny_bind (wpAny_newList ?_ (by rw [len]; exact ln))
  have new : (s1.heap.push (seqObj "list" vs.toArray 0)).get? s1.heap.objs.size = some (seqObj "list" vs.toArray 0) := Heap.get?_push_size _ rfl
  refine wpAny_bind (wpAny_holding (wpAny_call_entry slot_list_sort ⟨_, new, rfl⟩ entry_list_sort (SrtO.list_sort_ord SrtO.swo_int new (by rw [len]; exact ln) (fun h2 => SrtO.ints_sortable hI h2) fun out b1 b2 => ⟨_, rfl, ?_⟩) (args_list_sort _)))
  obtain ⟨c1, c2, c3⟩ := SrtO.ints_out hI b1 b2
  obtain ⟨c, hc⟩ := sortedHeap_at (vs := vs) (out := out.toArray) new
  have pn := c2.trans pk
  refine wpAny_pure ⟨_, rfl, k _ s1.heap.objs.size out.toArray c _ (fun b u e => ?_) g1 o1 hz hc c1 (lt_of_le_nodup _ c3 (pn.nodup_iff.mpr nd)) (fun j => by rw [pn.mem_iff, ← mem j]) ?_⟩
  · have q := kp b u e
    have lt := Heap.lt_size q
    show (sortedHeap (s1.heap.push (seqObj "list" vs.toArray 0)) s1.heap.objs.size vs out.toArray).get? b = some u
    rw [sortedHeap_old (Nat.ne_of_lt lt) (by rw [size_push']; exact Nat.lt_succ_of_lt lt)]
    exact Heap.get?_push_of_some _ q
  · rw [pn.length_eq, List.length_map, Array.length_toList, sz]; exact ln
end
/-- set(x), x a list or a tuple of ints -/
def rSetLT (K : PySem.W.Frag) (w : World) : List V → Hp → VK → Prop := fun vs H Q => ∃ (l : Addr) (ns : List Int), vs = [.ref l] ∧ (SqL K H l (ns.map V.int) ∨ SqT K H l (ns.map V.int)) ∧ ns.length < 1000 ∧
  ∀ p c, H p = none → c ≤ ns.length → Q (.ref p) (upd H p (SetO w p (fun j => decide (j ∈ ns)) c))
def rSortSt (w : World) : List V → Hp → VK → Prop := fun vs H Q => ∃ (a : Addr) (S : Int → Bool) (n : Nat), vs = [V.ref a] ∧ H a = some (SetO w a S n) ∧
  ∀ (ns : List Int) (p : Addr), ns.Pairwise (· < ·) → (∀ k : Int, k ∈ ns ↔ S k = true) → H p = none → Q (.ref p) (upd H p (.lst (ns.map V.int)))
section
variable {X : Cx} {CX : CXT} {L : Nat} {Γ : Tab} {Φ : Calls} {W : WX} {pos p p2 p3 pt apos : Pos} {a b c : Expr} {es : List Expr} {fa : Env → Hd → Res TV} {fs : Env → Hd → Res (List TV)}
theorem cr_setLT (hc : X.calm = true) : CallR X (.type "set") (rSetLT X.K X.w) := by
  intro pins s σ H vs us Q I r h
  obtain ⟨l, ns, rfl, hs, hlt, q⟩ := h
  rw [Vals.ref1 r]
  have big : ns.length + 1 < scanBound := by unfold scanBound; omega
  rcases hs with hs | hs
  · obtain ⟨its, rv, pl, hz⟩ := I.list hs
    refine set_of_list ns (I.ok.hd hc) pl.isList (by exact ints_of_vals rv) big fun h' tk c R hcn kp => ?_
    exact ⟨.ref _, _, I.laid (t' := tk) kp (Nat.le_refl _) (setO_new R), rfl, q _ c (I.hok.fresh (Nat.le_refl _)) hcn⟩
  · obtain ⟨its, rv, pl, hz⟩ := I.tuple hs
    refine call_set_tupI ns (I.ok.hd hc) (show s.heap.IsTuple l its.toArray from pl) (by exact ints_of_vals rv) big fun h' tk c R hcn kp => ?_
    exact ⟨.ref _, _, I.laid (t' := tk) kp (Nat.le_refl _) (setO_new R), rfl, q _ c (I.hok.fresh (Nat.le_refl _)) hcn⟩
theorem cr_sortSt (hc : X.calm = true) : CallR X (.builtin "sorted") (rSortSt X.w) := by
  intro pins s σ H vs us Q I r h
  obtain ⟨a, S, n, rfl, ha, q⟩ := h
  rw [Vals.ref1 r]
  refine sorted_of_set (setO_get I ha) (I.ok.hd hc) fun s' p out c ns kp g o hp at_ hi up mem hl => ?_
  have fr : H p = none := I.hok.fresh hp
  have lz : (ns.map V.int).length ≤ sizeLine := by rw [List.length_map]; exact hl
  have J : Inv X pins σ (upd H p (.lst (ns.map V.int))) { s with heap := s'.heap, gens := s'.gens, drawn := s'.drawn, toks := s'.toks } :=
    I.call (ch := []) (Un.laid kp hp fr) (I.hok.laid kp hp ⟨lz, out.toList, c, vals_of_ints hi, at_⟩) (by rw [g]; exact I.bare) (fun _ z => nomatch z)
  have es : s' = { s with heap := s'.heap, gens := s'.gens, drawn := s'.drawn, toks := s'.toks } := by
    cases s'; cases s; cases o; rfl
  rw [es]
  exact ⟨.ref p, _, J, rfl, q ns p up mem fr⟩
theorem uniq_up : ∀ {xs ys : List Int}, xs.Pairwise (· < ·) → ys.Pairwise (· < ·) → (∀ k, k ∈ xs ↔ k ∈ ys) → xs = ys
  | [], [], _, _, _ => rfl
  | [], y :: ys, _, _, h => absurd ((h y).mpr List.mem_cons_self) (by simp)
  | x :: xs, [], _, _, h => absurd ((h x).mp List.mem_cons_self) (by simp)
  | x :: xs, y :: ys, hx, hy, h => by
    rw [List.pairwise_cons] at hx hy
    have e : x = y := by
      rcases List.mem_cons.mp ((h x).mp List.mem_cons_self) with e | hm
      · exact e
      · rcases List.mem_cons.mp ((h y).mpr List.mem_cons_self) with e | hm2
        · exact e.symm
        · have := hy.1 x hm
          have := hx.1 y hm2
          omega
    subst e
    rw [uniq_up hx.2 hy.2 fun k => ⟨fun hk => ?_, fun hk => ?_⟩]
    · rcases List.mem_cons.mp ((h k).mp (List.mem_cons_of_mem _ hk)) with e | hm
      · have := hx.1 k hk; omega
      · exact hm
    · rcases List.mem_cons.mp ((h k).mpr (List.mem_cons_of_mem _ hk)) with e | hm
      · have := hy.1 k hk; omega
      · exact hm
theorem insI_mem {x k : Int} : ∀ {l : List Int}, k ∈ insI x l ↔ k = x ∨ k ∈ l
  | [] => by simp [insI]
  | y :: r => by
    unfold insI
    split
    · simp
    · split
      · rename_i e
        subst e
        simp
      · rw [List.mem_cons, insI_mem (l := r), List.mem_cons]
        constructor
        · rintro (h | h | h) <;> simp [h]
        · rintro (h | h | h) <;> simp [h]
theorem insI_up {x : Int} : ∀ {l : List Int}, l.Pairwise (· < ·) → (insI x l).Pairwise (· < ·)
  | [], _ => by simp [insI]
  | y :: r, h => by
    rw [List.pairwise_cons] at h
    unfold insI
    split
    · rename_i hx
      refine List.pairwise_cons.mpr ⟨fun k hk => ?_, List.pairwise_cons.mpr h⟩
      rcases List.mem_cons.mp hk with e | hk
      · omega
      · have := h.1 k hk; omega
    · split
      · exact List.pairwise_cons.mpr h
      · rename_i h1 h2
        refine List.pairwise_cons.mpr ⟨fun k hk => ?_, insI_up h.2⟩
        rcases insI_mem.mp hk with e | hk
        · omega
        · exact h.1 k hk
theorem ssI_up : ∀ is : List Int, (ssI is).Pairwise (· < ·)
  | [] => List.Pairwise.nil
  | x :: r => insI_up (ssI_up r)
theorem ssI_mem {k : Int} : ∀ {is : List Int}, k ∈ ssI is ↔ k ∈ is
  | [] => Iff.rfl
  | x :: r => by
    show k ∈ insI x (ssI r) ↔ _
    rw [insI_mem, ssI_mem (is := r), List.mem_cons]
theorem boot_set' : bootBuiltins (sO "set") = some (.type "set") ∧ sO "set" ≠ "__name__" ∧ (sO "set" == ("__debug__" : Str)) = false := ⟨by rfl, by decide +kernel, by decide +kernel⟩
theorem boot_sort' : bootBuiltins (sO "sorted") = some (.builtin "sorted") ∧ sO "sorted" ≠ "__name__" ∧ (sO "sorted" == ("__debug__" : Str)) = false := ⟨by rfl, by decide +kernel, by decide +kernel⟩
theorem se_sset (Y : Hy CX L Γ Φ X) (hf : "sorted" ∈ Γ.free) (hf2 : "set" ∈ Γ.free) (hg : Gl X (sO "sorted")) (hg2 : Gl X (sO "set")) (sa : SE X W a fa) (hs : noSt a = true) :
    SE X W (.Call (.Name (sO "sorted") p) [.Call (.Name (sO "set") p2) [a] [] p3] [] pos) (fun ρ h => bnd (fa ρ h) fun x h1 => lift (ssetF x h1) h1) := by
  intro M ρ h σ H r Q re rh e fin
  obtain ⟨b1, b2, b3⟩ := boot_set'
  obtain ⟨c1, c2, c3⟩ := boot_sort'
  refine RunE.of (pe_callB (cr_sortSt Y.calm) hg (Y.free _ hf) c1 (pa_cons (pe_callTy (cr_setLT Y.calm) hg2 (Y.free _ hf2) b1 (pa_cons RunE.pe pa_nil (starEach_c hs)) b2 b3 (starEach_c hs) rfl) pa_nil rfl) c2 c3 rfl rfl) ?_
  refine sa.first re rh e fin fun x h1 e1 M1 H1 v x1 rh1 rt1 re1 fin1 => ?_
  obtain ⟨z, e3, rfl⟩ := lift_ok e1
  unfold ssetF at e3
  split at e3
  · rename_i xs hxs
    split at e3
    · rename_i is his
      split at e3
      · rename_i hlen
        cases e3
        obtain ⟨l, vs, rfl, hq, rv⟩ := seqOf_at rh1 rt1 hxs
        have ev := intsD_at rv his
        subst ev
        refine ⟨l, is, rfl, hq, hlen, fun p0 c hp0 hcn => ?_⟩
        refine ⟨p0, _, _, rfl, upd_same, fun ns p hup hmem hp => ?_⟩
        have en : ns = ssI is := uniq_up hup (ssI_up is) fun j => by rw [hmem j, decide_eq_true_eq, ssI_mem]
        subst en
        have g0 : Ext M1 H1 M1 (upd H1 p0 (SetO X.w p0 (fun j => decide (j ∈ is)) c)) := Ext.laid hp0
        obtain ⟨g1, g2, g3⟩ := newL (H0 := H1) (xs := (ssI is).map D.int) (rh1.laid (u := SetO X.w p0 (fun j => decide (j ∈ is)) c) hp0) g0.back hp (ints_at (ssI is))
        exact fin1 M1 _ _ (g0.trans g1) g2 g3
      · cases e3
    · cases e3
  · cases e3
end
end Py


set_option Elab.async false
set_option linter.all false
set_option maxRecDepth 100000
set_option maxHeartbeats 4000000
/-! PyM3: list, tuple of ranges. -/
namespace Py
open PySem PySem.Spec L2
open PyProof.Rows hiding St
abbrev TRN := St → Hp → (Int → Int → Nat → Hp → Prop) → Prop
/-- an expression that makes a range: its start, its step, how many -/
def PRgN (X : Cx) (e : Expr) (t : TRN) : Prop := ∀ (pins : List (Addr × Obj)) (s : Shared) (σ : St) (H : Hp) (Q : Int → Int → Nat → Hp → Prop), Inv X pins σ H s → t σ H Q →
  wpAny (model X.prog X.w) X.A (eval e X.env) (fun x s' => ∃ r i j c n t u v H', x = .ref r ∧ IsRange s'.heap r i j c t u v ∧ Builtin.Range.small i j c = true ∧ Builtin.Range.rangeSize i j c = (n : Nat) ∧ n ≤ 2 ^ 24 ∧ Inv X pins σ H' s' ∧ Q i c n H') X.xe s
def iRgN (ta : TA) : TRN := fun σ H Q => ta σ H fun vs H1 => ∃ (i j c : Int) (n : Nat), ((vs = [.int j] ∧ i = 0 ∧ c = 1) ∨ (vs = [.int i, .int j] ∧ c = 1) ∨ vs = [.int i, .int j, .int c]) ∧ RgC i j c n ∧ n ≤ 2 ^ 24 ∧ Q i c n H1
/-- its items -/
def rgV3 (i c : Int) (n : Nat) : List V := (List.range n).map fun (k : Nat) => V.int (i + (k : Int) * c)
section
variable {X : Cx} {CX : CXT} {L : Nat} {Γ : Tab} {Φ : Calls} {W : WX} {pos p p2 p3 pt apos : Pos} {a b c : Expr} {es : List Expr} {fa : Env → Hd → Res TV} {fs : Env → Hd → Res (List TV)} {ta : TA}
theorem prg_N (hg : Gl X "range") (hm : X.mg "range" = none) (ha : PA X (a :: es) ta) (hs : starEach (a :: es) X.env = (false, eval a X.env) :: starEach es X.env) (hpl : (backTo pos (starEach es X.env)).any (·.1) = false) :
    PRgN X (.Call (.Name "range" p) (a :: es) [] pos) (iRgN ta) := by
  intro pins s σ H Q I h
  refine Call_ (ld_blt I hg hm boot_range (PyProof.Rows.callWith_type1 (thn (ha.run pos pins s σ H _ I h) fun us s1 ⟨vs, H1, I1, r1, q1⟩ => ?_) hs hpl))
  obtain ⟨i, j, c, n, hv, ⟨c0, c1, c2, c3⟩, hn, q⟩ := q1
  rcases hv with ⟨rfl, rfl, rfl⟩ | ⟨rfl, rfl⟩ | rfl
  · obtain ⟨u, rfl, t, rfl⟩ := vals1 r1
    exact call_range_1 ⟨_, 0, j, 1, n, _, _, _, H1, rfl, IsRange.new _ _ _ _ _ _ _, c2, c3, hn, I1.kept fun b u e => Heap.get?_push_of_some _ e, q⟩
  · obtain ⟨u, v, rfl, ⟨t, rfl⟩, t', rfl⟩ := vals2 r1
    exact call_range_2 ⟨_, i, j, 1, n, _, _, _, H1, rfl, IsRange.new _ _ _ _ _ _ _, c2, c3, hn, I1.kept fun b u e => Heap.get?_push_of_some _ e, q⟩
  · cases r1 with
    | cons r rr =>
      obtain ⟨v, w', rfl, ⟨t', rfl⟩, t'', rfl⟩ := vals2 rr
      obtain ⟨t, rfl⟩ := r
      exact call_range_3 c0 ⟨_, i, j, c, n, _, _, _, H1, rfl, IsRange.new _ _ _ _ _ _ _, c2, c3, hn, I1.kept fun b u e => Heap.get?_push_of_some _ e, q⟩ (.inl (PyProof.noPylong_small c1))
theorem vals_rg3 {i c : Int} {n : Nat} {acc : Array Value} (h : ItemsOf (fun k v => ∃ t, v = .int (i + k * c) t) acc n) : Vals (rgV3 i c n) acc.toList := by
  have e : acc.toList.length = n := by rw [Array.length_toList]; exact h.1
  unfold rgV3
  rw [← e]
  refine vals_of_get acc.toList _ fun j u hj => ?_
  obtain ⟨t, rfl⟩ := h.2 j u (by rw [← hj, Array.getElem?_toList])
  exact ⟨t, rfl⟩
theorem rgV3_len {i c : Int} {n : Nat} : (rgV3 i c n).length = n := by simp [rgV3]
/-- list(range(..)) -/
theorem pe_listN {te : TRN} (hc : X.calm = true) (hg : Gl X "list") (hm : X.mg "list" = none) (he : PRgN X b te) (hs : starEach [b] X.env = (false, eval b X.env) :: starEach [] X.env) :
    PE X (.Call (.Name "list" p) [b] [] pos) (fun σ H Q => te σ H fun i c n H1 => ∀ q, H1 q = none → Q (.ref q) (upd H1 q (.lst (rgV3 i c n)))) := by
  refine ⟨fun pins s σ H Q I h => ?_⟩
  refine Call_ (ld_blt I hg hm boot_list (PyProof.Rows.callWith_type1 (args_cons (thn (he pins s σ H _ I h) fun x s1 ⟨r, i, j, c, n, t, u, v, H1, ex, hr, sm, rs, hn, I1, q⟩ => args_nil ?_) hs) hs))
  subst ex
  refine call_list_range (I1.ok.hd hc) hr sm rs hn fun h' tk acc c' hk e' hi => ?_
  refine ⟨.ref s1.heap.objs.size, upd H1 s1.heap.objs.size (.lst (rgV3 i c n)), I1.laid hk (Nat.le_refl _) (show ObjOk X.prog X.w _ _ _ (.lst (rgV3 i c n)) from ⟨?_, acc.toList, c', vals_rg3 hi, ?_⟩), rfl, q _ (I1.hok.fresh (Nat.le_refl _))⟩
  · rw [rgV3_len, sizeLine_eq]; omega
  · rw [Array.toArray_toList]; exact e'
/-- tuple(range(..)) -/
theorem pe_tupN {te : TRN} (hc : X.calm = true) (hg : Gl X "tuple") (hm : X.mg "tuple" = none) (he : PRgN X b te) (hs : starEach [b] X.env = (false, eval b X.env) :: starEach [] X.env) :
    PE X (.Call (.Name "tuple" p) [b] [] pos) (fun σ H Q => te σ H fun i c n H1 => ∀ q, H1 q = none → Q (.ref q) (upd H1 q (.tup (rgV3 i c n)))) := by
  refine ⟨fun pins s σ H Q I h => ?_⟩
  refine Call_ (ld_blt I hg hm boot_tuple (PyProof.Rows.callWith_type1 (args_cons (thn (he pins s σ H _ I h) fun x s1 ⟨r, i, j, c, n, t, u, v, H1, ex, hr, sm, rs, hn, I1, q⟩ => args_nil ?_) hs) hs))
  subst ex
  refine call_tuple_range (I1.ok.hd hc) hr sm rs hn fun h' tk acc hk hi => ?_
  have I2 : Inv X pins σ H1 { s1 with heap := h', toks := tk } := I1.kept hk
  refine ⟨.ref h'.objs.size, upd H1 h'.objs.size (.tup (rgV3 i c n)), I2.laid (t' := tk) (fun c o e => Heap.get?_push_of_some _ e) (Nat.le_refl _) (show ObjOk X.prog X.w _ _ _ (.tup (rgV3 i c n)) from ⟨?_, acc.toList, vals_rg3 hi, ?_⟩), rfl, q _ (I2.hok.fresh (Nat.le_refl _))⟩
  · rw [rgV3_len, sizeLine_eq]; omega
  · rw [Array.toArray_toList]; exact IsTup.new _ _
/-- what walkRng tells, to the reading -/
theorem rg_reads (sa : SA X W (a :: es) fs) {M : List Addr} {ρ : Env} {h : Hd} {σ : St} {H : Hp} {r : R TV} {Q : Int → Int → Nat → Hp → Prop} {Q0 : VK} {g : List D → TV} (re : RE X.K M H ρ σ) (rh : RH X.K M h H)
    (e : bnd (bnd (fs ρ h) fun xs h1 => lift ((walkRng xs).map fun l => (⟨l, []⟩ : Wk)) h1) (fun w h1 => some (.ok (g w.items) h1)) = some r) (fin : Fin X.K W M σ H r Q0)
    (k : ∀ i c n h1, r = .ok (g ((List.range n).map fun (k : Nat) => .int (i + (k : Int) * c))) h1 → n ≤ 2 ^ 24 → ∀ M1 H1, Ext M H M1 H1 → RH X.K M1 h1 H1 → Q i c n H1) : iRgN (fun σ H Q => RunA X (a :: es) σ H Q) σ H Q := by
  rcases bnd_some e with ⟨w, h1, e1, e2⟩ | ⟨cc, fs', h1, e1, e2⟩
  · rcases bnd_some e1 with ⟨xs, h2, e3, e4⟩ | ⟨_, _, _, _, q⟩
    · obtain ⟨w2, e5, e6⟩ := lift_ok e4
      obtain ⟨l, e7, rfl⟩ := Option.map_eq_some_iff.mp e5
      cases e6
      refine sa M ρ h σ H _ _ re rh e3 fun M1 H1 vs x1 rh1 rs => ?_
      cases e2
      have lv := line_val
      have hone : ∀ (lo : Int) (m : Nat), rngL lo m = (List.range m).map fun (k : Nat) => D.int (lo + (k : Int) * 1) := fun lo m => by
        unfold rngL
        exact List.map_congr_left fun k _ => by rw [Int.mul_one]
      unfold walkRng at e7
      split at e7
      · split at e7
        · rename_i hc
          cases e7
          cases rs with | cons r rs => cases rs; cases r with | v r =>
            cases r
            refine ⟨0, _, 1, _, .inl ⟨rfl, rfl, rfl⟩, ⟨by decide, by decide, small_one (by omega) (by omega) (by omega) (by omega), rangeSize_nat _ _⟩, by omega, ?_⟩
            have e0 : ∀ j : Int, (j - 0).toNat = j.toNat := fun j => by rw [Int.sub_zero]
            rw [e0]
            exact k _ _ _ _ (by rw [hone]) (by omega) M1 H1 x1 rh1
        · cases e7
      · split at e7
        · rename_i hc
          cases e7
          cases rs with | cons r rs => cases r with | v r => cases r; cases rs with | cons r rs => cases rs; cases r with | v r =>
            cases r
            exact ⟨_, _, 1, _, .inr (.inl ⟨rfl, rfl⟩), ⟨by decide, by decide, small_one (by omega) (by omega) (by omega) (by omega), rangeSize_nat _ _⟩, by omega, k _ _ _ _ (by rw [hone]) (by omega) M1 H1 x1 rh1⟩
        · cases e7
      · split at e7
        · rename_i hc
          cases e7
          cases rs with
          | cons r rs =>
            cases r with
            | v r =>
              cases r
              cases rs with
              | cons r rs =>
                cases r with
                | v r =>
                  cases r
                  cases rs with
                  | cons r rs =>
                    cases rs
                    cases r with
                    | v r =>
                      cases r
                      exact ⟨_, _, _, _, .inr (.inr rfl), ⟨hc.1.1, hc.1.2.1, hc.1.2.2, (Int.toNat_of_nonneg hc.2.1).symm⟩, by omega, k _ _ _ _ rfl (by omega) M1 H1 x1 rh1⟩
        · cases e7
      · cases e7
    · cases q
  · subst e2
    rcases bnd_some e1 with ⟨xs, h2, e3, e4⟩ | ⟨_, _, h2, e3, e4⟩
    · obtain ⟨_, _, q⟩ := lift_ok e4
      cases q
    · cases e4
      exact sa M ρ h σ H _ _ re rh e3 (by exact fin)
theorem rgs_at (i c : Int) (n : Nat) {K : PySem.W.Frag} {M : List Addr} {H : Hp} : RVs K M H ((List.range n).map fun (k : Nat) => D.int (i + (k : Int) * c)) (rgV3 i c n) := by
  have := ints_at (K := K) (M := M) (H := H) ((List.range n).map fun (k : Nat) => i + (k : Int) * c)
  rw [List.map_map, List.map_map] at this
  exact this
theorem boot_lst' : bootBuiltins (sO "list") = some (.type "list") ∧ (sO "list" == ("__debug__" : Str)) = false := ⟨by rfl, by decide +kernel⟩
theorem se_listN (Y : Hy CX L Γ Φ X) (hf : "list" ∈ Γ.free) (hf2 : "range" ∈ Γ.free) (hg : Gl X (sO "list")) (hg2 : Gl X (sO "range")) (sa : SA X W (a :: es) fs) (hs : (a :: es).all noSt = true) :
    SE X W (.Call (.Name (sO "list") p) [.Call (.Name (sO "range") p2) (a :: es) [] p3] [] pos) (fun ρ h => bnd (bnd (fs ρ h) fun xs h1 => lift ((walkRng xs).map fun l => (⟨l, []⟩ : Wk)) h1) fun w h1 => some (.ok (.l w.items) h1)) := by
  intro M ρ h σ H r Q re rh e fin
  have hs2 := hs
  rw [List.all_cons, Bool.and_eq_true] at hs2
  refine RunE.of (pe_listN Y.calm hg (Y.free _ hf) (prg_N hg2 (Y.free _ hf2) RunA.pa (starEach_c hs2.1) (star_all hs2.2)) rfl) ?_
  refine rg_reads (g := fun l => .l l) sa re rh e fin fun i c n h1 er hn M1 H1 x1 rh1 q hq => ?_
  subst er
  obtain ⟨g1, g2, g3⟩ := newL (H0 := H) rh1 x1.back hq (rgs_at i c n)
  exact fin M1 _ _ (x1.trans g1) g2 g3
theorem se_tupN (Y : Hy CX L Γ Φ X) (hf : "tuple" ∈ Γ.free) (hf2 : "range" ∈ Γ.free) (hg : Gl X (sO "tuple")) (hg2 : Gl X (sO "range")) (sa : SA X W (a :: es) fs) (hs : (a :: es).all noSt = true) :
    SE X W (.Call (.Name (sO "tuple") p) [.Call (.Name (sO "range") p2) (a :: es) [] p3] [] pos) (fun ρ h => bnd (bnd (fs ρ h) fun xs h1 => lift ((walkRng xs).map fun l => (⟨l, []⟩ : Wk)) h1) fun w h1 => some (.ok (.v (.tup w.items)) h1)) := by
  intro M ρ h σ H r Q re rh e fin
  have hs2 := hs
  rw [List.all_cons, Bool.and_eq_true] at hs2
  refine RunE.of (pe_tupN Y.calm hg (Y.free _ hf) (prg_N hg2 (Y.free _ hf2) RunA.pa (starEach_c hs2.1) (star_all hs2.2)) rfl) ?_
  refine rg_reads (g := fun l => .v (.tup l)) sa re rh e fin fun i c n h1 er hn M1 H1 x1 rh1 q hq => ?_
  subst er
  obtain ⟨g1, g2, g3⟩ := newT (H0 := H) rh1 hq (rgs_at i c n)
  exact fin M1 _ _ (x1.trans g1) g2 g3
end
end Py


set_option Elab.async false
set_option linter.all false
set_option maxRecDepth 100000
set_option maxHeartbeats 4000000
/-! PyM4: x = zip(t, u); return f(y, [.. for .. in x]). -/
namespace Py
open PySem PySem.Spec L2
open PyProof.Rows hiding St
open RZ
section
variable {X : Cx} {pins : List (Addr × Obj)} {σ : St} {H H' : Hp} {s : Shared} {h' : Heap}
/-- more is noted of what a call made -/
theorem inv_note {t' : Nat} (I : Inv X pins σ H s) (k : ∀ b u, s.heap.get? b = some u → h'.get? b = some u) (old : ∀ b u, H b = some u → H' b = some u)
    (new : ∀ b u, H' b = some u → H b = some u ∨ (s.heap.objs.size ≤ b ∧ ObjOk X.prog X.w H' h' b u)) : Inv X pins σ H' { s with heap := h', toks := t' } := by
  have fr : ∀ b o, s.heap.get? b = some o → H b = none → H' b = none := fun b o e n => by
    cases q : H' b with
    | none => rfl
    | some u =>
      rcases new b u q with q2 | ⟨q2, _⟩
      · rw [n] at q2; cases q2
      · exact absurd (Heap.lt_size e) (Nat.not_lt.mpr q2)
  refine I.un (t' := t') ⟨fun b o e _ _ _ => k b o e, fun b o e _ _ _ => ⟨o.slots, k b o e⟩, fun b o e n _ => fr b o e n, fun b o e _ => ⟨o, k b o e⟩, fun b xs e => old b _ e, fun b o u e => old b _ e, fun b ps e => ⟨#[], by rw [old b _ e]; simp⟩⟩ fun b u e => ?_
  rcases new b u e with q | ⟨_, q⟩
  · exact (I.hok b u q).stay (fun c ob _ z => k c ob z) (fun c z => old c _ z) fun c xs z => old c _ z
  · exact q
/-- what was noted is forgotten -/
theorem inv_less (I : Inv X pins σ H s) (old : ∀ b u, H' b = some u → H b = some u) (new : ∀ b u, H b = some u → H' b = some u ∨ ∃ φ, u = .ext φ) : Inv X pins σ H' s := by
  have keep : ∀ b u, H b = some u → (∀ φ, u ≠ .ext φ) → H' b = some u := fun b u e n => (new b u e).resolve_right fun ⟨φ, q⟩ => n φ q
  have non : ∀ b, H b = none → H' b = none := fun b n => by
    cases q : H' b with
    | none => rfl
    | some u => rw [old b u q] at n; cases n
  have hok : HOk X.prog X.w H' s.heap := fun b u e => (I.hok b u (old b u e)).stay (fun _ _ _ z => z) (fun c z => keep c _ z fun _ w => (nomatch w)) fun c xs z => keep c _ z fun _ w => (nomatch w)
  exact I.un (t' := s.toks) ⟨fun _ _ e _ _ _ => e, fun _ o e _ _ _ => ⟨o.slots, e⟩, fun b _ _ z _ => non b z, fun _ o e _ => ⟨o, e⟩, fun b xs z => keep b _ z fun _ w => (nomatch w), fun b o x z => keep b _ z fun _ w => (nomatch w),
    fun b ps z => ⟨#[], by rw [keep b _ z fun _ w => (nomatch w)]; simp⟩⟩ hok
/-- a forgotten thing may turn -/
theorem fp_less (I : Inv X pins σ H s) {u : HO} {a : Addr} (h : H a = some u) (hn : X.s_0.heap.objs.size ≤ a) (h' : H' a = none) : FpOk X pins H' a := by
  have q := ItX.inv_fp I h hn
  exact ⟨h', q.2⟩
end
def zO (z TI TO : Addr) : HO := .ext fun h => IsZip h z TI TO .none
def pO (TI i1 i2 : Addr) : HO := .ext fun h => IsPair h TI (.ref i1) (.ref i2)
def tO (TO : Addr) : HO := .ext fun h => IsPair h TO .none .none
def iO (it a : Addr) : HO := .ext fun h => h.IsTupleIter it a 0
def zH (H : Hp) (z TI TO i1 i2 a b : Addr) : Hp := upd (upd (upd (upd (upd H i1 (iO i1 a)) i2 (iO i2 b)) TI (pO TI i1 i2)) TO (tO TO)) z (zO z TI TO)
structure ZFr (H : Hp) (n : Nat) (z TI TO i1 i2 a b : Addr) : Prop where
  ap : ZipApart z TI TO i1 i2 a b
  fr : ∀ c ∈ [z, TI, TO, i1, i2], H c = none ∧ n ≤ c
section
variable {H : Hp} {n : Nat} {z TI TO i1 i2 a b c : Addr}
theorem zH_z : zH H z TI TO i1 i2 a b z = some (zO z TI TO) := upd_same
theorem zH_TO (D : ZipApart z TI TO i1 i2 a b) : zH H z TI TO i1 i2 a b TO = some (tO TO) := by
  unfold zH; rw [upd_ne D.TOz]; exact upd_same
theorem zH_TI (D : ZipApart z TI TO i1 i2 a b) : zH H z TI TO i1 i2 a b TI = some (pO TI i1 i2) := by
  unfold zH; rw [upd_ne D.TIz, upd_ne D.TITO]; exact upd_same
theorem zH_i2 (D : ZipApart z TI TO i1 i2 a b) : zH H z TI TO i1 i2 a b i2 = some (iO i2 b) := by
  unfold zH; rw [upd_ne D.i2z, upd_ne (Ne.symm D.TOi2), upd_ne (Ne.symm D.TIi2)]; exact upd_same
theorem zH_i1 (D : ZipApart z TI TO i1 i2 a b) : zH H z TI TO i1 i2 a b i1 = some (iO i1 a) := by
  unfold zH; rw [upd_ne D.i1z, upd_ne (Ne.symm D.TOi1), upd_ne (Ne.symm D.TIi1), upd_ne D.i12]; exact upd_same
theorem zH_ne (hc : c ∉ [z, TI, TO, i1, i2]) : zH H z TI TO i1 i2 a b c = H c := by
  simp only [List.mem_cons, List.not_mem_nil, or_false, not_or] at hc
  unfold zH
  rw [upd_ne hc.1, upd_ne hc.2.2.1, upd_ne hc.2.1, upd_ne hc.2.2.2.2, upd_ne hc.2.2.2.1]
theorem zH_old (Z : ZFr H n z TI TO i1 i2 a b) {u : HO} (h : H c = some u) : zH H z TI TO i1 i2 a b c = some u := by
  rw [zH_ne fun hc => by rw [(Z.fr c hc).1] at h; cases h]
  exact h
theorem zH_new (Z : ZFr H n z TI TO i1 i2 a b) {u : HO} (h : zH H z TI TO i1 i2 a b c = some u) : H c = some u ∨ (c ∈ [z, TI, TO, i1, i2] ∧ ∃ φ, u = .ext φ) := by
  by_cases hc : c ∈ [z, TI, TO, i1, i2]
  · refine .inr ⟨hc, ?_⟩
    simp only [List.mem_cons, List.not_mem_nil, or_false] at hc
    rcases hc with rfl | rfl | rfl | rfl | rfl
    · rw [zH_z] at h; cases h; exact ⟨_, rfl⟩
    · rw [zH_TI Z.ap] at h; cases h; exact ⟨_, rfl⟩
    · rw [zH_TO Z.ap] at h; cases h; exact ⟨_, rfl⟩
    · rw [zH_i1 Z.ap] at h; cases h; exact ⟨_, rfl⟩
    · rw [zH_i2 Z.ap] at h; cases h; exact ⟨_, rfl⟩
  · rw [zH_ne hc] at h
    exact .inl h
end
/-- zip(t, u), as a value -/
def tZipV (K : PySem.W.Frag) (n : Nat) (ta : TA) : TE := fun σ H Q => ta σ H fun vs H1 => ∃ a b xs ys, vs = [.ref a, .ref b] ∧ SqT K H1 a xs ∧ SqT K H1 b ys ∧ ∀ z TI TO i1 i2, ZFr H1 n z TI TO i1 i2 a b → Q (.ref z) (zH H1 z TI TO i1 i2 a b)
section
variable {X : Cx} {CX : CXT} {L : Nat} {Γ : Tab} {Φ : Calls} {W : WX} {pos p p2 p3 p4 p5 p6 tpos lpos pos1 pos2 : Pos} {a b e e2 elt : Expr} {es elts : List Expr} {fa fb fe : Env → Hd → Res TV} {ta : TA} {kk : Nat}
theorem pe_zipV (hg : Gl X "zip") (hm : X.mg "zip" = none) (ha : PA X [e, e2] ta) (hs : starEach [e, e2] X.env = (false, eval e X.env) :: starEach [e2] X.env) (hpl : (backTo pos (starEach [e2] X.env)).any (·.1) = false) :
    PE X (.Call (.Name "zip" p) [e, e2] [] pos) (tZipV X.K X.s_0.heap.objs.size ta) := by
  refine ⟨fun pins s σ H Q I h => ?_⟩
  refine Call_ (ld_blt I hg hm PyProof.Rows.boot_zip (PyProof.Rows.callWith_type1 (thn (ha.run pos pins s σ H _ I h) fun us s1 ⟨vs, H1, I1, r1, q1⟩ => ?_) hs hpl))
  obtain ⟨a, b, xs, ys, rfl, hx, hy, q⟩ := q1
  obtain ⟨u, v, rfl, ru, rv⟩ := vals2 r1
  cases ru
  cases rv
  obtain ⟨its, rv1, p1, _⟩ := I1.tuple hx
  obtain ⟨its2, rv2, p2, _⟩ := I1.tuple hy
  obtain ⟨o1, ho1, _⟩ := id p1
  obtain ⟨o2, ho2, _⟩ := id p2
  refine call_zipT (show s1.heap.IsTuple a its.toArray from p1) (show s1.heap.IsTuple b its2.toArray from p2) fun h' hz hTI hTO h1 h2 hsz hk => ?_
  have le : ∀ c ∈ [s1.heap.objs.size + 4, s1.heap.objs.size + 2, s1.heap.objs.size + 3, s1.heap.objs.size, s1.heap.objs.size + 1], s1.heap.objs.size ≤ c := fun c hc => by
    simp only [List.mem_cons, List.not_mem_nil, or_false] at hc
    rcases hc with z | z | z | z | z
    · rw [z]; exact Nat.le_add_right _ _
    · rw [z]; exact Nat.le_add_right _ _
    · rw [z]; exact Nat.le_add_right _ _
    · rw [z]; exact Nat.le_refl _
    · rw [z]; exact Nat.le_add_right _ _
  have Z : ZFr H1 X.s_0.heap.objs.size (s1.heap.objs.size + 4) (s1.heap.objs.size + 2) (s1.heap.objs.size + 3) s1.heap.objs.size (s1.heap.objs.size + 1) a b :=
    ⟨PySem.W.ktu_apart s1.heap.objs.size a b (Heap.lt_size ho1) (Heap.lt_size ho2), fun c hc => ⟨I1.hok.fresh (le c hc), Nat.le_trans I1.sz (le c hc)⟩⟩
  refine ⟨.ref (s1.heap.objs.size + 4), zH H1 (s1.heap.objs.size + 4) (s1.heap.objs.size + 2) (s1.heap.objs.size + 3) s1.heap.objs.size (s1.heap.objs.size + 1) a b, inv_note (t' := s1.toks) I1 hk (fun c u e => zH_old Z e) (fun c u e => ?_), rfl, q _ _ _ _ _ Z⟩
  rcases zH_new Z e with q | ⟨hc, _⟩
  · exact .inl q
  · refine .inr ⟨le c hc, ?_⟩
    simp only [List.mem_cons, List.not_mem_nil, or_false] at hc
    rcases hc with rfl | rfl | rfl | rfl | rfl
    · rw [zH_z] at e; cases e
      exact ⟨hz, ⟨_, hz⟩, fun g1 g2 q k => k _ q⟩
    · rw [zH_TI Z.ap] at e; cases e
      exact ⟨hTI, ⟨_, hTI⟩, fun g1 g2 q k => k _ q⟩
    · rw [zH_TO Z.ap] at e; cases e
      exact ⟨hTO, ⟨_, hTO⟩, fun g1 g2 q k => k _ q⟩
    · rw [zH_i1 Z.ap] at e; cases e
      obtain ⟨o, ho, _⟩ := id h1
      exact ⟨h1, ⟨_, ho⟩, fun g1 g2 q k => q.at fun o z => k o z⟩
    · rw [zH_i2 Z.ap] at e; cases e
      obtain ⟨o, ho, _⟩ := id h2
      exact ⟨h2, ⟨_, ho⟩, fun g1 g2 q k => q.at fun o z => k o z⟩
/-- for .. in x, x such a value -/
def iZipV (K : PySem.W.Frag) (n k : Nat) : TI := fun σ H R => ∃ H0 z TI TO i1 i2 a b, σ[k]? = some (some (.ref z)) ∧ H = zH H0 z TI TO i1 i2 a b ∧ ZFr H0 n z TI TO i1 i2 a b ∧ R (ItzT K a b) H0
theorem pi_zipV {k : Nat} {x : Str} (hN : X.N[k]? = some x) (hv : Vis X.env.scope x) (hd : (x == ("__debug__" : Str)) = false) (hcd : (x == ("__classdict__" : Str)) = false) : PI X (.Tuple elts kk tpos) (.Name x p) (iZipV X.K X.s_0.heap.objs.size k) := by
  refine ⟨fun pins s σ H R I h => ?_⟩
  obtain ⟨H0, z, TI, TO, i1, i2, a, b, hs, rfl, Z, q⟩ := h
  refine thn ((pe_var (pos := p) (i := k) hN hv hd hcd).run pins s σ _ (fun v H1 => v = .ref z ∧ H1 = zH H0 z TI TO i1 i2 a b) I ⟨.ref z, hs, rfl, rfl⟩) fun u s1 ⟨v, H1, I1, r1, ev, eH⟩ => ?_
  subst ev
  rw [eH] at I1
  cases r1
  have st : IsZip s1.heap z TI TO .none ∧ IsPair s1.heap TI (.ref i1) (.ref i2) ∧ (∃ x y, IsPair s1.heap TO x y) ∧ s1.heap.IsTupleIter i1 a 0 ∧ s1.heap.IsTupleIter i2 b 0 :=
    ⟨(I1.hok z _ zH_z).1, (I1.hok TI _ (zH_TI Z.ap)).1, ⟨_, _, (I1.hok TO _ (zH_TO Z.ap)).1⟩, (I1.hok i1 _ (zH_i1 Z.ap)).1, (I1.hok i2 _ (zH_i2 Z.ap)).1⟩
  have T := turn_zipT (P := X.prog) (w := X.w) (K := X.K) (elts := elts) (kk := kk) (tpos := tpos) Z.ap
  refine T.self X.A 0 s1 _ _ st ?_
  have I0 : Inv X pins σ H0 s1 := inv_less I1 (fun c u e => zH_old Z e) fun c u e => (zH_new Z e).imp_right fun q => q.2
  refine ⟨z, [z, TI, TO, i1, i2], _, _, H0, rfl, I0, T, st, fun c hc => ?_, q⟩
  have hu : ∃ u, zH H0 z TI TO i1 i2 a b c = some u := by
    have hc2 := hc
    simp only [List.mem_cons, List.not_mem_nil, or_false] at hc2
    rcases hc2 with rfl | rfl | rfl | rfl | rfl
    · exact ⟨_, zH_z⟩
    · exact ⟨_, zH_TI Z.ap⟩
    · exact ⟨_, zH_TO Z.ap⟩
    · exact ⟨_, zH_i1 Z.ap⟩
    · exact ⟨_, zH_i2 Z.ap⟩
  obtain ⟨u, hu⟩ := hu
  exact fp_less I1 hu (Z.fr c hc).2 (Z.fr c hc).1
theorem sss_zret (Y : Hy CX L Γ Φ X) (P : WPass CX X W) {i j : Nat} {x y : Str} {f : String} {scope : Scope} {own : List (Str × Nat)} {is : List Nat} {ft : D → Env → Hd → Res Env} (hfz : "zip" ∈ Γ.free) (hgz : Gl X (sO "zip")) (sa : SE X W a fa) (sb : SE X W b fb) (ha : noSt a = true) (hb : noSt b = true)
    (hi : X.N[i]? = some x) (hx : X.env.scope.names.lookup x = some .local) (hdx : (x == ("__debug__" : Str)) = false ∧ (x == ("__classdict__" : Str)) = false) (hj : X.N[j]? = some y) (hy : Vis X.env.scope y) (hdy : (y == ("__debug__" : Str)) = false ∧ (y == ("__classdict__" : Str)) = false)
    (hf : f ∈ Γ.fns) (hdf : (sO f == ("__debug__" : Str)) = false) (hgf : Gl X (sO f)) (ok : BlkOk X.N X.env.scope scope own) (hsub : ∀ i ∈ is, i ∈ own.map (·.2)) (sg : Blk X scope fun B => SG B W0 is (.Tuple elts kk tpos) ft) (se : Blk X scope fun B => SE B W0 elt fe) :
    SSs X W [.Assign [.Name x p] (.Call (.Name (sO "zip") p2) [a, b] [] p3) pos1, .Return (some (.Call (.Name (sO f) p4) [.Name y p5, .ListComp elt [⟨.Tuple elts kk tpos, .Name x p6, [], 0⟩] scope lpos] [] pos)) pos2]
      (fun ρ h => bndS ρ (fa ρ h) fun x h1 => bndS ρ (fb ρ h1) fun y h2 => (match x, y, (ρ.set i none)[j]? with
        | .v (.tup xs), .v (.tup ys), some (some o) => if xs.length ≤ LINE then bnnS (compL [] (lcEl (own.map (·.2)) ft (fun _ h => some (.ok true h)) fe (ρ.set i none)) (zipL xs ys) h2) fun zs h3 => bndS (ρ.set i none) (Φ f [o, .obj h3.sz] (h3.new (.lst zs))) fun d h4 => some (.rt d h4) else none
        | _, _, _ => none)) := by
  intro M ρ h σ H r D re rh e fin
  obtain ⟨A, hmf, hkf, fd, ps, F, hbF⟩ := Y.fn f hf
  have hr : Room L X.A := Y.room.mono (Nat.le_succ _)
  have pl : PI X (.Tuple elts kk tpos) (.Name x p6) (iZipV X.K X.s_0.heap.objs.size i) := pi_zipV hi (.inl hx) hdx.1 hdx.2
  have plc := pe_lc (pos := lpos) (wi := iZipV X.K X.s_0.heap.objs.size i) (g := fun v σ H Q => Blk X scope fun B => RunG B (.Tuple elts kk tpos) v σ H Q) (tt := fun σ H Q => Blk X scope fun B => RunTs B [] σ H Q) (te := fun σ H Q => Blk X scope fun B => RunE B elt σ H Q) Y.calm Y.nd pl ok
    (fun s H C cl fp => ⟨fun pins s' σ H v u Q I r q => q s _ C cl fp pins s' u I r⟩) (fun s H C cl fp => ⟨fun pins s' σ H Q I q => q s _ C cl fp pins s' I⟩) (fun s H C cl fp => ⟨fun pins s' σ H Q I q => q s _ C cl fp pins s' I⟩) (fun _ => rfl)
  have pa2 := pa_cons (pe_var (pos := p5) (i := j) hj hy hdy.1 hdy.2) (pa_cons plc pa_nil rfl) rfl
  have pc := pe_callS (p := p4) (pos := pos) (E := WE W) F hr hgf hmf hkf hbF P pa2 hdf rfl rfl
  intro pins s I0
  have hil : i < σ.length := by
    have q : i < X.N.length := (List.getElem?_eq_some_iff.mp hi).1
    rw [I0.len]; exact q
  refine RunSs.of (pss_cons (ps_asg (pos := pos1) (pe_zipV (p := p2) (pos := p3) hgz (Y.free _ hfz) (pa_cons RunE.pe (pa_cons RunE.pe pa_nil (starEach_c hb)) (starEach_c ha)) (starEach_c ha) (star_all (es := [b]) (by simp [hb]))) (pg_name (pos := p) (i := i) Y.nd hi (.inl hx) (.inr hx)) rfl rfl rfl) (pss_one (ps_ret (pos := pos2) pc))) ?_ pins s I0
  refine sa.firstS re rh e fin fun x0 h1 e1 M1 H1 v x1 rh1 rt1 re1 fin1 => ?_
  refine sb.firstS re1 rh1 e1 fin1 fun y0 h2 e2 M2 H2 u x2 rh2 rt2 re2 fin2 => ?_
  have e3 := e2
  split at e3
  · rename_i xs ys o ho
    split at e3
    · rename_i hl
      obtain ⟨zs, h3, c1, c2⟩ := bnnS_some e3
      have rt1' := rt1.ext x2
      obtain ⟨A1, vs, rfl, g1, g2⟩ := tup_at rt1'
      obtain ⟨B1, us, rfl, k1, k2⟩ := tup_at rt2
      refine ⟨A1, B1, vs, us, rfl, g1, k1, fun z TI TO i1 i2 Z => ?_⟩
      have re3 : RE X.K M2 H2 (ρ.set i none) (σ.set i (some (.ref z))) := by
        refine ⟨by rw [List.length_set, List.length_set]; exact re2.len, fun n d hd => ?_⟩
        by_cases hn : i = n
        · subst hn
          rw [List.getElem?_set] at hd
          split at hd
          · split at hd
            · cases hd
            · cases hd
          · rename_i q; exact absurd rfl q
        · rw [List.getElem?_set_ne hn] at hd ⊢
          exact re2.get n d hd
      obtain ⟨w, hw, rw⟩ := re3.get j o ho
      refine ⟨w, hw, ?_⟩
      refine ⟨H2, z, TI, TO, i1, i2, A1, B1, by rw [List.getElem?_set_self hil], rfl, Z, ?_⟩
      have wk : WkAt X.K M2 H2 ⟨zipL xs ys, []⟩ (ItzT X.K A1 B1) := wk_zipT (h := h2) rt1' rt2 []
      have sc : Blk X scope fun B => STs B [] (fun _ h => some (.ok true h)) := fun _ _ _ _ _ => sts_nil
      refine lc_tail (w := ⟨zipL xs ys, []⟩) (Q := fun v H' => spF X.K Φ f [w, v] H' D.rt (WE W (σ.set i (some (.ref z))))) hsub sg sc se re3 rh2 wk (by rw [zipL_len, ← line_eq]; omega) c1 fun M3 H3 v3 x3 rh3 rt3 => ?_
      cases rt3 with
      | l f0 f1 f2 f3 =>
        rename_i Dd vz
        have rh4 : RH X.K (M3 ++ [Dd]) (h3.new (.lst zs)) H3 := rh3.name f2 ⟨vz, f1, f3⟩
        have x4 : Ext M2 H2 (M3 ++ [Dd]) H3 := x3.name f0
        have rw4 : RVs X.K (M3 ++ [Dd]) H3 [o, .obj h3.sz] [w, .ref Dd] := .cons (rw.ext x4) (.cons (.obj (by rw [rh3.len, List.getElem?_append_right (Nat.le_refl _)]; simp)) .nil)
        rcases bndS_some c2 with ⟨d, h4, d1, d2⟩ | ⟨cc, fs', h4, d1, d2⟩
        · cases d2
          exact ⟨_, _, _, _, rh4, rw4, d1, fun M' H' v' ex rh' rv' => fin2 M' H' v' (x4.trans ex) rh' rv'⟩
        · subst d2
          refine ⟨_, _, _, _, rh4, rw4, d1, fun M' H' cls dd ex rh' rx => ?_⟩
          exact fin2 M' H' _ cls dd (x4.trans ex) rh' (re3.ext (x4.trans ex)) rx
    · cases e3
  · cases e3
end
end Py


set_option Elab.async false
set_option linter.all false
set_option maxRecDepth 100000
set_option maxHeartbeats 1000000
/-! PyS: does a term of the small language tell an expression of the text? -/
namespace Py
open PySem PySem.Spec L2
open PyProof.Rows hiding St
structure Bk where
  N : List Str
  sc : Scope
  fn : Str → Bool
structure AtB (b : Bk) (X : Cx) : Prop where
  N : X.N = b.N
  sc : X.env.scope = b.sc
  fn : X.fn = b.fn
def glB (b : Bk) (x : Str) : Bool := decide (b.sc.names.lookup x = some .globalImplicit)
def visB (b : Bk) (x : Str) : Bool := match b.sc.names.lookup x with
  | some .local => true
  | some .cell => true
  | some .free => true
  | _ => false
def locB (b : Bk) (x : Str) : Bool := match b.sc.names.lookup x with
  | some .local => true
  | some .cell => b.fn x
  | _ => false
def dbgB (x : Str) : Bool := !(x == ("__debug__" : Str)) && !(x == ("__classdict__" : Str))
def cstB (d : D) (c : Const) : Bool := match d, c with
  | .non, .none => true
  | .bl a, .bool b => a == b
  | .int i, .int j => decide (i = j)
  | .str s, .str t => decide (s = t)
  | _, _ => false
def gcB (Γ : Tab) (x : String) (d : D) : Bool := match d with
  | .int i => decide ((x, i) ∈ Γ.nInts)
  | .str s => Γ.nStrs.any fun p => p.1 == x && decide (sO p.2 = s)
  | _ => false
def isiB (Γ : Tab) (T : String) (cs : List String) : Bool :=
  (["NoneType", "bool", "int", "str", "tuple", "list", "dict"].all fun t => decide ((t, T, (t == T || (t == "bool" && T == "int"))) ∈ Γ.kits) && !Γ.cls.contains t) && decide (T ≠ "NoneType") &&
  (cs.all fun c => Γ.cls.contains c && decide ((c, T, T == c) ∈ Γ.kits)) && ((Γ.cls.contains T && dbgB (sO T)) || (!Γ.cls.contains T && ["bool", "int", "str", "tuple", "list", "dict"].contains T && Γ.free.contains T))
def isSup : Expr → Bool
  | .Call (.Name _ _) [] [] _ => true
  | _ => false
def isRng : It → Bool
  | .rng _ => true
  | _ => false
def isSlc : Expr → Bool
  | .Slice _ _ _ _ => true
  | _ => false
def notSet : Expr → Bool
  | .Set _ _ _ => false
  | _ => true
def tstB : Expr → Bool
  | .IfExp _ _ _ _ => false
  | _ => true
def isBO : Expr → Bool
  | .BoolOp _ _ _ => true
  | _ => false
/-- may be assigned without a swap of the stores -/
def noComp : Expr → Bool
  | .ListComp _ _ _ _ => false
  | .SetComp _ _ _ _ => false
  | .DictComp _ _ _ _ _ => false
  | _ => true
def tgI : Tg → List Nat
  | .nm i => [i]
  | .tp ts => tgIs ts
  | _ => []
where tgIs : Tgs → List Nat
  | .nil => []
  | .cons t ts => tgI t ++ tgIs ts

def ownP (b : Bk) (own : List Nat) : List (Str × Nat) := own.filterMap fun i => (b.N[i]?).map fun x => (x, i)
def blkB (b : Bk) (scope : Scope) : Bk := ⟨b.N, relS scope b.sc, fun x => scope.names.lookup x == some .cell⟩
mutual
def chE (Γ : Tab) : Bk → E → Expr → Bool
  | b, .var i, x => (match x with
    | .Name y _ => decide (b.N[i]? = some y) && visB b y && dbgB y
    | _ => false)
  | b, .cst d, x => (match x with
    | .Constant c _ _ => cstB d c
    | _ => false)
  | b, .gc n d, x => (match x with
    | .Name y _ => decide (y = sO n) && glB b y && dbgB y && gcB Γ n d
    | _ => false)
  | b, .bin o a c, x => (match x with
    | .BinOp l op r _ => decide (op = opr o) && chE Γ b a l && chE Γ b c r
    | _ => false)
  | b, .neg a, x => (match x with
    | .UnaryOp .USub y _ => chE Γ b a y
    | _ => false)
  | b, .nt a, x => (match x with
    | .UnaryOp .Not y _ => chE Γ b a y && tstB y
    | _ => false)
  | b, .cmp o cs a c, x => (match x with
    | .Compare l [op] [r] _ => decide (op = cmr o) && (cs.all fun c => Γ.eqs.contains c) && !behindInMarks op r && chE Γ b a l && chE Γ b c r
    | _ => false)
  | b, .chn o p a c d, x => (match x with
    | .Compare l [op, oq] [m, r] _ => decide (op = cmr o) && decide (oq = cmr p) && !lastMarks [op, oq] [m, r] && chE Γ b a l && chE Γ b c m && chE Γ b d r
    | _ => false)
  | b, .band a c, x => (match x with
    | .BoolOp .And [l, r] _ => chE Γ b a l && tstB l && chE Γ b c r && tstB r
    | .BoolOp .And (l :: r :: r2 :: rest) pos => chE Γ b a l && tstB l && chE Γ b c (.BoolOp .And (r :: r2 :: rest) pos)
    | _ => false)
  | b, .bor a c, x => (match x with
    | .BoolOp .Or [l, r] _ => chE Γ b a l && tstB l && chE Γ b c r && tstB r
    | .BoolOp .Or (l :: r :: r2 :: rest) pos => chE Γ b a l && tstB l && chE Γ b c (.BoolOp .Or (r :: r2 :: rest) pos)
    | _ => false)
  | b, .ite c a d, x => (match x with
    | .IfExp t l r _ => chE Γ b c t && tstB t && chE Γ b a l && chE Γ b d r
    | _ => false)
  | b, .fld a f cs, x => (match x with
    | .Attribute y g _ => decide (g = sO f) && !isSup y && (cs.all fun c => decide ((c, f) ∈ Γ.flds)) && chE Γ b a y
    | _ => false)
  | b, .idx a i, x => (match x with
    | .Subscript y j _ => !isSlc j && chE Γ b a y && chE Γ b i j
    | _ => false)
  | b, .slc a lo hi, x => (match x with
    | .Subscript y (.Slice l h none _) _ => chE Γ b a y && (match l with
      | none => isNonE lo
      | some l => !isNonE lo && chE Γ b lo l) && (match h with
      | none => isNonE hi
      | some h => !isNonE hi && chE Γ b hi h)
    | _ => false)
  | b, .tup es, x => (match x with
    | .Tuple ys _ _ => chEs Γ b es ys && decide (ys.length ≤ 1000)
    | _ => false)
  | b, .lst es, x => (match x with
    | .List ys _ => chEs Γ b es ys && decide (ys.length ≤ 1000)
    | _ => false)
  | b, .lc tg own it ifs el, x => (match x with
    | .ListComp elt [⟨tg', iter, ifs', as⟩] scope _ => decide (as = 0) && blkC b.N b.sc scope (ownP b own) && decide ((ownP b own).map (·.2) = own) && (tgI tg).all (fun i => own.contains i) && notSet iter &&
        chI Γ b tg' it iter && chT Γ (blkB b scope) tg tg' && (match ifs' with
        | [] => (match ifs with
          | .nil => true
          | _ => false)
        | [c] => (match ifs with
          | .cons e .nil => chE Γ (blkB b scope) e c && tstB c
          | _ => false)
        | _ => false) && chE Γ (blkB b scope) el elt
    | _ => false)
  | b, .call f es, x => (match x with
    | .Call (.Name y _) ys [] _ => decide (y = sO f) && glB b y && dbgB y && Γ.fns.contains f && chEs Γ b es ys
    | _ => false)
  | b, .mk f es, x => (match x with
    | .Call (.Name y _) ys [] _ => decide (y = sO f) && glB b y && dbgB y && Γ.cls.contains f && chEs Γ b es ys
    | _ => false)
  | b, .bm T m o es, x => (match x with
    | .Call (.Attribute y g apos) ys [] pos => decide (g = sO m) && !isSup y && (bmId T m).isSome && (apos.endLine == pos.line) && decide (ys.length < 30) && chE Γ b o y && chEs Γ b es ys
    | _ => false)
  | b, .blt f es, x => (match x with
    | .Call (.Name y _) (y1 :: ys) [] _ => decide (y = sO f) && glB b y && (bltV f).isSome && Γ.free.contains f && chEs Γ b es (y1 :: ys)
    | _ => false)
  | b, .isi a ts cs, x => (match x with
    | .Call (.Name y _) [z, .Name T _] [] _ => (match ts with
      | [t] => decide (y = sO "isinstance") && glB b y && decide (T = sO t) && glB b T && isiB Γ t cs && Γ.free.contains "isinstance" && noSt z && chE Γ b a z
      | _ => false)
    | .Call (.Name y _) [z, .Tuple [.Name T _, .Name U _] _ _] [] _ => (match ts with
      | [t, u] => decide (y = sO "isinstance") && glB b y && decide (T = sO t) && glB b T && decide (U = sO u) && glB b U && isiB Γ t cs && isiB Γ u cs && Γ.free.contains "isinstance" && noSt z && chE Γ b a z
      | _ => false)
    | _ => false)
  | b, .rev a, x => (match x with
    | .Subscript y (.Slice none none (some (.UnaryOp .USub (.Constant (.int 1) _ _) _)) _) _ => chE Γ b a y
    | _ => false)
  | b, .itb f it, x => (match x with
    | .Call (.Name y _) [c] [] _ => (decide (f = "list") || decide (f = "tuple")) && decide (y = sO f) && glB b y && Γ.free.contains f && isRng it && chI Γ b c it c
    | _ => false)
  | b, .sset a, x => (match x with
    | .Call (.Name y _) [.Call (.Name z _) [u] [] _] [] _ => decide (y = sO "sorted") && glB b y && Γ.free.contains "sorted" && decide (z = sO "set") && glB b z && Γ.free.contains "set" && noSt u && chE Γ b a u
    | _ => false)
  | _, _, _ => false
def chEs (Γ : Tab) : Bk → Es → List Expr → Bool
  | b, .nil, xs => (match xs with
    | [] => true
    | _ => false)
  | b, .cons e es, xs => (match xs with
    | x :: ys => noSt x && chE Γ b e x && chEs Γ b es ys
    | _ => false)
def chI (Γ : Tab) : Bk → Expr → It → Expr → Bool
  | b, tg, .seq e, x => chE Γ b e x
  | b, tg, .rng es, x => (match x with
    | .Call (.Name y _) ys [] _ => decide (y = sO "range") && glB b y && Γ.free.contains "range" && decide (1 ≤ ys.length ∧ ys.length ≤ 3) && chEs Γ b es ys
    | _ => false)
  | b, tg, .enm e, x => (match x with
    | .Call (.Name y _) [z] [] _ => decide (y = sO "enumerate") && glB b y && Γ.free.contains "enumerate" && noSt z && chE Γ b e z && (match tg with
      | .Tuple _ _ _ => true
      | _ => false)
    | _ => false)
  | b, tg, .zip e f, x => (match x with
    | .Call (.Name y _) [z, u] [] _ => decide (y = sO "zip") && glB b y && Γ.free.contains "zip" && noSt z && noSt u && chE Γ b e z && chE Γ b f u && (match tg with
      | .Tuple _ _ _ => true
      | _ => false)
    | _ => false)
  | b, tg, .rvd e, x => (match x with
    | .Call (.Name y _) [z] [] _ => decide (y = sO "reversed") && glB b y && Γ.free.contains "reversed" && noSt z && chE Γ b e z
    | _ => false)
def chT (Γ : Tab) : Bk → Tg → Expr → Bool
  | b, .nm i, x => (match x with
    | .Name y _ => decide (b.N[i]? = some y) && locB b y
    | _ => false)
  | b, .tp ts, x => (match x with
    | .Tuple ys _ _ => chTs Γ b ts ys
    | _ => false)
  | b, .ix o i, x => (match x with
    | .Subscript y j _ => noSlice j && chE Γ b o y && chE Γ b i j
    | _ => false)
  | b, .fd o f cs, x => (match x with
    | .Attribute y g _ => decide (g = sO f) && (cs.all fun c => decide ((c, f) ∈ Γ.flds)) && chE Γ b o y
    | _ => false)
def chTs (Γ : Tab) : Bk → Tgs → List Expr → Bool
  | b, .nil, xs => (match xs with
    | [] => true
    | _ => false)
  | b, .cons t ts, xs => (match xs with
    | x :: ys => noSt x && chT Γ b t x && chTs Γ b ts ys
    | _ => false)
end
end Py


set_option Elab.async false
set_option linter.all false
set_option maxRecDepth 100000
set_option maxHeartbeats 4000000
/-! PyT: what is checked is so: expressions. -/
namespace Py
open PySem PySem.Spec L2
open PyProof.Rows hiding St
structure OkE (X : Cx) (W : WX) (x : Expr) (f : Env → Hd → Res TV) : Prop where
  se : SE X W x f
  st : tstB x = true → ST X W x f
  sw : isBO x = true → SW X W x f
theorem OkE.plain {X : Cx} {W : WX} {x : Expr} {f : Env → Hd → Res TV} (s : SE X W x f) (he : ∀ whole, isTrue x X.env whole = (do let v ← whole; standAt x.pos; holding [v] (truthy v))) (hb : isBO x = false) : OkE X W x f :=
  ⟨s, fun _ => s.st he, fun h => (by rw [hb] at h; cases h)⟩
theorem OkE.congr {X : Cx} {W : WX} {x : Expr} {f g : Env → Hd → Res TV} (h : f = g) (o : OkE X W x f) : OkE X W x g := h ▸ o
section
variable {CX : CXT} {L : Nat} {Γ : Tab} {Φ : Calls} {X : Cx} {W : WX} {b : Bk}
theorem vis_of {b : Bk} (A : AtB b X) {y : Str} (h : visB b y = true) : Vis X.env.scope y := by
  unfold visB at h
  rw [← A.sc] at h
  unfold Vis
  split at h
  · rename_i q; exact .inl q
  · rename_i q; exact .inr (.inl q)
  · rename_i q; exact .inr (.inr q)
  · cases h
theorem gl_of {b : Bk} (A : AtB b X) {y : Str} (h : glB b y = true) : Gl X y := by
  unfold glB at h
  rw [← A.sc] at h
  have h2 : X.env.scope.names.lookup y = some .globalImplicit := of_decide_eq_true h
  exact h2
theorem dbg_of {y : Str} (h : dbgB y = true) : (y == ("__debug__" : Str)) = false ∧ (y == ("__classdict__" : Str)) = false := by
  unfold dbgB at h
  rw [Bool.and_eq_true, Bool.not_eq_true', Bool.not_eq_true'] at h
  exact h
theorem loc_of {b : Bk} (A : AtB b X) {y : Str} (h : locB b y = true) : L2.Loc X.env.scope y ∧ (X.fn y = true ∨ X.env.scope.names.lookup y = some .local) := by
  unfold locB at h
  rw [← A.sc] at h
  unfold L2.Loc
  split at h
  · rename_i q; exact ⟨.inl q, .inr q⟩
  · rename_i q; exact ⟨.inr q, .inl (by rw [A.fn]; exact h)⟩
  · cases h
theorem ok_var (A : AtB b X) {i : Nat} {x : Expr} (h : chE Γ b (.var i) x = true) : OkE X W x (evX Φ (.var i)) := by
  unfold chE at h
  split at h
  · simp only [Bool.and_eq_true, decide_eq_true_eq] at h
    obtain ⟨⟨h1, h2⟩, h3⟩ := h
    obtain ⟨d1, d2⟩ := dbg_of h3
    exact .plain (se_var (by rw [A.N]; exact h1) (vis_of A h2) d1 d2) (fun _ => rfl) rfl
  · cases h
theorem ok_cst {d : D} {x : Expr} (h : chE Γ b (.cst d) x = true) : OkE X W x (evX Φ (.cst d)) := by
  unfold chE at h
  split at h
  · unfold cstB at h
    split at h
    · exact .plain (se_cst pe_non fun _ _ => .non) (fun _ => rfl) rfl
    · have := eq_of_beq h; subst this
      exact .plain (se_cst pe_bl fun _ _ => .bl _) (fun _ => rfl) rfl
    · have := of_decide_eq_true h; subst this
      exact .plain (se_cst pe_int fun _ _ => .int _) (fun _ => rfl) rfl
    · have := of_decide_eq_true h; subst this
      exact .plain (se_cst pe_str fun _ _ => .str _) (fun _ => rfl) rfl
    · cases h
  · cases h
theorem ok_gc (A : AtB b X) (Y : Hy CX L Γ Φ X) {n : String} {d : D} {x : Expr} (h : chE Γ b (.gc n d) x = true) : OkE X W x (evX Φ (.gc n d)) := by
  unfold chE at h
  split at h
  · simp only [Bool.and_eq_true, decide_eq_true_eq] at h
    obtain ⟨⟨⟨h1, h2⟩, h3⟩, h4⟩ := h
    subst h1
    obtain ⟨d1, d2⟩ := dbg_of h3
    unfold gcB at h4
    split at h4
    · obtain ⟨u, hm, hr⟩ := Y.int _ (of_decide_eq_true h4)
      exact .plain (se_glob (gl_of A h2) hm hr d1 fun _ _ => .int _) (fun _ => rfl) rfl
    · rw [List.any_eq_true] at h4
      obtain ⟨p, hp, hq⟩ := h4
      rw [Bool.and_eq_true] at hq
      have e1 := eq_of_beq hq.1
      have e2 := of_decide_eq_true hq.2
      obtain ⟨u, hm, hr⟩ := Y.str _ hp
      rw [e1] at hm
      rw [e2] at hr
      exact .plain (se_glob (gl_of A h2) hm hr d1 fun _ _ => .str _) (fun _ => rfl) rfl
    · cases h4
  · cases h
theorem eqs_of {cs : List String} (h : (cs.all fun c => Γ.eqs.contains c) = true) : ∀ c ∈ cs, c ∈ Γ.eqs := fun c hc => List.contains_iff_mem.mp (List.all_eq_true.mp h c hc)
theorem flds_of {f : String} {cs : List String} (h : (cs.all fun c => decide ((c, f) ∈ Γ.flds)) = true) : ∀ c ∈ cs, (c, f) ∈ Γ.flds := fun c hc => of_decide_eq_true (List.all_eq_true.mp h c hc)
theorem base_of {y : Expr} {g : Str} (h : isSup y = false) : attributeBase y g X.env (eval y X.env) = eval y X.env := by
  unfold attributeBase
  cases y <;> first | rfl | skip
  rename_i f args kws pos
  cases f <;> first | rfl | skip
  cases args <;> first | rfl | skip
  cases kws <;> first | rfl | skip
  cases h
theorem plainIx_of {j : Expr} (h : isSlc j = false) : PlainIx j := by
  intro o i
  cases j <;> first | rfl | cases h
theorem folded_of {x : Expr} (h : notSet x = true) : ∀ v, foldedSetIterable x X.env v = pure v := by
  intro v
  cases x <;> first | rfl | cases h
theorem isi_of {T : String} {cs : List String} (h : isiB Γ T cs = true) : (∀ t ∈ ["NoneType", "bool", "int", "str", "tuple", "list", "dict"], (t, T, (t == T || (t == "bool" && T == "int"))) ∈ Γ.kits) ∧ (∀ t ∈ ["NoneType", "bool", "int", "str", "tuple", "list", "dict"], Γ.cls.contains t = false) ∧ T ≠ "NoneType" ∧
    (∀ c ∈ cs, c ∈ Γ.cls ∧ (c, T, T == c) ∈ Γ.kits) ∧ ((T ∈ Γ.cls ∧ (sO T == ("__debug__" : Str)) = false) ∨ (Γ.cls.contains T = false ∧ T ∈ ["bool", "int", "str", "tuple", "list", "dict"] ∧ T ∈ Γ.free)) := by
  unfold isiB at h
  rw [Bool.and_eq_true, Bool.and_eq_true, Bool.and_eq_true] at h
  obtain ⟨⟨⟨h1, h2⟩, h3⟩, h4⟩ := h
  rw [List.all_eq_true] at h1 h3
  refine ⟨fun t ht => ?_, fun t ht => ?_, of_decide_eq_true h2, fun c hc => ?_, ?_⟩
  · have := h1 t ht
    rw [Bool.and_eq_true] at this
    exact of_decide_eq_true this.1
  · have := h1 t ht
    rw [Bool.and_eq_true] at this
    simpa using this.2
  · have := h3 c hc
    rw [Bool.and_eq_true] at this
    exact ⟨List.contains_iff_mem.mp this.1, of_decide_eq_true this.2⟩
  · rw [Bool.or_eq_true] at h4
    rcases h4 with h4 | h4
    · rw [Bool.and_eq_true] at h4
      exact .inl ⟨List.contains_iff_mem.mp h4.1, (dbg_of h4.2).1⟩
    · rw [Bool.and_eq_true, Bool.and_eq_true] at h4
      exact .inr ⟨by simpa using h4.1.1, List.contains_iff_mem.mp h4.1.2, List.contains_iff_mem.mp h4.2⟩
theorem Hy.blk (Y : Hy CX L Γ Φ X) (s : Shared) (H : Hp) (scope : Scope) (e : PySem.Env) (fp : List Addr) : Hy CX L Γ Φ (X.blk s H scope e fp) where
  calm := Y.calm
  nd := Y.nd
  room := Y.room
  fn := fun f hf => let ⟨a, h1, h2, F⟩ := Y.fn f hf; ⟨a, h1, h2, ⟨F.ex⟩⟩
  mkr := fun f hf => let ⟨a, h1, h2, F⟩ := Y.mkr f hf; ⟨a, h1, h2, ⟨F.ex⟩⟩
  cl := Y.cl
  na := Y.na
  mt := fun f hf => let ⟨a, h1, F⟩ := Y.mt f hf; ⟨a, h1, ⟨F.ex⟩⟩
  eq := fun f hf => let ⟨a, h1, h2, h3, h4, F⟩ := Y.eq f hf; ⟨a, h1, h2, h3, h4, ⟨F.ex⟩⟩
  int := Y.int
  str := Y.str
  free := Y.free
  isi := Y.isi
  kit := Y.kit
  cx0 := Y.cx0
theorem wpass0 (Y : Hy CX L Γ Φ X) {s : Shared} {H : Hp} {scope : Scope} {e : PySem.Env} {fp : List Addr} : WPass CX (X.blk s H scope e fp) W0 := by
  intro σ pins H' s' u s'' I c
  exact (Y.cx0 _ _ _ _ _ c).elim
theorem AtB.blk {b : Bk} (A : AtB b X) (s : Shared) (H : Hp) (scope : Scope) (C : Addr) (cl : List (Str × Addr)) (fp : List Addr) : AtB (blkB b scope) (X.blk s H scope (compEnvC scope cl C X.env) fp) :=
  ⟨A.N, by show relS scope X.env.scope = relS scope b.sc; rw [A.sc], rfl⟩
end
end Py


set_option Elab.async false
set_option linter.all false
set_option maxRecDepth 100000
set_option maxHeartbeats 4000000
/-! PyU: what is checked is so: expressions, together. -/
namespace Py
open PySem PySem.Spec L2
open PyProof.Rows hiding St
structure OkA (X : Cx) (W : WX) (xs : List Expr) (f : Env → Hd → Res (List TV)) : Prop where
  sa : SA X W xs f
  len : ∀ ρ h ys h', f ρ h = some (.ok ys h') → ys.length = xs.length
  ns : xs.all noSt = true
structure OkT (X : Cx) (W : WX) (is : List Nat) (x : Expr) (f : D → Env → Hd → Res Env) : Prop where
  sg : SG X W is x f
structure OkTs (X : Cx) (W : WX) (is : List Nat) (xs : List Expr) (f : List D → Env → Hd → Res Env) : Prop where
  sgs : SGs X W is xs f
  len : ∀ ds ρ h r, f ds ρ h = some r → okG r → ds.length = xs.length
  ns : xs.all noSt = true
def AllX (CX : CXT) (L : Nat) (Γ : Tab) (Φ : Calls) (b : Bk) (P : Cx → WX → Prop) : Prop := ∀ X W, AtB b X → Hy CX L Γ Φ X → WPass CX X W → P X W
section
variable {CX : CXT} {L : Nat} {Γ : Tab} {Φ : Calls} {b : Bk}
theorem cmr_eq {op : CmpOp} {o : COp} (h : decide (op = cmr o) = true) : op = cmr o := of_decide_eq_true h
theorem k_bin {o : BOp} {a c : E} {x : Expr} (iha : ∀ x, chE Γ b a x = true → AllX CX L Γ Φ b fun X W => OkE X W x (evX Φ a)) (ihc : ∀ x, chE Γ b c x = true → AllX CX L Γ Φ b fun X W => OkE X W x (evX Φ c)) (h : chE Γ b (.bin o a c) x = true) : AllX CX L Γ Φ b fun X W => OkE X W x (evX Φ (.bin o a c)) := by
  intro X W A Y P
  unfold chE at h
  split at h
  · simp only [Bool.and_eq_true, decide_eq_true_eq] at h
    obtain ⟨⟨h1, h2⟩, h3⟩ := h
    subst h1
    exact .plain (se_bin (iha _ h2 X W A Y P).se (ihc _ h3 X W A Y P).se) (fun _ => rfl) rfl
  · cases h
theorem k_neg {a : E} {x : Expr} (iha : ∀ x, chE Γ b a x = true → AllX CX L Γ Φ b fun X W => OkE X W x (evX Φ a)) (h : chE Γ b (.neg a) x = true) : AllX CX L Γ Φ b fun X W => OkE X W x (evX Φ (.neg a)) := by
  intro X W A Y P
  unfold chE at h
  split at h
  · exact .plain (se_neg (iha _ h X W A Y P).se) (fun _ => rfl) rfl
  · cases h
theorem k_nt {a : E} {x : Expr} (iha : ∀ x, chE Γ b a x = true → AllX CX L Γ Φ b fun X W => OkE X W x (evX Φ a)) (h : chE Γ b (.nt a) x = true) : AllX CX L Γ Φ b fun X W => OkE X W x (evX Φ (.nt a)) := by
  intro X W A Y P
  unfold chE at h
  split at h
  · rw [Bool.and_eq_true] at h
    have o := iha _ h.1 X W A Y P
    exact ⟨se_not o.se, fun _ => st_not (o.st h.2), fun z => (by cases z)⟩
  · cases h
theorem k_cmp {o : COp} {cs : List String} {a c : E} {x : Expr} (iha : ∀ x, chE Γ b a x = true → AllX CX L Γ Φ b fun X W => OkE X W x (evX Φ a)) (ihc : ∀ x, chE Γ b c x = true → AllX CX L Γ Φ b fun X W => OkE X W x (evX Φ c)) (h : chE Γ b (.cmp o cs a c) x = true) : AllX CX L Γ Φ b fun X W => OkE X W x (evX Φ (.cmp o cs a c)) := by
  intro X W A Y P
  unfold chE at h
  split at h
  · rw [Bool.and_eq_true, Bool.and_eq_true, Bool.and_eq_true, Bool.and_eq_true] at h
    obtain ⟨⟨⟨⟨h1, h2⟩, h3⟩, h4⟩, h5⟩ := h
    have e := cmr_eq h1
    subst e
    rw [Bool.not_eq_true'] at h3
    have oa := iha _ h4 X W A Y P
    have oc := ihc _ h5 X W A Y P
    exact ⟨se_cmp Y (eqs_of h2) oa.se oc.se h3, fun _ => st_cmp Y (eqs_of h2) oa.se oc.se h3, fun z => (by cases z)⟩
  · cases h
theorem k_chn {o p : COp} {a c d : E} {x : Expr} (iha : ∀ x, chE Γ b a x = true → AllX CX L Γ Φ b fun X W => OkE X W x (evX Φ a)) (ihc : ∀ x, chE Γ b c x = true → AllX CX L Γ Φ b fun X W => OkE X W x (evX Φ c)) (ihd : ∀ x, chE Γ b d x = true → AllX CX L Γ Φ b fun X W => OkE X W x (evX Φ d)) (h : chE Γ b (.chn o p a c d) x = true) : AllX CX L Γ Φ b fun X W => OkE X W x (evX Φ (.chn o p a c d)) := by
  intro X W A Y P
  unfold chE at h
  split at h
  · rw [Bool.and_eq_true, Bool.and_eq_true, Bool.and_eq_true, Bool.and_eq_true, Bool.and_eq_true] at h
    obtain ⟨⟨⟨⟨⟨h1, h2⟩, h3⟩, h4⟩, h5⟩, h6⟩ := h
    have e := cmr_eq h1
    have e' := cmr_eq h2
    subst e; subst e'
    rw [Bool.not_eq_true'] at h3
    have oa := iha _ h4 X W A Y P
    have oc := ihc _ h5 X W A Y P
    have od := ihd _ h6 X W A Y P
    exact ⟨se_chn Y oa.se oc.se od.se h3, fun _ => st_chn Y oa.se oc.se od.se h3, fun z => (by cases z)⟩
  · cases h
theorem k_band {a c : E} {x : Expr} (iha : ∀ x, chE Γ b a x = true → AllX CX L Γ Φ b fun X W => OkE X W x (evX Φ a)) (ihc : ∀ x, chE Γ b c x = true → AllX CX L Γ Φ b fun X W => OkE X W x (evX Φ c)) (h : chE Γ b (.band a c) x = true) : AllX CX L Γ Φ b fun X W => OkE X W x (evX Φ (.band a c)) := by
  intro X W A Y P
  unfold chE at h
  split at h
  · rename_i l r pos
    rw [Bool.and_eq_true, Bool.and_eq_true, Bool.and_eq_true] at h
    obtain ⟨⟨⟨h1, h2⟩, h3⟩, h4⟩ := h
    have oa := iha _ h1 X W A Y P
    have oc := ihc _ h3 X W A Y P
    have w : SW X W (.BoolOp .And [l, r] pos) (evX Φ (.band a c)) := sw_and (oa.st h2) (sw_one1 (oc.st h4))
    exact ⟨se_and (p2 := ⟨0, 0, 0, 0⟩) oa.se (se_one oc.se), fun _ => w.st, fun _ => w⟩
  · rename_i l r r2 rest pos
    rw [Bool.and_eq_true, Bool.and_eq_true] at h
    obtain ⟨⟨h1, h2⟩, h3⟩ := h
    have oa := iha _ h1 X W A Y P
    have oc := ihc _ h3 X W A Y P
    have w : SW X W (.BoolOp .And (l :: r :: r2 :: rest) pos) (evX Φ (.band a c)) := sw_and (oa.st h2) (oc.sw rfl)
    exact ⟨se_and (p2 := ⟨0, 0, 0, 0⟩) oa.se oc.se, fun _ => w.st, fun _ => w⟩
  · cases h
theorem k_bor {a c : E} {x : Expr} (iha : ∀ x, chE Γ b a x = true → AllX CX L Γ Φ b fun X W => OkE X W x (evX Φ a)) (ihc : ∀ x, chE Γ b c x = true → AllX CX L Γ Φ b fun X W => OkE X W x (evX Φ c)) (h : chE Γ b (.bor a c) x = true) : AllX CX L Γ Φ b fun X W => OkE X W x (evX Φ (.bor a c)) := by
  intro X W A Y P
  unfold chE at h
  split at h
  · rename_i l r pos
    rw [Bool.and_eq_true, Bool.and_eq_true, Bool.and_eq_true] at h
    obtain ⟨⟨⟨h1, h2⟩, h3⟩, h4⟩ := h
    have oa := iha _ h1 X W A Y P
    have oc := ihc _ h3 X W A Y P
    have w : SW X W (.BoolOp .Or [l, r] pos) (evX Φ (.bor a c)) := sw_or (oa.st h2) (sw_one2 (oc.st h4))
    exact ⟨se_or (p2 := ⟨0, 0, 0, 0⟩) oa.se (se_one oc.se), fun _ => w.st, fun _ => w⟩
  · rename_i l r r2 rest pos
    rw [Bool.and_eq_true, Bool.and_eq_true] at h
    obtain ⟨⟨h1, h2⟩, h3⟩ := h
    have oa := iha _ h1 X W A Y P
    have oc := ihc _ h3 X W A Y P
    have w : SW X W (.BoolOp .Or (l :: r :: r2 :: rest) pos) (evX Φ (.bor a c)) := sw_or (oa.st h2) (oc.sw rfl)
    exact ⟨se_or (p2 := ⟨0, 0, 0, 0⟩) oa.se oc.se, fun _ => w.st, fun _ => w⟩
  · cases h
theorem k_ite {c a d : E} {x : Expr} (ihc : ∀ x, chE Γ b c x = true → AllX CX L Γ Φ b fun X W => OkE X W x (evX Φ c)) (iha : ∀ x, chE Γ b a x = true → AllX CX L Γ Φ b fun X W => OkE X W x (evX Φ a)) (ihd : ∀ x, chE Γ b d x = true → AllX CX L Γ Φ b fun X W => OkE X W x (evX Φ d)) (h : chE Γ b (.ite c a d) x = true) : AllX CX L Γ Φ b fun X W => OkE X W x (evX Φ (.ite c a d)) := by
  intro X W A Y P
  unfold chE at h
  split at h
  · rw [Bool.and_eq_true, Bool.and_eq_true, Bool.and_eq_true] at h
    obtain ⟨⟨⟨h1, h2⟩, h3⟩, h4⟩ := h
    exact ⟨se_ite ((ihc _ h1 X W A Y P).st h2) (iha _ h3 X W A Y P).se (ihd _ h4 X W A Y P).se, fun z => (by cases z), fun z => (by cases z)⟩
  · cases h
theorem k_fld {a : E} {f : String} {cs : List String} {x : Expr} (iha : ∀ x, chE Γ b a x = true → AllX CX L Γ Φ b fun X W => OkE X W x (evX Φ a)) (h : chE Γ b (.fld a f cs) x = true) : AllX CX L Γ Φ b fun X W => OkE X W x (evX Φ (.fld a f cs)) := by
  intro X W A Y P
  unfold chE at h
  split at h
  · rw [Bool.and_eq_true, Bool.and_eq_true, Bool.and_eq_true] at h
    obtain ⟨⟨⟨h1, h2⟩, h3⟩, h4⟩ := h
    have e := of_decide_eq_true h1
    subst e
    rw [Bool.not_eq_true'] at h2
    exact .plain (se_fld Y (flds_of h3) (iha _ h4 X W A Y P).se (base_of h2)) (fun _ => rfl) rfl
  · cases h
theorem k_idx {a i : E} {x : Expr} (iha : ∀ x, chE Γ b a x = true → AllX CX L Γ Φ b fun X W => OkE X W x (evX Φ a)) (ihi : ∀ x, chE Γ b i x = true → AllX CX L Γ Φ b fun X W => OkE X W x (evX Φ i)) (h : chE Γ b (.idx a i) x = true) : AllX CX L Γ Φ b fun X W => OkE X W x (evX Φ (.idx a i)) := by
  intro X W A Y P
  unfold chE at h
  split at h
  · rw [Bool.and_eq_true, Bool.and_eq_true] at h
    obtain ⟨⟨h1, h2⟩, h3⟩ := h
    rw [Bool.not_eq_true'] at h1
    exact .plain (se_idx (by have := Y.u65; omega) (iha _ h2 X W A Y P).se (ihi _ h3 X W A Y P).se (plainIx_of h1)) (fun _ => rfl) rfl
  · cases h
theorem so_of {e : E} {o : Option Expr} {X : Cx} {W : WX} (ih : ∀ x, chE Γ b e x = true → AllX CX L Γ Φ b fun X W => OkE X W x (evX Φ e)) (A : AtB b X) (Y : Hy CX L Γ Φ X) (P : WPass CX X W) (h : (match o with
      | none => isNonE e
      | some l => !isNonE e && chE Γ b e l) = true) : SO X W o e (evX Φ e) := by
  cases o with
  | none =>
    refine ⟨h, fun ρ hh => ?_⟩
    have h2 : isNonE e = true := h
    cases e with
    | cst d =>
      cases d with
      | non => rfl
      | _ => cases h2
    | _ => cases h2
  | some l =>
    simp only [Bool.and_eq_true, Bool.not_eq_true'] at h
    exact ⟨h.1, (ih _ h.2 X W A Y P).se⟩
theorem k_slc {a lo hi : E} {x : Expr} (iha : ∀ x, chE Γ b a x = true → AllX CX L Γ Φ b fun X W => OkE X W x (evX Φ a)) (ihl : ∀ x, chE Γ b lo x = true → AllX CX L Γ Φ b fun X W => OkE X W x (evX Φ lo)) (ihh : ∀ x, chE Γ b hi x = true → AllX CX L Γ Φ b fun X W => OkE X W x (evX Φ hi)) (h : chE Γ b (.slc a lo hi) x = true) : AllX CX L Γ Φ b fun X W => OkE X W x (evX Φ (.slc a lo hi)) := by
  intro X W A Y P
  unfold chE at h
  split at h
  · rw [Bool.and_eq_true, Bool.and_eq_true] at h
    obtain ⟨⟨h1, h2⟩, h3⟩ := h
    exact .plain (se_slc (iha _ h1 X W A Y P).se (so_of ihl A Y P h2) (so_of ihh A Y P h3)) (fun _ => rfl) rfl
  · cases h
theorem line_1000 {n m : Nat} (h : n = m) (h2 : m ≤ 1000) : n ≤ LINE := by
  have : (1000 : Nat) ≤ LINE := by decide
  omega
theorem k_tup {es : Es} {x : Expr} (ih : ∀ xs, chEs Γ b es xs = true → AllX CX L Γ Φ b fun X W => OkA X W xs (evXs Φ es)) (h : chE Γ b (.tup es) x = true) : AllX CX L Γ Φ b fun X W => OkE X W x (evX Φ (.tup es)) := by
  intro X W A Y P
  unfold chE at h
  split at h
  · rw [Bool.and_eq_true] at h
    have o := ih _ h.1 X W A Y P
    have hl := of_decide_eq_true h.2
    exact .plain (se_tup o.sa fun ρ h xs h' e => line_1000 (o.len ρ h xs h' e) hl) (fun _ => rfl) rfl
  · cases h
theorem k_lst {es : Es} {x : Expr} (ih : ∀ xs, chEs Γ b es xs = true → AllX CX L Γ Φ b fun X W => OkA X W xs (evXs Φ es)) (h : chE Γ b (.lst es) x = true) : AllX CX L Γ Φ b fun X W => OkE X W x (evX Φ (.lst es)) := by
  intro X W A Y P
  unfold chE at h
  split at h
  · rw [Bool.and_eq_true] at h
    have o := ih _ h.1 X W A Y P
    have hl := of_decide_eq_true h.2
    exact .plain (se_lst o.sa fun ρ h xs h' e => line_1000 (o.len ρ h xs h' e) hl) (fun _ => rfl) rfl
  · cases h
theorem k_call {f : String} {es : Es} {x : Expr} (ih : ∀ xs, chEs Γ b es xs = true → AllX CX L Γ Φ b fun X W => OkA X W xs (evXs Φ es)) (h : chE Γ b (.call f es) x = true) : AllX CX L Γ Φ b fun X W => OkE X W x (evX Φ (.call f es)) := by
  intro X W A Y P
  unfold chE at h
  split at h
  · rename_i y p ys pos
    rw [Bool.and_eq_true, Bool.and_eq_true, Bool.and_eq_true, Bool.and_eq_true] at h
    obtain ⟨⟨⟨⟨h1, h2⟩, h3⟩, h4⟩, h5⟩ := h
    have e := of_decide_eq_true h1
    subst e
    have o := ih _ h5 X W A Y P
    have hf := List.contains_iff_mem.mp h4
    cases ys with
    | nil =>
      cases es with
      | nil => exact .plain (se_call0 Y P hf (dbg_of h3).1 (gl_of A h2)) (fun _ => rfl) rfl
      | cons _ _ => simp [chEs] at h5
    | cons y1 ys => exact .plain (se_call Y P hf (dbg_of h3).1 (gl_of A h2) o.sa o.ns) (fun _ => rfl) rfl
  · cases h
theorem k_mk {f : String} {es : Es} {x : Expr} (ih : ∀ xs, chEs Γ b es xs = true → AllX CX L Γ Φ b fun X W => OkA X W xs (evXs Φ es)) (h : chE Γ b (.mk f es) x = true) : AllX CX L Γ Φ b fun X W => OkE X W x (evX Φ (.mk f es)) := by
  intro X W A Y P
  unfold chE at h
  split at h
  · rename_i y p ys pos
    rw [Bool.and_eq_true, Bool.and_eq_true, Bool.and_eq_true, Bool.and_eq_true] at h
    obtain ⟨⟨⟨⟨h1, h2⟩, h3⟩, h4⟩, h5⟩ := h
    have e := of_decide_eq_true h1
    subst e
    have o := ih _ h5 X W A Y P
    have hf := List.contains_iff_mem.mp h4
    cases ys with
    | nil =>
      cases es with
      | nil => exact .plain (se_mk0 Y P hf (dbg_of h3).1 (gl_of A h2)) (fun _ => rfl) rfl
      | cons _ _ => simp [chEs] at h5
    | cons y1 ys => exact .plain (se_mk Y P hf (dbg_of h3).1 (gl_of A h2) o.sa o.ns) (fun _ => rfl) rfl
  · cases h
theorem k_bm {T m : String} {a : E} {es : Es} {x : Expr} (iha : ∀ x, chE Γ b a x = true → AllX CX L Γ Φ b fun X W => OkE X W x (evX Φ a)) (ih : ∀ xs, chEs Γ b es xs = true → AllX CX L Γ Φ b fun X W => OkA X W xs (evXs Φ es)) (h : chE Γ b (.bm T m a es) x = true) : AllX CX L Γ Φ b fun X W => OkE X W x (evX Φ (.bm T m a es)) := by
  intro X W A Y P
  unfold chE at h
  split at h
  · rename_i y g apos ys pos
    rw [Bool.and_eq_true, Bool.and_eq_true, Bool.and_eq_true, Bool.and_eq_true, Bool.and_eq_true, Bool.and_eq_true] at h
    obtain ⟨⟨⟨⟨⟨⟨h1, h2⟩, h3⟩, h4⟩, h5⟩, h6⟩, h7⟩ := h
    have e := of_decide_eq_true h1
    subst e
    rw [Bool.not_eq_true'] at h2
    obtain ⟨id, hid⟩ := Option.isSome_iff_exists.mp h3
    have oa := iha _ h6 X W A Y P
    have o := ih _ h7 X W A Y P
    have hl := of_decide_eq_true h5
    cases ys with
    | nil =>
      cases es with
      | nil => exact .plain (se_bm0 Y hid oa.se (base_of h2) h4) (fun _ => rfl) rfl
      | cons _ _ => simp [chEs] at h7
    | cons y1 ys => exact .plain (se_bm1 Y hid oa.se o.sa o.ns (decide_eq_true hl) (base_of h2) h4) (fun _ => rfl) rfl
  · cases h
theorem k_blt {f : String} {es : Es} {x : Expr} (ih : ∀ xs, chEs Γ b es xs = true → AllX CX L Γ Φ b fun X W => OkA X W xs (evXs Φ es)) (h : chE Γ b (.blt f es) x = true) : AllX CX L Γ Φ b fun X W => OkE X W x (evX Φ (.blt f es)) := by
  intro X W A Y P
  unfold chE at h
  split at h
  · rename_i y p y1 ys pos
    rw [Bool.and_eq_true, Bool.and_eq_true, Bool.and_eq_true, Bool.and_eq_true] at h
    obtain ⟨⟨⟨⟨h1, h2⟩, h3⟩, h4⟩, h5⟩ := h
    have e := of_decide_eq_true h1
    subst e
    obtain ⟨u, hu⟩ := Option.isSome_iff_exists.mp h3
    have o := ih _ h5 X W A Y P
    have hs := o.ns
    rw [List.all_cons, Bool.and_eq_true] at hs
    exact .plain (se_blt Y hu (List.contains_iff_mem.mp h4) (gl_of A h2) o.sa (starEach_c hs.1) (star_all hs.2)) (fun _ => rfl) rfl
  · cases h
theorem isiOk_of {T : String} {cs : List String} (h : isiB Γ T cs = true) : IsiOk Γ cs T := by
  obtain ⟨i1, i2, i3, i4, i5⟩ := isi_of h
  exact ⟨i1, i2, i3, i4, i5⟩
theorem k_isi {a : E} {ts cs : List String} {x : Expr} (iha : ∀ x, chE Γ b a x = true → AllX CX L Γ Φ b fun X W => OkE X W x (evX Φ a)) (h : chE Γ b (.isi a ts cs) x = true) : AllX CX L Γ Φ b fun X W => OkE X W x (evX Φ (.isi a ts cs)) := by
  intro X W A Y P
  unfold chE at h
  split at h
  · split at h
    · rename_i t
      rw [Bool.and_eq_true, Bool.and_eq_true, Bool.and_eq_true, Bool.and_eq_true, Bool.and_eq_true, Bool.and_eq_true, Bool.and_eq_true] at h
      obtain ⟨⟨⟨⟨⟨⟨⟨h1, h2⟩, h3⟩, h4⟩, h5⟩, h6⟩, h7⟩, h8⟩ := h
      have e := of_decide_eq_true h1
      have e2 := of_decide_eq_true h3
      subst e; subst e2
      obtain ⟨i1, i2, i3, i4, i5⟩ := isi_of h5
      exact .plain (se_isi Y i1 i2 i3 i4 i5 (List.contains_iff_mem.mp h6) (gl_of A h2) (gl_of A h4) (iha _ h8 X W A Y P).se h7) (fun _ => rfl) rfl
    · cases h
  · split at h
    · rename_i t u
      rw [Bool.and_eq_true, Bool.and_eq_true, Bool.and_eq_true, Bool.and_eq_true, Bool.and_eq_true, Bool.and_eq_true, Bool.and_eq_true, Bool.and_eq_true, Bool.and_eq_true, Bool.and_eq_true] at h
      obtain ⟨⟨⟨⟨⟨⟨⟨⟨⟨⟨h1, h2⟩, h3⟩, h4⟩, h5⟩, h6⟩, h7⟩, h8⟩, h9⟩, h10⟩, h11⟩ := h
      have e := of_decide_eq_true h1
      have e2 := of_decide_eq_true h3
      have e3 := of_decide_eq_true h5
      subst e; subst e2; subst e3
      exact .plain (se_isi2 Y (isiOk_of h7) (isiOk_of h8) (List.contains_iff_mem.mp h9) (gl_of A h2) (gl_of A h4) (gl_of A h6) (iha _ h11 X W A Y P).se h10) (fun _ => rfl) rfl
    · cases h
  · cases h
theorem k_rev {a : E} {x : Expr} (iha : ∀ x, chE Γ b a x = true → AllX CX L Γ Φ b fun X W => OkE X W x (evX Φ a)) (h : chE Γ b (.rev a) x = true) : AllX CX L Γ Φ b fun X W => OkE X W x (evX Φ (.rev a)) := by
  intro X W A Y P
  unfold chE at h
  split at h
  · exact .plain (se_rev (iha _ h X W A Y P).se) (fun _ => rfl) rfl
  · cases h
theorem k_itb {f : String} {es : Es} {x : Expr} (ih : ∀ xs, chEs Γ b es xs = true → AllX CX L Γ Φ b fun X W => OkA X W xs (evXs Φ es)) (h : chE Γ b (.itb f (.rng es)) x = true) : AllX CX L Γ Φ b fun X W => OkE X W x (evX Φ (.itb f (.rng es))) := by
  intro X W A Y P
  unfold chE at h
  split at h
  · rename_i y p c pos
    rw [Bool.and_eq_true, Bool.and_eq_true, Bool.and_eq_true, Bool.and_eq_true, Bool.and_eq_true] at h
    obtain ⟨⟨⟨⟨⟨h1, h2⟩, h3⟩, h4⟩, _⟩, h6⟩ := h
    have e := of_decide_eq_true h2
    subst e
    unfold chI at h6
    split at h6
    · rename_i z q ys pos2
      rw [Bool.and_eq_true, Bool.and_eq_true, Bool.and_eq_true, Bool.and_eq_true] at h6
      obtain ⟨⟨⟨⟨g1, g2⟩, g3⟩, g4⟩, g5⟩ := h6
      have e2 := of_decide_eq_true g1
      subst e2
      have hl := of_decide_eq_true g4
      have o := ih _ g5 X W A Y P
      cases ys with
      | nil => exact absurd hl.1 (by simp)
      | cons u us =>
        rw [Bool.or_eq_true] at h1
        rcases h1 with h1 | h1
        · have e3 := of_decide_eq_true h1
          subst e3
          exact .plain (se_listN Y (List.contains_iff_mem.mp h4) (List.contains_iff_mem.mp g3) (gl_of A h3) (gl_of A g2) o.sa o.ns) (fun _ => rfl) rfl
        · have e3 := of_decide_eq_true h1
          subst e3
          exact .plain (se_tupN Y (List.contains_iff_mem.mp h4) (List.contains_iff_mem.mp g3) (gl_of A h3) (gl_of A g2) o.sa o.ns) (fun _ => rfl) rfl
    · cases h6
  · cases h
theorem k_sset {a : E} {x : Expr} (iha : ∀ x, chE Γ b a x = true → AllX CX L Γ Φ b fun X W => OkE X W x (evX Φ a)) (h : chE Γ b (.sset a) x = true) : AllX CX L Γ Φ b fun X W => OkE X W x (evX Φ (.sset a)) := by
  intro X W A Y P
  unfold chE at h
  split at h
  · rw [Bool.and_eq_true, Bool.and_eq_true, Bool.and_eq_true, Bool.and_eq_true, Bool.and_eq_true, Bool.and_eq_true, Bool.and_eq_true] at h
    obtain ⟨⟨⟨⟨⟨⟨⟨h1, h2⟩, h3⟩, h4⟩, h5⟩, h6⟩, h7⟩, h8⟩ := h
    have e := of_decide_eq_true h1
    have e2 := of_decide_eq_true h4
    subst e; subst e2
    exact .plain (se_sset Y (List.contains_iff_mem.mp h3) (List.contains_iff_mem.mp h6) (gl_of A h2) (gl_of A h5) (iha _ h8 X W A Y P).se h7) (fun _ => rfl) rfl
  · cases h
end
end Py


set_option Elab.async false
set_option linter.all false
set_option maxRecDepth 100000
set_option maxHeartbeats 4000000
/-! PyV: what is checked is so: the rest of the expressions, all together. -/
namespace Py
open PySem PySem.Spec L2
open PyProof.Rows hiding St
section
variable {CX : CXT} {L : Nat} {Γ : Tab} {Φ : Calls} {b : Bk}
theorem k_lc {tg : Tg} {own : List Nat} {it : It} {ifs : Es} {el : E} {x : Expr}
    (ihT : ∀ b x, chT Γ b tg x = true → AllX CX L Γ Φ b fun X W => OkT X W (tgI tg) x (bindT Φ tg))
    (ihI : ∀ t x, chI Γ b t it x = true → AllX CX L Γ Φ b fun X W => SI X W t x (evI Φ it))
    (ihF : ∀ b xs, chEs Γ b ifs xs = true → AllX CX L Γ Φ b fun X W => OkA X W xs (evXs Φ ifs))
    (ihF1 : ∀ b e x, ifs = .cons e .nil → chE Γ b e x = true → AllX CX L Γ Φ b fun X W => OkE X W x (evX Φ e))
    (ihE : ∀ b x, chE Γ b el x = true → AllX CX L Γ Φ b fun X W => OkE X W x (evX Φ el)) (h : chE Γ b (.lc tg own it ifs el) x = true) : AllX CX L Γ Φ b fun X W => OkE X W x (evX Φ (.lc tg own it ifs el)) := by
  intro X W A Y P
  unfold chE at h
  split at h
  · rename_i elt tg' iter ifs' as scope pos
    rw [Bool.and_eq_true, Bool.and_eq_true, Bool.and_eq_true, Bool.and_eq_true, Bool.and_eq_true, Bool.and_eq_true, Bool.and_eq_true, Bool.and_eq_true] at h
    obtain ⟨⟨⟨⟨⟨⟨⟨⟨h1, h2⟩, h3⟩, h4⟩, h5⟩, h6⟩, h7⟩, h8⟩, h9⟩ := h
    have e1 := of_decide_eq_true h1
    subst e1
    have e3 := of_decide_eq_true h3
    have ok : BlkOk X.N X.env.scope scope (ownP b own) := by rw [A.N, A.sc]; exact blkOk_by h2
    have hsub : ∀ i ∈ tgI tg, i ∈ (ownP b own).map (·.2) := fun i hi => by
      rw [e3]
      exact List.contains_iff_mem.mp (List.all_eq_true.mp h4 i hi)
    have sg : Blk X scope fun B => SG B W0 (tgI tg) tg' (bindT Φ tg) := fun s H C cl fp => (ihT _ _ h7 _ W0 (A.blk s H scope C cl fp) (Y.blk ..) (wpass0 Y)).sg
    have se : Blk X scope fun B => SE B W0 elt (evX Φ el) := fun s H C cl fp => (ihE _ _ h9 _ W0 (A.blk s H scope C cl fp) (Y.blk ..) (wpass0 Y)).se
    have sc : Blk X scope fun B => STs B ifs' (evIfs Φ ifs) := fun s H C cl fp => by
      cases ifs' with
      | nil =>
        cases ifs with
        | nil => exact sts_nil
        | cons _ _ => cases h8
      | cons c cs =>
        cases cs with
        | cons _ _ => cases h8
        | nil =>
          cases ifs with
          | nil => cases h8
          | cons e es =>
            cases es with
            | cons _ _ => cases h8
            | nil =>
              have h8' : (chE Γ (blkB b scope) e c && tstB c) = true := h8
              rw [Bool.and_eq_true] at h8'
              have o := ihF1 (blkB b scope) e c rfl h8'.1 _ W0 (A.blk s H scope C cl fp) (Y.blk ..) (wpass0 Y)
              exact sts_one (o.st h8'.2)
    have r := se_lc (pos := pos) (W := W) Y.calm Y.nd ok hsub (ihI _ _ h6 X W A Y P) sg sc se (folded_of h5)
    rw [e3] at r
    have e4 : evX Φ (.lc tg own it ifs el) = (fun ρ h => bnd (evI Φ it ρ h) fun w h1 => bnn (compL w.g (lcEl own (bindT Φ tg) (evIfs Φ ifs) (evX Φ el) ρ) w.items h1) fun xs h2 => some (.ok (.l xs) h2)) := by
      funext ρ h
      rw [evX]
      rfl
    rw [e4]
    exact .plain r (fun _ => rfl) rfl
  · cases h
theorem k_nil {xs : List Expr} (h : chEs Γ b .nil xs = true) : AllX CX L Γ Φ b fun X W => OkA X W xs (evXs Φ .nil) := by
  intro X W A Y P
  unfold chEs at h
  split at h
  · exact ⟨sa_nil, fun ρ h ys h' e => (by cases e; rfl), rfl⟩
  · cases h
theorem k_cons {e : E} {es : Es} {xs : List Expr} (ihe : ∀ x, chE Γ b e x = true → AllX CX L Γ Φ b fun X W => OkE X W x (evX Φ e)) (ih : ∀ xs, chEs Γ b es xs = true → AllX CX L Γ Φ b fun X W => OkA X W xs (evXs Φ es)) (h : chEs Γ b (.cons e es) xs = true) : AllX CX L Γ Φ b fun X W => OkA X W xs (evXs Φ (.cons e es)) := by
  intro X W A Y P
  unfold chEs at h
  split at h
  · rw [Bool.and_eq_true, Bool.and_eq_true] at h
    obtain ⟨⟨h1, h2⟩, h3⟩ := h
    have o := ihe _ h2 X W A Y P
    have os := ih _ h3 X W A Y P
    refine ⟨sa_cons o.se os.sa (starEach_c h1), fun ρ hh ys h' q => ?_, by rw [List.all_cons, h1, os.ns]; rfl⟩
    have q2 : (bnd (evX Φ e ρ hh) fun x h1 => bnd (evXs Φ es ρ h1) fun xs h2 => some (.ok (x :: xs) h2)) = some (.ok ys h') := q
    rcases bnd_some q2 with ⟨a, g1, g2, g3⟩ | ⟨_, _, _, _, g⟩
    · rcases bnd_some g3 with ⟨as, g4, g5, g6⟩ | ⟨_, _, _, _, g⟩
      · cases g6
        rw [List.length_cons, List.length_cons, os.len _ _ _ _ g5]
      · cases g
    · cases g
  · cases h
theorem k_rng {es : Es} {t x : Expr} (ih : ∀ xs, chEs Γ b es xs = true → AllX CX L Γ Φ b fun X W => OkA X W xs (evXs Φ es)) (h : chI Γ b t (.rng es) x = true) : AllX CX L Γ Φ b fun X W => SI X W t x (evI Φ (.rng es)) := by
  intro X W A Y P
  unfold chI at h
  split at h
  · rename_i y p ys pos
    rw [Bool.and_eq_true, Bool.and_eq_true, Bool.and_eq_true, Bool.and_eq_true] at h
    obtain ⟨⟨⟨⟨h1, h2⟩, h3⟩, h4⟩, h5⟩ := h
    have e := of_decide_eq_true h1
    subst e
    have hl := of_decide_eq_true h4
    have o := ih _ h5 X W A Y P
    have hf := List.contains_iff_mem.mp h3
    have hg := gl_of A h2
    have hs := o.ns
    match ys, hl, o, hs with
    | [u], _, o, hs =>
      simp only [List.all_cons, List.all_nil, Bool.and_true] at hs
      exact si_rng1 Y hf hg o.sa o.len hs
    | [u, v], _, o, hs =>
      simp only [List.all_cons, List.all_nil, Bool.and_true, Bool.and_eq_true] at hs
      exact si_rng2 Y hf hg o.sa o.len hs.1 hs.2
    | [u, v, w], _, o, hs => exact si_rng3 Y hf hg o.sa o.len hs
    | [], hl, _, _ => exact absurd hl.1 (by simp)
    | _ :: _ :: _ :: _ :: _, hl, _, _ => exact absurd hl.2 (by simp)
  · cases h
theorem k_enm {e : E} {t x : Expr} (ih : ∀ x, chE Γ b e x = true → AllX CX L Γ Φ b fun X W => OkE X W x (evX Φ e)) (h : chI Γ b t (.enm e) x = true) : AllX CX L Γ Φ b fun X W => SI X W t x (evI Φ (.enm e)) := by
  intro X W A Y P
  unfold chI at h
  split at h
  · rename_i y p z pos
    rw [Bool.and_eq_true, Bool.and_eq_true, Bool.and_eq_true, Bool.and_eq_true, Bool.and_eq_true] at h
    obtain ⟨⟨⟨⟨⟨h1, h2⟩, h3⟩, h4⟩, h5⟩, h6⟩ := h
    have ee := of_decide_eq_true h1
    subst ee
    split at h6
    · exact si_enum Y (List.contains_iff_mem.mp h3) (gl_of A h2) (ih _ h5 X W A Y P).se h4
    · cases h6
  · cases h
theorem k_zip {e f : E} {t x : Expr} (ih : ∀ x, chE Γ b e x = true → AllX CX L Γ Φ b fun X W => OkE X W x (evX Φ e)) (ih2 : ∀ x, chE Γ b f x = true → AllX CX L Γ Φ b fun X W => OkE X W x (evX Φ f)) (h : chI Γ b t (.zip e f) x = true) : AllX CX L Γ Φ b fun X W => SI X W t x (evI Φ (.zip e f)) := by
  intro X W A Y P
  unfold chI at h
  split at h
  · rename_i y p z u pos
    rw [Bool.and_eq_true, Bool.and_eq_true, Bool.and_eq_true, Bool.and_eq_true, Bool.and_eq_true, Bool.and_eq_true, Bool.and_eq_true] at h
    obtain ⟨⟨⟨⟨⟨⟨⟨h1, h2⟩, h3⟩, h4⟩, h5⟩, h6⟩, h7⟩, h8⟩ := h
    have ee := of_decide_eq_true h1
    subst ee
    split at h8
    · exact si_zip Y (List.contains_iff_mem.mp h3) (gl_of A h2) (ih _ h6 X W A Y P).se (ih2 _ h7 X W A Y P).se h4 h5
    · cases h8
  · cases h
theorem k_rvd {e : E} {t x : Expr} (ih : ∀ x, chE Γ b e x = true → AllX CX L Γ Φ b fun X W => OkE X W x (evX Φ e)) (h : chI Γ b t (.rvd e) x = true) : AllX CX L Γ Φ b fun X W => SI X W t x (evI Φ (.rvd e)) := by
  intro X W A Y P
  unfold chI at h
  split at h
  · rename_i y p z pos
    rw [Bool.and_eq_true, Bool.and_eq_true, Bool.and_eq_true, Bool.and_eq_true] at h
    obtain ⟨⟨⟨⟨h1, h2⟩, h3⟩, h4⟩, h5⟩ := h
    have ee := of_decide_eq_true h1
    subst ee
    exact si_rvd Y (List.contains_iff_mem.mp h3) (gl_of A h2) (ih _ h5 X W A Y P).se h4
  · cases h
theorem asEach_c {x : Expr} {xs : List Expr} {env : PySem.Env} (h : noSt x = true) : assignEach (x :: xs) env = (false, assign x env) :: assignEach xs env := by
  cases x <;> first | rfl | (simp [noSt] at h)
theorem asEach_len {env : PySem.Env} : ∀ {xs : List Expr}, xs.all noSt = true → (assignEach xs env).length = xs.length ∧ (assignEach xs env).findIdx? (·.1) = none
  | [], _ => ⟨rfl, rfl⟩
  | x :: xs, h => by
    rw [List.all_cons, Bool.and_eq_true] at h
    obtain ⟨i1, i2⟩ := asEach_len (env := env) h.2
    rw [asEach_c h.1]
    refine ⟨by rw [List.length_cons, List.length_cons, i1], ?_⟩
    rw [List.findIdx?_cons, i2]
    rfl
theorem k_nm {i : Nat} {x : Expr} (h : chT Γ b (.nm i) x = true) : AllX CX L Γ Φ b fun X W => OkT X W (tgI (.nm i)) x (bindT Φ (.nm i)) := by
  intro X W A Y P
  unfold chT at h
  split at h
  · rw [Bool.and_eq_true] at h
    obtain ⟨h1, h2⟩ := loc_of A h.2
    exact ⟨sg_name Y.nd (by rw [A.N]; exact of_decide_eq_true h.1) h1 h2⟩
  · cases h
theorem k_tp {ts : Tgs} {x : Expr} (ih : ∀ xs, chTs Γ b ts xs = true → AllX CX L Γ Φ b fun X W => OkTs X W (tgI.tgIs ts) xs (bindTs Φ ts)) (h : chT Γ b (.tp ts) x = true) : AllX CX L Γ Φ b fun X W => OkT X W (tgI (.tp ts)) x (bindT Φ (.tp ts)) := by
  intro X W A Y P
  unfold chT at h
  split at h
  · rename_i ys k pos
    have o := ih _ h X W A Y P
    obtain ⟨g1, g2⟩ := asEach_len (env := X.env) o.ns
    exact ⟨sg_tup (is := tgI.tgIs ts) Y.calm o.sgs o.len g1 g2⟩
  · cases h
theorem k_ix {o i : E} {x : Expr} (iho : ∀ x, chE Γ b o x = true → AllX CX L Γ Φ b fun X W => OkE X W x (evX Φ o)) (ihi : ∀ x, chE Γ b i x = true → AllX CX L Γ Φ b fun X W => OkE X W x (evX Φ i)) (h : chT Γ b (.ix o i) x = true) : AllX CX L Γ Φ b fun X W => OkT X W (tgI (.ix o i)) x (bindT Φ (.ix o i)) := by
  intro X W A Y P
  unfold chT at h
  split at h
  · rw [Bool.and_eq_true, Bool.and_eq_true] at h
    obtain ⟨⟨h1, h2⟩, h3⟩ := h
    exact ⟨sg_ix Y (iho _ h2 X W A Y P).se (ihi _ h3 X W A Y P).se h1⟩
  · cases h
theorem k_fd {o : E} {f : String} {cs : List String} {x : Expr} (iho : ∀ x, chE Γ b o x = true → AllX CX L Γ Φ b fun X W => OkE X W x (evX Φ o)) (h : chT Γ b (.fd o f cs) x = true) : AllX CX L Γ Φ b fun X W => OkT X W (tgI (.fd o f cs)) x (bindT Φ (.fd o f cs)) := by
  intro X W A Y P
  unfold chT at h
  split at h
  · rw [Bool.and_eq_true, Bool.and_eq_true] at h
    obtain ⟨⟨h1, h2⟩, h3⟩ := h
    have e := of_decide_eq_true h1
    subst e
    exact ⟨sg_fd Y (flds_of h2) (iho _ h3 X W A Y P).se⟩
  · cases h
theorem k_tnil {xs : List Expr} (h : chTs Γ b .nil xs = true) : AllX CX L Γ Φ b fun X W => OkTs X W (tgI.tgIs .nil) xs (bindTs Φ .nil) := by
  intro X W A Y P
  unfold chTs at h
  split at h
  · refine ⟨fun M ρ h σ H ds vs r Q re rh rv e ho fin => sgs_nil (X := X) (W := W) M ρ h σ H ds vs r Q re rh rv ?_ ho fin, fun ds ρ h r e _ => ?_, rfl⟩
    · cases rv with
      | nil => exact e
      | cons _ _ => simp [bindTs] at e
    · cases ds with
      | nil => rfl
      | cons _ _ => simp [bindTs] at e
  · cases h
theorem k_tcons {t : Tg} {ts : Tgs} {xs : List Expr} (iht : ∀ x, chT Γ b t x = true → AllX CX L Γ Φ b fun X W => OkT X W (tgI t) x (bindT Φ t)) (ih : ∀ xs, chTs Γ b ts xs = true → AllX CX L Γ Φ b fun X W => OkTs X W (tgI.tgIs ts) xs (bindTs Φ ts)) (h : chTs Γ b (.cons t ts) xs = true) : AllX CX L Γ Φ b fun X W => OkTs X W (tgI.tgIs (.cons t ts)) xs (bindTs Φ (.cons t ts)) := by
  intro X W A Y P
  unfold chTs at h
  split at h
  · rename_i x ys
    rw [Bool.and_eq_true, Bool.and_eq_true] at h
    obtain ⟨⟨h1, h2⟩, h3⟩ := h
    have o := iht _ h2 X W A Y P
    have os := ih _ h3 X W A Y P
    have hs : (assignEach (x :: ys) X.env).map (·.2) = assign x X.env :: (assignEach ys X.env).map (·.2) := by rw [asEach_c h1]; rfl
    refine ⟨fun M ρ h σ H ds vs r Q re rh rv e ho fin => sgs_cons o.sg os.sgs hs M ρ h σ H ds vs r Q re rh rv ?_ ho fin, fun ds ρ h r e ho => ?_, by rw [List.all_cons, h1, os.ns]; rfl⟩
    · cases rv with
      | nil => simp [bindTs] at e
      | cons _ _ => exact e
    · cases ds with
      | nil => simp [bindTs] at e
      | cons d ds =>
        have e2 : (bnd (bindT Φ t d ρ h) fun ρ1 h1 => bindTs Φ ts ds ρ1 h1) = some r := e
        rw [List.length_cons, List.length_cons]
        obtain ⟨ρ1, g1, _, g3⟩ := okG_bnd e2 ho
        rw [os.len _ _ _ _ g3 ho]
  · cases h
/-- the rules above know no such term -/
theorem no_term {e : E} {x : Expr} {A : Prop} (h : chE Γ b e x = true) (n : chE Γ b e x = false) : A := by rw [n] at h; cases h
theorem no_itb {f : String} {it : It} {x : Expr} {A : Prop} (h : chE Γ b (.itb f it) x = true) (n : isRng it = false) : A := by
  unfold chE at h
  split at h
  · rw [n] at h
    simp at h
  · cases h
end
mutual
theorem chE_ok (CX : CXT) (L : Nat) (Γ : Tab) (Φ : Calls) : ∀ (e : E) (b : Bk) (x : Expr), chE Γ b e x = true → AllX CX L Γ Φ b fun X W => OkE X W x (evX Φ e)
  | .var i, b, x, h => fun X W A Y P => ok_var A h
  | .cst d, b, x, h => fun X W A Y P => ok_cst h
  | .gc n d, b, x, h => fun X W A Y P => ok_gc A Y h
  | .bin o a c, b, x, h => k_bin (chE_ok CX L Γ Φ a b) (chE_ok CX L Γ Φ c b) h
  | .neg a, b, x, h => k_neg (chE_ok CX L Γ Φ a b) h
  | .nt a, b, x, h => k_nt (chE_ok CX L Γ Φ a b) h
  | .cmp o cs a c, b, x, h => k_cmp (chE_ok CX L Γ Φ a b) (chE_ok CX L Γ Φ c b) h
  | .chn o p a c d, b, x, h => k_chn (chE_ok CX L Γ Φ a b) (chE_ok CX L Γ Φ c b) (chE_ok CX L Γ Φ d b) h
  | .band a c, b, x, h => k_band (chE_ok CX L Γ Φ a b) (chE_ok CX L Γ Φ c b) h
  | .bor a c, b, x, h => k_bor (chE_ok CX L Γ Φ a b) (chE_ok CX L Γ Φ c b) h
  | .ite c a d, b, x, h => k_ite (chE_ok CX L Γ Φ c b) (chE_ok CX L Γ Φ a b) (chE_ok CX L Γ Φ d b) h
  | .fld a f cs, b, x, h => k_fld (chE_ok CX L Γ Φ a b) h
  | .idx a i, b, x, h => k_idx (chE_ok CX L Γ Φ a b) (chE_ok CX L Γ Φ i b) h
  | .slc a lo hi, b, x, h => k_slc (chE_ok CX L Γ Φ a b) (chE_ok CX L Γ Φ lo b) (chE_ok CX L Γ Φ hi b) h
  | .tup es, b, x, h => k_tup (chEs_ok CX L Γ Φ es b) h
  | .lst es, b, x, h => k_lst (chEs_ok CX L Γ Φ es b) h
  | .lc tg own it .nil el, b, x, h => k_lc (fun b => chT_ok CX L Γ Φ tg b) (fun t => chI_ok CX L Γ Φ it b t) (fun b => chEs_ok CX L Γ Φ .nil b) (fun b e x q _ => nomatch q) (fun b => chE_ok CX L Γ Φ el b) h
  | .lc tg own it (.cons e es) el, b, x, h => k_lc (fun b => chT_ok CX L Γ Φ tg b) (fun t => chI_ok CX L Γ Φ it b t) (fun b => chEs_ok CX L Γ Φ (.cons e es) b) (fun b e' x q hh => by
      injection q with q1 q2
      subst q1
      exact chE_ok CX L Γ Φ e b x hh) (fun b => chE_ok CX L Γ Φ el b) h
  | .call f es, b, x, h => k_call (chEs_ok CX L Γ Φ es b) h
  | .mk f es, b, x, h => k_mk (chEs_ok CX L Γ Φ es b) h
  | .bm T m o es, b, x, h => k_bm (chE_ok CX L Γ Φ o b) (chEs_ok CX L Γ Φ es b) h
  | .blt f es, b, x, h => k_blt (chEs_ok CX L Γ Φ es b) h
  | .isi a ts cs, b, x, h => k_isi (chE_ok CX L Γ Φ a b) h
  | .fnr _, b, x, h => no_term h rfl
  | .rev a, b, x, h => k_rev (chE_ok CX L Γ Φ a b) h
  | .sset a, b, x, h => k_sset (chE_ok CX L Γ Φ a b) h
  | .dct _ _, b, x, h => no_term h rfl
  | .dc _ _ _ _ _ _ _, b, x, h => no_term h rfl
  | .meth _ _ _ _, b, x, h => no_term h rfl
  | .itb f (.rng es), b, x, h => k_itb (chEs_ok CX L Γ Φ es b) h
  | .itb _ (.seq _), b, x, h => no_itb h rfl
  | .itb _ (.enm _), b, x, h => no_itb h rfl
  | .itb _ (.zip _ _), b, x, h => no_itb h rfl
  | .itb _ (.rvd _), b, x, h => no_itb h rfl
  | .callv _ _, b, x, h => no_term h rfl
theorem chEs_ok (CX : CXT) (L : Nat) (Γ : Tab) (Φ : Calls) : ∀ (es : Es) (b : Bk) (xs : List Expr), chEs Γ b es xs = true → AllX CX L Γ Φ b fun X W => OkA X W xs (evXs Φ es)
  | .nil, b, xs, h => k_nil h
  | .cons e es, b, xs, h => k_cons (chE_ok CX L Γ Φ e b) (chEs_ok CX L Γ Φ es b) h
theorem chI_ok (CX : CXT) (L : Nat) (Γ : Tab) (Φ : Calls) : ∀ (it : It) (b : Bk) (t x : Expr), chI Γ b t it x = true → AllX CX L Γ Φ b fun X W => SI X W t x (evI Φ it)
  | .seq e, b, t, x, h => fun X W A Y P => si_seq (chE_ok CX L Γ Φ e b x h X W A Y P).se
  | .rng es, b, t, x, h => k_rng (chEs_ok CX L Γ Φ es b) h
  | .enm e, b, t, x, h => k_enm (chE_ok CX L Γ Φ e b) h
  | .zip e f, b, t, x, h => k_zip (chE_ok CX L Γ Φ e b) (chE_ok CX L Γ Φ f b) h
  | .rvd e, b, t, x, h => k_rvd (chE_ok CX L Γ Φ e b) h
theorem chT_ok (CX : CXT) (L : Nat) (Γ : Tab) (Φ : Calls) : ∀ (t : Tg) (b : Bk) (x : Expr), chT Γ b t x = true → AllX CX L Γ Φ b fun X W => OkT X W (tgI t) x (bindT Φ t)
  | .nm i, b, x, h => k_nm h
  | .tp ts, b, x, h => k_tp (chTs_ok CX L Γ Φ ts b) h
  | .ix o i, b, x, h => k_ix (chE_ok CX L Γ Φ o b) (chE_ok CX L Γ Φ i b) h
  | .fd o f cs, b, x, h => k_fd (chE_ok CX L Γ Φ o b) h
theorem chTs_ok (CX : CXT) (L : Nat) (Γ : Tab) (Φ : Calls) : ∀ (ts : Tgs) (b : Bk) (xs : List Expr), chTs Γ b ts xs = true → AllX CX L Γ Φ b fun X W => OkTs X W (tgI.tgIs ts) xs (bindTs Φ ts)
  | .nil, b, xs, h => k_tnil h
  | .cons t ts, b, xs, h => k_tcons (chT_ok CX L Γ Φ t b) (chTs_ok CX L Γ Φ ts b) h
end
end Py


set_option Elab.async false
set_option linter.all false
set_option maxRecDepth 100000
set_option maxHeartbeats 4000000
/-! PyW: what is checked is so: statements. -/
namespace Py
open PySem PySem.Spec L2
open PyProof.Rows hiding St
/-- a local name on line l -/
def locAt (b : Bk) (l : Nat) : Expr → Bool
  | .Name x p => decide (b.sc.names.lookup x = some .local) && p.line == l
  | _ => false
def stB (b : Bk) (t v : Expr) : Bool := match t, v with
  | .Tuple ts _ _, .Tuple _ _ _ => !ts.all (locAt b ((ts.head?.map (·.pos.line)).getD 0))
  | .List _ _, .Tuple _ _ _ => false
  | _, _ => true
/-- a comprehension given to a name of the block itself on one line -/
def swB (b : Bk) (t v : Expr) : Bool := match t, v with
  | .Name y p, .ListComp _ _ sc q => decide (b.sc.names.lookup y = some .local) && p.line == q.line && !(sc.names.any fun (n, k) => n == y && (k == .local || k == .cell))
  | _, _ => false
def lcOrNot (v : Expr) : Bool := match v with
  | .SetComp _ _ _ _ => false
  | .DictComp _ _ _ _ _ => false
  | _ => true
def isLc : E → Bool
  | .lc _ _ _ _ _ => true
  | _ => false
def nmOf : Tg → Option Nat
  | .nm i => some i
  | _ => none
def zB (Γ : Tab) (b : Bk) (i : Nat) (a c : E) (f : String) (j : Nat) (tg : Tg) (own : List Nat) (el : E) (xs : List Stmt) : Bool := (match xs with
    | [.Assign [.Name x _] (.Call (.Name zz _) [u, v] [] _) _, .Return (some (.Call (.Name ff _) [.Name y _, .ListComp elt [⟨.Tuple elts kk tp, .Name x2 _, [], as⟩] scope _] [] _)) _] =>
        decide (zz = sO "zip") && glB b zz && Γ.free.contains "zip" && noSt u && noSt v && chE Γ b a u && chE Γ b c v && decide (b.N[i]? = some x) && decide (b.sc.names.lookup x = some .local) && dbgB x && decide (b.N[j]? = some y) && visB b y && dbgB y &&
        decide (x2 = x) && decide (as = 0) && decide (ff = sO f) && glB b ff && dbgB ff && Γ.fns.contains f && blkC b.N b.sc scope (ownP b own) && decide ((ownP b own).map (·.2) = own) && (tgI tg).all (fun i => own.contains i) &&
        chT Γ (blkB b scope) tg (.Tuple elts kk tp) && chE Γ (blkB b scope) el elt
    | _ => false)
def chZ (Γ : Tab) (b : Bk) (s : S) (xs : List Stmt) : Bool := match s with
  | .zret i a c f j tg own el => zB Γ b i a c f j tg own el xs
  | _ => false
def isNilS : Ss → Bool
  | .nil => true
  | _ => false
mutual
def chS (Γ : Tab) : Bk → S → Stmt → Bool
  | b, .asg t e, st => (match st with
    | .Assign [x] v _ => decide (b.sc.kind = .function) && noSt x && chT Γ b t x && chE Γ b e v && stB b x v && lcOrNot v && (!swB b x v || (isLc e && (nmOf t).isSome))
    | _ => false)
  | b, .par is es, st => (match st with
    | .Assign [.Tuple [.Name x px, .Name y py] _ _] (.Tuple [u, v] _ _) _ => (match is with
      | [i, j] => decide (b.sc.kind = .function) && decide (b.N[i]? = some x) && decide (b.N[j]? = some y) && decide (i ≠ j) && decide (x ≠ y) && decide (b.sc.names.lookup x = some .local) && decide (b.sc.names.lookup y = some .local) && (py.line == px.line) &&
          noSt u && noSt v && !([u, v].all (foldedForSure 8)) && !([u, v].all (constantsAlone 8)) && chEs Γ b es [u, v]
      | _ => false)
    | _ => false)
  | b, .aug i o e, st => (match st with
    | .AugAssign (.Name y _) op v _ => decide (op = opr o) && decide (b.N[i]? = some y) && locB b y && chE Γ b e v
    | _ => false)
  | b, .ex e, st => (match st with
    | .Expr v _ => chE Γ b e v && noComp v
    | _ => false)
  | b, .ret e, st => (match st with
    | .Return (some v) _ => chE Γ b e v
    | _ => false)
  | b, .retn, st => (match st with
    | .Return none _ => true
    | _ => false)
  | b, .ifs c t u, st => (match st with
    | .If x p q _ => chE Γ b c x && tstB x && chSs Γ b t p && chSs Γ b u q
    | _ => false)
  | b, .forr t it u, st => (match st with
    | .For x i body [] _ => notSet i && chT Γ b t x && chI Γ b x it i && chSs Γ b u body
    | _ => false)
  | b, .pass, st => (match st with
    | .Pass _ => true
    | _ => false)
  | _, .rse _ _ _, _ => true
  | _, _, _ => false
def chSs (Γ : Tab) : Bk → Ss → List Stmt → Bool
  | b, .nil, xs => (match xs with
    | [] => true
    | _ => false)
  | b, .cons s ss, xs => (isNilS ss && chZ Γ b s xs) || (match xs with
    | x :: ys => chS Γ b s x && chSs Γ b ss ys
    | _ => false)
end
def AllS (CX : CXT) (L : Nat) (Γ : Tab) (Φ : Calls) (b : Bk) (P : Cx → WX → Prop) : Prop := ∀ X W, AtB b X → Hy CX L Γ Φ X → WPass CX X W → PassesOwn (model X.prog X.w) X.A X.env X.xe → P X W
section
variable {CX : CXT} {L : Nat} {Γ : Tab} {Φ : Calls} {b : Bk}
theorem swaps_of {X : Cx} (A : AtB b X) (hk : b.sc.kind = .function) {t v : Expr} {l : Nat} (h1 : swB b t v = false) (h2 : lcOrNot v = true) : swapsWithSole [t] v l X.env = pure false := by
  have hb : X.env.blockKind = .function := by unfold PySem.Env.blockKind; rw [A.sc, hk]; rfl
  show swapsWith v (some t) l X.env = pure false
  cases v <;> first | rfl | (cases h2; done) | skip
  rename_i elt gs scope pos
  cases t <;> first | rfl | skip
  rename_i y p
  unfold swB at h1
  unfold swapsWith
  have ky : X.env.kindOf y = b.sc.names.lookup y := by show X.env.scope.names.lookup y = _; rw [A.sc]
  simp only [hb, ky, Expr.pos]
  have e1 : (b.sc.names.lookup y == some NameKind.local) = decide (b.sc.names.lookup y = some .local) := by
    cases q : b.sc.names.lookup y with
    | none => rfl
    | some k => cases k <;> rfl
  rw [e1]
  have e2 : (ScopeKind.function == ScopeKind.function) = true := rfl
  rw [e2, Bool.true_and]
  simp only at h1
  rw [h1]
theorem swap_true {X : Cx} (A : AtB b X) (hk : b.sc.kind = .function) {y : Str} {p pos : Pos} {elt : Expr} {gs : List Comprehension} {scope : Scope} {l : Nat} (h1 : swB b (.Name y p) (.ListComp elt gs scope pos) = true) : swapsWith (.ListComp elt gs scope pos) (some (.Name y p)) l X.env = pure true ∧ X.env.scope.names.lookup y = some .local := by
  unfold swB at h1
  simp only [Bool.and_eq_true, Bool.not_eq_true'] at h1
  obtain ⟨⟨h1, h2⟩, h3⟩ := h1
  have h4 : X.env.scope.names.lookup y = some .local := by rw [A.sc]; exact of_decide_eq_true h1
  exact ⟨sw_true (by rw [A.sc]; exact hk) h4 h2 h3, h4⟩
theorem fm_len {α β : Type} {f : α → Option β} : ∀ {l : List α}, (l.filterMap f).length = l.length → ∀ x ∈ l, (f x).isSome = true
  | [], _, x, hx => by cases hx
  | y :: l, h, x, hx => by
    rw [List.filterMap_cons] at h
    cases q : f y with
    | none =>
      rw [q] at h
      have := List.length_filterMap_le f l
      simp only [List.length_cons] at h
      omega
    | some z =>
      rw [q] at h
      simp only [List.length_cons] at h
      rcases List.mem_cons.mp hx with rfl | hx
      · rw [q]; rfl
      · exact fm_len (by omega) x hx
theorem stores_of {X : Cx} (A : AtB b X) {t v : Expr} (h : stB b t v = true) : swappedStores [t] v X.env = pure none := by
  cases t <;> first | rfl | skip
  · cases v <;> first | rfl | (cases h)
  · cases v <;> first | rfl | skip
    rename_i ts k pos vs k2 pos2
    have h2 : (!ts.all (locAt b ((ts.head?.map (·.pos.line)).getD 0))) = true := h
    rw [Bool.not_eq_true'] at h2
    unfold swappedStores
    simp only []
    split
    · rfl
    · split
      · rfl
      · split
        · rfl
        · rename_i hn
          exfalso
          simp only [Bool.or_eq_true, not_or] at hn
          have hlen := hn.1
          simp only [bne_iff_ne, ne_eq] at hlen
          have q := fm_len (Decidable.not_not.mp hlen)
          have : ts.all (locAt b ((ts.head?.map (·.pos.line)).getD 0)) = true := by
            rw [List.all_eq_true]
            intro x hx
            have := q x hx
            cases x <;> first | (simp at this; done) | skip
            rename_i id p
            simp only at this
            unfold locAt
            split at this
            · rename_i hh
              have ky : X.env.kindOf id = b.sc.names.lookup id := by show X.env.scope.names.lookup id = _; rw [A.sc]
              rw [ky] at hh
              rw [Bool.and_eq_true] at hh ⊢
              refine ⟨?_, hh.2⟩
              cases q : b.sc.names.lookup id with
              | none => rw [q] at hh; cases hh.1
              | some k => rw [q] at hh; cases k <;> first | rfl | cases hh.1
            · simp at this
          rw [this] at h2
          cases h2
theorem par_of {X : Cx} {x y : Str} {px py pt pt2 : Pos} {kt k2 : Nat} {u v : Expr} (hb : X.env.blockKind = .function) (hx : X.env.scope.names.lookup x = some .local) (hy : X.env.scope.names.lookup y = some .local) (hxy : x ≠ y) (hl : (py.line == px.line) = true) (hu : noSt u = true) (hv : noSt v = true)
    (hf : [u, v].all (foldedForSure 8) = false) (hc : [u, v].all (constantsAlone 8) = false) : swappedStores [.Tuple [.Name x px, .Name y py] kt pt] (.Tuple [u, v] k2 pt2) X.env = pure (some [x, y]) := by
  have kx : X.env.kindOf x = some .local := hx
  have ky : X.env.kindOf y = some .local := hy
  have hst : ([u, v].any fun | .Starred .. => true | _ => false) = false := by
    simp only [List.any_cons, List.any_nil, Bool.or_false, Bool.or_eq_false_iff]
    constructor
    · cases u <;> first | rfl | cases hu
    · cases v <;> first | rfl | cases hv
  have hne : (x == y) = false := beq_eq_false_iff_ne.mpr hxy
  have hne2 : (y == x) = false := beq_eq_false_iff_ne.mpr (Ne.symm hxy)
  have he : [x, y].eraseDups = [x, y] := by
    simp [List.eraseDups_cons, hne2, hxy, Ne.symm hxy]
  have e1 : ((some NameKind.local : Option NameKind) == some NameKind.local) = true := rfl
  unfold swappedStores
  simp only [List.length_cons, List.length_nil, hb, hst, hf, hc, List.head?_cons, Option.map_some, Option.getD_some, Expr.pos, List.filterMap_cons, List.filterMap_nil, kx, ky, hl, e1, he]
  simp
  rw [if_neg (by
    rintro (h | h)
    · cases u <;> first | (simp [noSt] at hu; done) | (simp at h; done)
    · cases v <;> first | (simp [noSt] at hv; done) | (simp at h; done)), he]
  rfl
theorem c_asg {t : Tg} {e : E} {st : Stmt} (h : chS Γ b (.asg t e) st = true) : AllS CX L Γ Φ b fun X W => SS X W st (evS Φ (.asg t e)) := by
  intro X W A Y P O
  unfold chS at h
  split at h
  · rename_i x v pos
    rw [Bool.and_eq_true, Bool.and_eq_true, Bool.and_eq_true, Bool.and_eq_true, Bool.and_eq_true, Bool.and_eq_true] at h
    obtain ⟨⟨⟨⟨⟨⟨h1, h2⟩, h3⟩, h4⟩, h5⟩, h6⟩, h7⟩ := h
    have hk := of_decide_eq_true h1
    cases hsw : swB b x v with
    | false =>
      exact ss_asg (chE_ok CX L Γ Φ e b v h4 X W A Y P).se (chT_ok CX L Γ Φ t b x h3 X W A Y P).sg (swaps_of A hk hsw h6) (stores_of A h5) (by rw [asEach_c h2]; rfl)
    | true =>
      rw [hsw, Bool.not_true, Bool.false_or, Bool.and_eq_true] at h7
      have hx : ∃ y p elt gs sc q, x = .Name y p ∧ v = .ListComp elt gs sc q := by
        unfold swB at hsw
        split at hsw
        · exact ⟨_, _, _, _, _, _, rfl, rfl⟩
        · cases hsw
      obtain ⟨y, p, elt, gs, sc, q, rfl, rfl⟩ := hx
      obtain ⟨w1, w2⟩ := swap_true (l := pos.line) A hk hsw
      cases t with
      | tp _ => cases h7.2
      | ix _ _ => cases h7.2
      | fd _ _ _ => cases h7.2
      | nm i =>
        cases e with
        | lc tg own it ifs el =>
          unfold chE at h4
          split at h4
          · rename_i elt' tg' iter ifs' as scope pos' heq
            injection heq with q1 q2 q3 q4
            subst q1; subst q2; subst q3; subst q4
            rw [Bool.and_eq_true, Bool.and_eq_true, Bool.and_eq_true, Bool.and_eq_true, Bool.and_eq_true, Bool.and_eq_true, Bool.and_eq_true, Bool.and_eq_true] at h4
            obtain ⟨⟨⟨⟨⟨⟨⟨⟨g1, g2⟩, g3⟩, g4⟩, g5⟩, g6⟩, g7⟩, g8⟩, g9⟩ := h4
            have e1 := of_decide_eq_true g1
            subst e1
            have e3 := of_decide_eq_true g3
            have ok : BlkOk X.N X.env.scope sc (ownP b own) := by rw [A.N, A.sc]; exact blkOk_by g2
            have hsub : ∀ i ∈ tgI tg, i ∈ (ownP b own).map (·.2) := fun i hi => by
              rw [e3]
              exact List.contains_iff_mem.mp (List.all_eq_true.mp g4 i hi)
            have sg : Blk X sc fun B => SG B W0 (tgI tg) tg' (bindT Φ tg) := fun s H C cl fp => (chT_ok CX L Γ Φ tg _ _ g7 _ W0 (A.blk s H sc C cl fp) (Y.blk ..) (wpass0 Y)).sg
            have se : Blk X sc fun B => SE B W0 elt (evX Φ el) := fun s H C cl fp => (chE_ok CX L Γ Φ el _ _ g9 _ W0 (A.blk s H sc C cl fp) (Y.blk ..) (wpass0 Y)).se
            have sts : Blk X sc fun B => STs B ifs' (evIfs Φ ifs) := fun s H C cl fp => by
              cases ifs' with
              | nil =>
                cases ifs with
                | nil => exact sts_nil
                | cons _ _ => cases g8
              | cons c cs =>
                cases cs with
                | cons _ _ => cases g8
                | nil =>
                  cases ifs with
                  | nil => cases g8
                  | cons e es =>
                    cases es with
                    | cons _ _ => cases g8
                    | nil =>
                      have g8' : (chE Γ (blkB b sc) e c && tstB c) = true := g8
                      rw [Bool.and_eq_true] at g8'
                      exact sts_one ((chE_ok CX L Γ Φ e _ _ g8'.1 _ W0 (A.blk s H sc C cl fp) (Y.blk ..) (wpass0 Y)).st g8'.2)
            have hi : X.N[i]? = some y := by
              unfold chT at h3
              simp only [Bool.and_eq_true, decide_eq_true_eq] at h3
              rw [A.N]; exact h3.1
            have r := ss_asgLc (pos := pos) (W := W) Y.calm Y.nd hi w2 w1 ok hsub (chI_ok CX L Γ Φ it b tg' iter g6 X W A Y P) sg sts se (folded_of g5)
            rw [e3] at r
            have e4 : evS Φ (.asg (.nm i) (.lc tg own it ifs el)) = (fun ρ h => bndS ρ (bnd (evI Φ it ρ h) (fun w h1 => bnn (compL w.g (lcEl own (bindT Φ tg) (evIfs Φ ifs) (evX Φ el) ρ) w.items h1) fun xs h2 => some (.ok (.l xs) h2))) fun x h1 => bnnS (some (.ok (ρ.set i (some (pro x h1).1)) (pro x h1).2)) fun ρ1 h2 => some (.nx ρ1 h2)) := by
              funext ρ h
              rw [evS, evX]
              rfl
            rw [e4]
            exact r
          · cases h4
        | _ => cases h7.1
  · cases h
theorem c_par {is : List Nat} {es : Es} {st : Stmt} (h : chS Γ b (.par is es) st = true) : AllS CX L Γ Φ b fun X W => SS X W st (evS Φ (.par is es)) := by
  intro X W A Y P O
  unfold chS at h
  split at h
  · split at h
    · rename_i x px y py kt pt u v k2 pt2 pos _ i j
      rw [Bool.and_eq_true, Bool.and_eq_true, Bool.and_eq_true, Bool.and_eq_true, Bool.and_eq_true, Bool.and_eq_true, Bool.and_eq_true, Bool.and_eq_true, Bool.and_eq_true, Bool.and_eq_true, Bool.and_eq_true, Bool.and_eq_true] at h
      obtain ⟨⟨⟨⟨⟨⟨⟨⟨⟨⟨⟨⟨h0, h1⟩, h2⟩, h3⟩, h4⟩, h5⟩, h6⟩, h7⟩, h8⟩, h9⟩, h10⟩, h11⟩, h12⟩ := h
      have hb : X.env.blockKind = .function := by unfold PySem.Env.blockKind; rw [A.sc, of_decide_eq_true h0]; rfl
      have hx : X.env.scope.names.lookup x = some .local := by rw [A.sc]; exact of_decide_eq_true h5
      have hy : X.env.scope.names.lookup y = some .local := by rw [A.sc]; exact of_decide_eq_true h6
      rw [Bool.not_eq_true'] at h10 h11
      exact ss_par Y.calm Y.nd (by rw [A.N]; exact of_decide_eq_true h1) (by rw [A.N]; exact of_decide_eq_true h2) (of_decide_eq_true h3) hx hy (chEs_ok CX L Γ Φ es b _ h12 X W A Y P).sa
        (par_of hb hx hy (of_decide_eq_true h4) h7 h8 h9 h10 h11)
    · cases h
  · cases h
theorem c_aug {i : Nat} {o : BOp} {e : E} {st : Stmt} (h : chS Γ b (.aug i o e) st = true) : AllS CX L Γ Φ b fun X W => SS X W st (evS Φ (.aug i o e)) := by
  intro X W A Y P O
  unfold chS at h
  split at h
  · rw [Bool.and_eq_true, Bool.and_eq_true, Bool.and_eq_true] at h
    obtain ⟨⟨⟨h1, h2⟩, h3⟩, h4⟩ := h
    have e1 := of_decide_eq_true h1
    subst e1
    obtain ⟨g1, g2⟩ := loc_of A h3
    exact ss_aug Y.nd (by rw [A.N]; exact of_decide_eq_true h2) g1 g2 (chE_ok CX L Γ Φ e b _ h4 X W A Y P).se
  · cases h
theorem drop_of {X : Cx} {v : Expr} {l : Nat} (h : noComp v = true) : swapsWith v none l X.env = pure false := by
  cases v <;> first | rfl | cases h
theorem c_ex {e : E} {st : Stmt} (h : chS Γ b (.ex e) st = true) : AllS CX L Γ Φ b fun X W => SS X W st (evS Φ (.ex e)) := by
  intro X W A Y P O
  unfold chS at h
  split at h
  · rw [Bool.and_eq_true] at h
    exact ss_ex (chE_ok CX L Γ Φ e b _ h.1 X W A Y P).se (drop_of h.2)
  · cases h
theorem c_ret {e : E} {st : Stmt} (h : chS Γ b (.ret e) st = true) : AllS CX L Γ Φ b fun X W => SS X W st (evS Φ (.ret e)) := by
  intro X W A Y P O
  unfold chS at h
  split at h
  · exact ss_ret (chE_ok CX L Γ Φ e b _ h X W A Y P).se
  · cases h
theorem c_retn {st : Stmt} (h : chS Γ b .retn st = true) : AllS CX L Γ Φ b fun X W => SS X W st (evS Φ .retn) := by
  intro X W A Y P O
  unfold chS at h
  split at h
  · exact ss_retn
  · cases h
theorem c_pass {st : Stmt} (h : chS Γ b .pass st = true) : AllS CX L Γ Φ b fun X W => SS X W st (evS Φ .pass) := by
  intro X W A Y P O
  unfold chS at h
  split at h
  · exact ss_pass
  · cases h
theorem c_none {s : S} {st : Stmt} (hn : ∀ ρ h, evS Φ s ρ h = none) : AllS CX L Γ Φ b fun X W => SS X W st (evS Φ s) := by
  intro X W A Y P O M ρ h σ H r D re rh e fin
  rw [hn] at e
  cases e
theorem c_if {c : E} {t u : Ss} {st : Stmt} (iht : ∀ xs, chSs Γ b t xs = true → AllS CX L Γ Φ b fun X W => SSs X W xs (evSs Φ t)) (ihu : ∀ xs, chSs Γ b u xs = true → AllS CX L Γ Φ b fun X W => SSs X W xs (evSs Φ u)) (h : chS Γ b (.ifs c t u) st = true) : AllS CX L Γ Φ b fun X W => SS X W st (evS Φ (.ifs c t u)) := by
  intro X W A Y P O
  unfold chS at h
  split at h
  · rw [Bool.and_eq_true, Bool.and_eq_true, Bool.and_eq_true] at h
    obtain ⟨⟨⟨h1, h2⟩, h3⟩, h4⟩ := h
    exact ss_if ((chE_ok CX L Γ Φ c b _ h1 X W A Y P).st h2) (iht _ h3 X W A Y P O) (ihu _ h4 X W A Y P O)
  · cases h
theorem c_for {t : Tg} {it : It} {u : Ss} {st : Stmt} (ihu : ∀ xs, chSs Γ b u xs = true → AllS CX L Γ Φ b fun X W => SSs X W xs (evSs Φ u)) (h : chS Γ b (.forr t it u) st = true) : AllS CX L Γ Φ b fun X W => SS X W st (evS Φ (.forr t it u)) := by
  intro X W A Y P O
  unfold chS at h
  split at h
  · rw [Bool.and_eq_true, Bool.and_eq_true, Bool.and_eq_true] at h
    obtain ⟨⟨⟨h1, h2⟩, h3⟩, h4⟩ := h
    exact ss_for O Y.calm (chI_ok CX L Γ Φ it b _ _ h3 X W A Y P) (chT_ok CX L Γ Φ t b _ h2 X W A Y P).sg (ihu _ h4 X W A Y P O) (folded_of h1)
  · cases h
theorem thenS_end (m : ResS) : thenS m (fun ρ h => some (.nx ρ h)) = m := by
  cases m with
  | none => rfl
  | some r => cases r <;> rfl
theorem c_zret {i j : Nat} {a c el : E} {f : String} {tg : Tg} {own : List Nat} {xs : List Stmt} (h : chZ Γ b (.zret i a c f j tg own el) xs = true) : AllS CX L Γ Φ b fun X W => SSs X W xs (evSs Φ (.cons (.zret i a c f j tg own el) .nil)) := by
  intro X W A Y P O
  change zB Γ b i a c f j tg own el xs = true at h
  unfold zB at h
  split at h
  · rename_i x p1 zz p2 u v p3 p4 ff p5 y p6 elt elts kk tp x2 p7 as scope p8 p9 p10
    simp only [Bool.and_eq_true, decide_eq_true_eq] at h
    obtain ⟨⟨⟨⟨⟨⟨⟨⟨⟨⟨⟨⟨⟨⟨⟨⟨⟨⟨⟨⟨⟨⟨⟨h1, h2⟩, h3⟩, h4⟩, h5⟩, h6⟩, h7⟩, h8⟩, h9⟩, h10⟩, h11⟩, h12⟩, h13⟩, h14⟩, h15⟩, h16⟩, h17⟩, h18⟩, h19⟩, h20⟩, h21⟩, h22⟩, h23⟩, h24⟩ := h
    subst h1; subst h14; subst h15; subst h16
    have ok : BlkOk X.N X.env.scope scope (ownP b own) := by rw [A.N, A.sc]; exact blkOk_by h20
    have hsub : ∀ i ∈ tgI tg, i ∈ (ownP b own).map (·.2) := fun i hi => by
      rw [h21]
      exact List.contains_iff_mem.mp (List.all_eq_true.mp h22 i hi)
    have sg : Blk X scope fun B => SG B W0 (tgI tg) (.Tuple elts kk tp) (bindT Φ tg) := fun s H C cl fp => (chT_ok CX L Γ Φ tg _ _ h23 _ W0 (A.blk s H scope C cl fp) (Y.blk ..) (wpass0 Y)).sg
    have se : Blk X scope fun B => SE B W0 elt (evX Φ el) := fun s H C cl fp => (chE_ok CX L Γ Φ el _ _ h24 _ W0 (A.blk s H scope C cl fp) (Y.blk ..) (wpass0 Y)).se
    have r := sss_zret (p := p1) (p2 := p2) (p3 := p3) (pos1 := p4) (p4 := p5) (p5 := p6) (p6 := p7) (lpos := p8) (pos := p9) (pos2 := p10) (i := i) (j := j) (W := W) Y P (List.contains_iff_mem.mp h3) (gl_of A h2) (chE_ok CX L Γ Φ a b _ h6 X W A Y P).se (chE_ok CX L Γ Φ c b _ h7 X W A Y P).se h4 h5 (by rw [A.N]; exact h8) (by rw [A.sc]; exact h9) (dbg_of h10) (by rw [A.N]; exact h11) (vis_of A h12) (dbg_of h13)
      (List.contains_iff_mem.mp h19) (dbg_of h18).1 (gl_of A h17) ok hsub sg se
    rw [h21] at r
    intro M ρ h σ H rr D re rh e fin
    have e2 : thenS (evS Φ (.zret i a c f j tg own el) ρ h) (fun ρ h => some (.nx ρ h)) = some rr := e
    rw [thenS_end, evS] at e2
    exact r M ρ h σ H rr D re rh e2 fin
  · cases h
theorem no_stmt {s : S} {x : Stmt} {A : Prop} (h : chS Γ b s x = true) (n : chS Γ b s x = false) : A := by rw [n] at h; cases h
end
mutual
theorem chS_ok (CX : CXT) (L : Nat) (Γ : Tab) (Φ : Calls) : ∀ (s : S) (b : Bk) (st : Stmt), chS Γ b s st = true → AllS CX L Γ Φ b fun X W => SS X W st (evS Φ s)
  | .asg t e, b, st, h => c_asg h
  | .par is es, b, st, h => c_par h
  | .aug i o e, b, st, h => c_aug h
  | .ex e, b, st, h => c_ex h
  | .ret e, b, st, h => c_ret h
  | .retn, b, st, h => c_retn h
  | .pass, b, st, h => c_pass h
  | .rse c f es, b, st, h => c_none fun _ _ => rfl
  | .ifs c t u, b, st, h => c_if (chSs_ok CX L Γ Φ t b) (chSs_ok CX L Γ Φ u b) h
  | .forr t it u, b, st, h => c_for (chSs_ok CX L Γ Φ u b) h
  | .augx _ _ _ _, b, st, h => no_stmt h rfl
  | .whl _ _, b, st, h => no_stmt h rfl
  | .tri _ _, b, st, h => no_stmt h rfl
  | .zret _ _ _ _ _ _ _ _, b, st, h => no_stmt h rfl
theorem chSs_ok (CX : CXT) (L : Nat) (Γ : Tab) (Φ : Calls) : ∀ (ss : Ss) (b : Bk) (xs : List Stmt), chSs Γ b ss xs = true → AllS CX L Γ Φ b fun X W => SSs X W xs (evSs Φ ss)
  | .nil, b, xs, h => by
    intro X W A Y P O
    unfold chSs at h
    split at h
    · exact sss_nil
    · cases h
  | .cons s ss, b, xs, h => by
    intro X W A Y P O
    unfold chSs at h
    rw [Bool.or_eq_true] at h
    rcases h with h | h
    · rw [Bool.and_eq_true] at h
      obtain ⟨h1, h2⟩ := h
      cases ss with
      | cons _ _ => cases h1
      | nil =>
        cases s with
        | zret i a c f j tg own el => exact c_zret h2 X W A Y P O
        | _ => simp [chZ] at h2
    · split at h
      · rw [Bool.and_eq_true] at h
        exact sss_cons (chS_ok CX L Γ Φ s b _ h.1 X W A Y P O) (chSs_ok CX L Γ Φ ss b _ h.2 X W A Y P O)
      · cases h
end
end Py


set_option Elab.async false
set_option linter.all false
set_option maxRecDepth 100000
set_option maxHeartbeats 4000000
/-! PyX: the defs of a text, all together. -/
namespace Py
open PySem PySem.Spec L2
open PyProof.Rows hiding St
/-- a def of the text: its name here, its own names, its slots, its parameters, where it stands, what it is -/
structure Row where
  name : String
  nm : Str
  qu : Str
  N : List Str
  ps : List Str
  st : Stmt
  fn : Fn
def scB (N ps : List Str) (sc : Scope) : Bool := decide (sc.kind = .function) && !sc.isCoroutine && !sc.isGenerator && decide N.Nodup && decide (N.take ps.length = ps) &&
  (ps.all fun x => decide (sc.names.lookup x = some .local) || decide (sc.names.lookup x = some .cell)) && (sc.names.all fun y => decide (y.2 ≠ .free))
def rowB (Γ : Tab) (r : Row) : Bool := scB r.N r.ps (defScope r.st) && decide (r.fn.np = r.ps.length) && decide (r.fn.nv = r.N.length) && chSs Γ ⟨r.N, defScope r.st, fun _ => true⟩ r.fn.body (defBody r.st)
def progOf (rows : List Row) : Prog := rows.map fun r => (r.name, r.fn)
theorem scB_ok {N ps : List Str} {sc : Scope} (h : scB N ps sc = true) : FnScope N ps sc := by
  unfold scB at h
  rw [Bool.and_eq_true, Bool.and_eq_true, Bool.and_eq_true, Bool.and_eq_true, Bool.and_eq_true, Bool.and_eq_true] at h
  obtain ⟨⟨⟨⟨⟨⟨h1, h2⟩, h3⟩, h4⟩, h5⟩, h6⟩, h7⟩ := h
  rw [List.all_eq_true] at h6 h7
  refine ⟨of_decide_eq_true h1, by simpa using h2, by simpa using h3, of_decide_eq_true h4, of_decide_eq_true h5, fun x hx => ?_, fun y hy => of_decide_eq_true (h7 y hy)⟩
  have := h6 x hx
  rw [Bool.or_eq_true] at this
  exact this.imp of_decide_eq_true of_decide_eq_true
/-- how its arguments are bound -/
def RowBinds (r : Row) : Prop := ∀ (kV doc pm : Value) (an : Option Addr) (cdv ct : Value) (us : List Value), us.length = r.ps.length → bindArgs (PySem.W.fnOf r.nm r.qu (defArgs r.st) (defBody r.st) (defScope r.st) .none kV doc pm an cdv ct) ⟨us, []⟩ = pure (r.ps.zip us)
def RowAt (K : PySem.W.Frag) (r : Row) (f : Addr) (fd : FuncData) : Prop := FunD K r.nm r.qu (defArgs r.st) (defBody r.st) (defScope r.st) [] [] f fd
/-- what the head tells -/
structure Facts (Γ : Tab) (rows : List Row) (K : PySem.W.Frag) (mg : Str → Option Value) : Prop where
  fn : ∀ f ∈ Γ.fns, ∃ a fd r, mg (sO f) = some (.ref a) ∧ PySem.W.keepIn K (.ref a) = true ∧ r ∈ rows ∧ r.name = f ∧ RowAt K r a fd
  mkr : ∀ c ∈ Γ.cls, ∃ a fd r, mg (sO c) = some (.ref (He.ga K (sO c))) ∧ Mk K (He.ga K (sO c)) a ∧ r ∈ rows ∧ r.name = c ++ ".__init__" ∧ RowAt K r a fd
  cl : ∀ c ∈ Γ.cls, Cls K (He.ga K (sO c))
  na : ∀ p ∈ Γ.flds, NoAttr K (He.ga K (sO p.1)) (sO p.2) ∧ Cls K (He.ga K (sO p.1))
  mt : ∀ p ∈ Γ.meths, ∃ a fd r, Meth K (He.ga K (sO p.1)) (sO p.2) a ∧ r ∈ rows ∧ r.name = p.1 ++ "." ++ p.2 ∧ RowAt K r a fd
  eq : ∀ c ∈ Γ.eqs, ∃ a fd r, PySem.W.findIn K (.ref (He.ga K (sO c))) "__eq__" = some (some (.ref a)) ∧ PySem.W.isFn K (.ref a) = true ∧ PySem.W.findIn K (.ref (He.ga K (sO c))) "__ne__" = some (some (.builtin "object.__ne__")) ∧
    PySem.W.mroIn K (He.ga K (sO c)) (.type "object") = some true ∧ r ∈ rows ∧ r.name = c ++ ".__eq__" ∧ RowAt K r a fd
  int : ∀ p ∈ Γ.nInts, ∃ u, mg (sO p.1) = some u ∧ RelV (.int p.2) u
  str : ∀ p ∈ Γ.nStrs, ∃ u, mg (sO p.1) = some u ∧ RelV (.str (sO p.2)) u
  free : ∀ x ∈ Γ.free, mg (sO x) = none
  isi : ∀ c ∈ Γ.cls, PySem.W.findIn K (.ref (He.ga K (sO c))) "__class__" = some (some (.builtin "object.__class__")) ∧ PySem.W.specialIn K (.builtin "object.__class__") "__get__" = some (some (.builtin "getset_descriptor.__get__")) ∧
    PySem.W.takesIn K (.builtin "object.__class__") = some true ∧ PySem.W.mroIn K (He.ga K (sO c)) (.type "object") = some true
  kit : ∀ p ∈ Γ.kits, PySem.W.kitOne K (kOf K Γ.cls p.1) (kOf K Γ.cls p.2.1) = some p.2.2
theorem prog_look {rows : List Row} (hn : (rows.map (·.name)).Nodup) : ∀ {r : Row}, r ∈ rows → (progOf rows).lookup r.name = some r.fn := by
  induction rows with
  | nil => intro r hr; cases hr
  | cons a rows ih =>
    intro r hr
    rw [List.map_cons, List.nodup_cons] at hn
    show ((a.name, a.fn) :: progOf rows).lookup r.name = some r.fn
    rw [List.lookup_cons]
    rcases List.mem_cons.mp hr with rfl | hr
    · simp
    · have ne : (r.name == a.name) = false := beq_eq_false_iff_ne.mpr fun e => hn.1 (List.mem_map.mpr ⟨r, hr, e⟩)
      rw [ne]
      exact ih hn.2 hr
theorem callF_some {P : Prog} {n : Nat} {f : String} {ds : List D} {h : Hd} {r : R D} (e : callF P (n + 1) f ds h = some r) : ∃ fn rs, P.lookup f = some fn ∧ ds.length = fn.np ∧ evSs (callF P n) fn.body (ds.map some ++ List.replicate (fn.nv - fn.np) none) h = some rs ∧
    (match rs with
      | .nx _ h1 => r = .ok .non h1
      | .rt d h1 => r = .ok d h1
      | .ex c fs _ h1 => r = .ex c fs h1) := by
  unfold callF at e
  split at e
  · cases e
  · rename_i fn hf
    split at e
    · rename_i hl
      split at e
      · rename_i q; cases e; exact ⟨fn, _, hf, hl, q, rfl⟩
      · rename_i q; cases e; exact ⟨fn, _, hf, hl, q, rfl⟩
      · rename_i q; cases e; exact ⟨fn, _, hf, hl, q, rfl⟩
      · cases e
    · cases e
theorem re_start {K : PySem.W.Frag} {M : List Addr} {H : Hp} {ds : List D} {vs : List V} {N : List Str} {m : Nat} (r : RVs K M H ds vs) (hm : m = N.length - vs.length) : RE K M H (ds.map some ++ List.replicate m none) (L2.start N vs) := by
  subst hm
  refine ⟨by unfold L2.start; simp [r.length], fun i d h => ?_⟩
  rw [List.getElem?_append] at h
  split at h
  · rename_i hi
    rw [List.getElem?_map, Option.map_eq_some_iff] at h
    obtain ⟨d', h1, h2⟩ := h
    cases h2
    obtain ⟨v, g1, g2⟩ := r.get h1
    refine ⟨v, ?_, g2⟩
    unfold L2.start
    rw [List.getElem?_append_left (by rw [List.length_map, ← r.length]; simpa using hi), List.getElem?_map, g1]
    rfl
  · rw [List.getElem?_replicate] at h
    split at h
    · cases h
    · cases h
section
variable {Pg : Program} {w : World} {K : PySem.W.Frag} {mg : Str → Option Value} {base : Heap} {Γ : Tab} {rows : List Row}
theorem hy_of {n : Nat} {X : Cx} (F : Facts Γ rows X.K X.mg) (hn : X.N.Nodup) (hc : X.calm = true) (hr : Room (2 * n + 1) X.A) (ih : ∀ r ∈ rows, ∀ f fd, RowAt X.K r f fd → FnAt CX0 (2 * n) X (callF (progOf rows) n) r.name f) : Hy CX0 (2 * n) Γ (callF (progOf rows) n) X where
  calm := hc
  nd := hn
  room := hr
  fn := fun f hf => let ⟨a, fd, r, h1, h2, h3, h4, h5⟩ := F.fn f hf; ⟨a, h1, h2, h4 ▸ ih r h3 a fd h5⟩
  mkr := fun f hf => let ⟨a, fd, r, h1, h2, h3, h4, h5⟩ := F.mkr f hf; ⟨a, h1, h2, h4 ▸ ih r h3 a fd h5⟩
  cl := F.cl
  na := F.na
  mt := fun f hf => let ⟨a, fd, r, h1, h3, h4, h5⟩ := F.mt f hf; ⟨a, h1, h4 ▸ ih r h3 a fd h5⟩
  eq := fun f hf => let ⟨a, fd, r, h1, h2, h2', h2'', h3, h4, h5⟩ := F.eq f hf; ⟨a, h1, h2, h2', h2'', h4 ▸ ih r h3 a fd h5⟩
  int := F.int
  str := F.str
  free := F.free
  isi := F.isi
  kit := F.kit
  cx0 := fun _ _ _ _ _ h => h
theorem all_rows (F : Facts Γ rows K mg) (hnd : (rows.map (·.name)).Nodup) (hB : ∀ r ∈ rows, rowB Γ r = true) (hBi : ∀ r ∈ rows, RowBinds r) : ∀ (n : Nat), ∀ r ∈ rows, ∀ f fd, RowAt K r f fd → FnOk Pg w K mg base CX0 (2 * n) f fd r.ps (spF K (callF (progOf rows) n) r.name) ∧ Binds K fd r.ps []
  | 0, r, hr, f, fd, ra => by
    refine ⟨⟨fun vs H Q E hs => ?_, fun A outer s H args us vs Q E _ _ _ _ hs => ?_⟩, ra.bindsN (hBi r hr)⟩
    · obtain ⟨M, h, ds, rr, _, _, e, _⟩ := hs
      cases e
    · obtain ⟨M, h, ds, rr, _, _, e, _⟩ := hs
      cases e
  | n + 1, r, hr, f, fd, ra => by
    have hb := hB r hr
    unfold rowB at hb
    rw [Bool.and_eq_true, Bool.and_eq_true, Bool.and_eq_true] at hb
    obtain ⟨⟨⟨h1, h3⟩, h4⟩, h5⟩ := hb
    have S := scB_ok h1
    have hnp := of_decide_eq_true h3
    have hnv := of_decide_eq_true h4
    have lk := prog_look hnd hr
    refine ⟨?_, ra.bindsN (hBi r hr)⟩
    show FnOk Pg w K mg base CX0 (2 * n + 1 + 1) f fd r.ps _
    refine FunD.ok ra S (fun vs H Q E hs => ?_) (fun cdv A outer s H vs Q E hrm hs => ?_)
    · obtain ⟨M, h, ds, rr, _, rv, e, _⟩ := hs
      obtain ⟨fn, rs, g1, g2, _, _⟩ := callF_some e
      rw [lk] at g1
      cases g1
      rw [← rv.length, g2, hnp]
    · obtain ⟨M, h, ds, rr, rh, rv, e, fin⟩ := hs
      obtain ⟨fn, rs, g1, g2, g3, g4⟩ := callF_some e
      rw [lk] at g1
      cases g1
      refine ⟨_, PSs.nox RunSs.pss, ?_⟩
      have ih := all_rows F hnd hB hBi n
      have Y : Hy CX0 (2 * n) Γ (callF (progOf rows) n) (cxOf CX0 Pg w K mg base r.N r.qu (defScope r.st) f cdv A outer s H E).nox := hy_of F S.nd rfl hrm fun r' hr' f' fd' ra' => ⟨⟨fd', r'.ps, (ih r' hr' f' fd' ra').1, (ih r' hr' f' fd' ra').2⟩⟩
      have hlen : vs.length = r.ps.length := by rw [← rv.length, g2, hnp]
      refine chSs_ok CX0 (2 * n) Γ (callF (progOf rows) n) r.fn.body ⟨r.N, defScope r.st, fun _ => true⟩ _ h5 _ (fun cls d σ H' => E cls d H') ⟨rfl, rfl, rfl⟩ Y (fun σ pins H' s' u s'' I c => c.elim) PassesOwn.never M _ h (L2.start r.N vs) H rs _ (re_start rv ?_) rh g3 ?_
      · rw [hnv, hnp, hlen]
      · cases rs with
        | nx ρ' h' => subst g4; exact fun M' H' σ' ex rh' re' => fin M' H' .non ex rh' .non
        | rt d h' => subst g4; exact fun M' H' v ex rh' rv' => fin M' H' v ex rh' rv'
        | ex c fs' ρ' h' => subst g4; exact fun M' H' σ' cls d ex rh' re' rx => fin M' H' cls d ex rh' rx
end
end Py


set_option Elab.async false
set_option linter.all false
set_option maxRecDepth 100000
set_option maxHeartbeats 4000000
/-! PyY: what the head tells, from a table of names. -/
namespace Py
open PySem PySem.Spec L2
open PyProof.Rows hiding St
/-- a row with its place -/
structure RowP extends Row where
  at_ : Str × Option Str
def RowP.d (r : RowP) : He.DefD := { at_ := r.at_, name := r.nm, qual := r.qu, params := defArgs r.st, body := defBody r.st, scope := defScope r.st }
def faOf (Γ : Tab) : List He.Fa := Γ.fns.map (fun f => He.Fa.glo (sO f)) ++ (Γ.cls.map (fun c => He.Fa.glo (sO c)) ++ (Γ.cls.map (fun c => He.Fa.mkr (sO c)) ++ (Γ.cls.map (fun c => He.Fa.cls (sO c)) ++ (Γ.flds.map (fun p => He.Fa.noat (sO p.1) (sO p.2)) ++ (Γ.flds.map (fun p => He.Fa.cls (sO p.1)) ++ (Γ.meths.map (fun p => He.Fa.meth (sO p.1) (sO p.2)) ++ (Γ.eqs.map (fun c => He.Fa.meth (sO c) (sO "__eq__")) ++ (Γ.nInts.map (fun p => He.Fa.int (sO p.1) p.2) ++ (Γ.nStrs.map (fun p => He.Fa.str (sO p.1) (sO p.2)) ++ (Γ.free.map (fun x => He.Fa.free (sO x))))))))))))
def exB (Γ : Tab) (K : PySem.W.Frag) : Bool :=
  (Γ.eqs.all fun c => He.eqO (PySem.W.findIn K (.ref (He.ga K (sO c))) "__ne__") (some (some (.builtin "object.__ne__"))) && decide (PySem.W.mroIn K (He.ga K (sO c)) (.type "object") = some true)) &&
  (Γ.cls.all fun c => He.eqO (PySem.W.findIn K (.ref (He.ga K (sO c))) "__class__") (some (some (.builtin "object.__class__"))) && He.eqO (PySem.W.specialIn K (.builtin "object.__class__") "__get__") (some (some (.builtin "getset_descriptor.__get__"))) &&
    decide (PySem.W.takesIn K (.builtin "object.__class__") = some true) && decide (PySem.W.mroIn K (He.ga K (sO c)) (.type "object") = some true)) &&
  (Γ.kits.all fun p => decide (PySem.W.kitOne K (kOf K Γ.cls p.1) (kOf K Γ.cls p.2.1) = some p.2.2))
/-- the names lead to the rows -/
def tabB (Γ : Tab) (rows : List RowP) : Bool :=
  (Γ.fns.all fun f => rows.any fun r => r.name == f && decide (r.at_ = (sO f, none))) && (Γ.cls.all fun c => rows.any fun r => r.name == c ++ ".__init__" && decide (r.at_ = (sO c, some (sO "__init__")))) &&
  (Γ.meths.all fun p => rows.any fun r => r.name == p.1 ++ "." ++ p.2 && decide (r.at_ = (sO p.1, some (sO p.2)))) && (Γ.eqs.all fun c => rows.any fun r => r.name == c ++ ".__eq__" && decide (r.at_ = (sO c, some (sO "__eq__"))))
abbrev AlY : Type := Bool × He.AlD
def obsY (Γ : Tab) (rows : List RowP) (K : PySem.W.Frag) : AlY := (exB Γ K, He.obsD (faOf Γ) (rows.map RowP.d) K)
def SaysY (Γ : Tab) (rows : List RowP) (K : PySem.W.Frag) : Prop := exB Γ K = true ∧ He.SaysD (faOf Γ) (rows.map RowP.d) K
def obsYG (n : Nat) (Γ : Tab) (rows : List RowP) (g : Addr → Option Obj) : AlY := obsY Γ rows (He.frG g (He.asD g n))
def hookY (n : Nat) (Γ : Tab) (rows : List RowP) : PySem.W.Hook where
  α := AlY
  obs := fun s => obsYG n Γ rows s.heap.get?
  val := fun _ => (true, He.valD (rows.map RowP.d))
  says := fun _ h => ∃ K : PySem.W.Frag, K.In h ∧ SaysY Γ rows K
  of := fun _ _ e => ⟨_, He.frG_in, congrArg Prod.fst e, congrArg Prod.snd e⟩
  keeps := fun _ _ _ ⟨K, hK, c⟩ k => ⟨K, PySem.W.Frag.In.keeps hK k, c⟩
theorem obsYG_eq {n : Nat} {Γ : Tab} {rows : List RowP} {g : Addr → Option Obj} {s : Shared} (h : ∀ a, g a = s.heap.get? a) : obsYG n Γ rows g = (hookY n Γ rows).obs s := by
  have e : g = s.heap.get? := funext h
  rw [e]
  rfl
theorem fa_0 {Γ : Tab} {x : String} (H : x ∈ Γ.fns) : He.Fa.glo (sO x) ∈ faOf Γ := (List.mem_append_left _ (List.mem_map.mpr ⟨_, H, rfl⟩))
theorem fa_1 {Γ : Tab} {x : String} (H : x ∈ Γ.cls) : He.Fa.glo (sO x) ∈ faOf Γ := (List.mem_append_right _ (List.mem_append_left _ (List.mem_map.mpr ⟨_, H, rfl⟩)))
theorem fa_2 {Γ : Tab} {x : String} (H : x ∈ Γ.cls) : He.Fa.mkr (sO x) ∈ faOf Γ := (List.mem_append_right _ (List.mem_append_right _ (List.mem_append_left _ (List.mem_map.mpr ⟨_, H, rfl⟩))))
theorem fa_3 {Γ : Tab} {x : String} (H : x ∈ Γ.cls) : He.Fa.cls (sO x) ∈ faOf Γ := (List.mem_append_right _ (List.mem_append_right _ (List.mem_append_right _ (List.mem_append_left _ (List.mem_map.mpr ⟨_, H, rfl⟩)))))
theorem fa_4 {Γ : Tab} {x : String × String} (H : x ∈ Γ.flds) : He.Fa.noat (sO x.1) (sO x.2) ∈ faOf Γ := (List.mem_append_right _ (List.mem_append_right _ (List.mem_append_right _ (List.mem_append_right _ (List.mem_append_left _ (List.mem_map.mpr ⟨_, H, rfl⟩))))))
theorem fa_5 {Γ : Tab} {x : String × String} (H : x ∈ Γ.flds) : He.Fa.cls (sO x.1) ∈ faOf Γ := (List.mem_append_right _ (List.mem_append_right _ (List.mem_append_right _ (List.mem_append_right _ (List.mem_append_right _ (List.mem_append_left _ (List.mem_map.mpr ⟨_, H, rfl⟩)))))))
theorem fa_6 {Γ : Tab} {x : String × String} (H : x ∈ Γ.meths) : He.Fa.meth (sO x.1) (sO x.2) ∈ faOf Γ := (List.mem_append_right _ (List.mem_append_right _ (List.mem_append_right _ (List.mem_append_right _ (List.mem_append_right _ (List.mem_append_right _ (List.mem_append_left _ (List.mem_map.mpr ⟨_, H, rfl⟩))))))))
theorem fa_7 {Γ : Tab} {x : String} (H : x ∈ Γ.eqs) : He.Fa.meth (sO x) (sO "__eq__") ∈ faOf Γ := (List.mem_append_right _ (List.mem_append_right _ (List.mem_append_right _ (List.mem_append_right _ (List.mem_append_right _ (List.mem_append_right _ (List.mem_append_right _ (List.mem_append_left _ (List.mem_map.mpr ⟨_, H, rfl⟩)))))))))
theorem fa_8 {Γ : Tab} {x : String × Int} (H : x ∈ Γ.nInts) : He.Fa.int (sO x.1) x.2 ∈ faOf Γ := (List.mem_append_right _ (List.mem_append_right _ (List.mem_append_right _ (List.mem_append_right _ (List.mem_append_right _ (List.mem_append_right _ (List.mem_append_right _ (List.mem_append_right _ (List.mem_append_left _ (List.mem_map.mpr ⟨_, H, rfl⟩))))))))))
theorem fa_9 {Γ : Tab} {x : String × String} (H : x ∈ Γ.nStrs) : He.Fa.str (sO x.1) (sO x.2) ∈ faOf Γ := (List.mem_append_right _ (List.mem_append_right _ (List.mem_append_right _ (List.mem_append_right _ (List.mem_append_right _ (List.mem_append_right _ (List.mem_append_right _ (List.mem_append_right _ (List.mem_append_right _ (List.mem_append_left _ (List.mem_map.mpr ⟨_, H, rfl⟩)))))))))))
theorem fa_10 {Γ : Tab} {x : String} (H : x ∈ Γ.free) : He.Fa.free (sO x) ∈ faOf Γ := (List.mem_append_right _ (List.mem_append_right _ (List.mem_append_right _ (List.mem_append_right _ (List.mem_append_right _ (List.mem_append_right _ (List.mem_append_right _ (List.mem_append_right _ (List.mem_append_right _ (List.mem_append_right _ (List.mem_map.mpr ⟨_, H, rfl⟩)))))))))))
theorem facts_of {Γ : Tab} {rows : List RowP} {K : PySem.W.Frag} {h : Heap} {mg : Str → Option Value} (X : K.In h) (G : h.Ns mainGlobals mg) (c : SaysY Γ rows K) (hT : tabB Γ rows = true) : Facts Γ (rows.map RowP.toRow) K mg := by
  obtain ⟨cx, c⟩ := c
  unfold exB at cx
  rw [Bool.and_eq_true, Bool.and_eq_true, List.all_eq_true, List.all_eq_true, List.all_eq_true] at cx
  obtain ⟨⟨cx1, cx2⟩, cx3⟩ := cx
  unfold tabB at hT
  rw [Bool.and_eq_true, Bool.and_eq_true, Bool.and_eq_true, List.all_eq_true, List.all_eq_true, List.all_eq_true, List.all_eq_true] at hT
  obtain ⟨⟨⟨t1, t2⟩, t3⟩, t4⟩ := hT
  have find : ∀ {P : RowP → Bool}, (rows.any P) = true → ∃ r ∈ rows, P r = true := fun {P} q => List.any_eq_true.mp q
  have row : ∀ r ∈ rows, ∃ fd, RowAt K r.toRow (He.fAd K r.at_) fd := fun r hr => by
    obtain ⟨fd, F⟩ := c.defs (d := r.d) (List.mem_map.mpr ⟨r, hr, rfl⟩)
    exact ⟨fd, F⟩
  have memT : ∀ r ∈ rows, r.toRow ∈ rows.map RowP.toRow := fun r hr => List.mem_map.mpr ⟨r, hr, rfl⟩
  have fa : ∀ {f : He.Fa}, f ∈ faOf Γ → f.ok K = true := fun hf => c.facts hf
  refine ⟨fun f hf => ?_, fun f hf => ?_, fun f hf => ?_, fun p hp => ⟨?_, ?_⟩, fun p hp => ?_, fun f hf => ?_, fun p hp => ?_, fun p hp => ?_, fun x hx => ?_, fun f hf => ?_, fun p hp => of_decide_eq_true (cx3 p hp)⟩
  · obtain ⟨r, hr, q⟩ := find (t1 f hf)
    rw [Bool.and_eq_true] at q
    have e := of_decide_eq_true q.2
    obtain ⟨fd, F⟩ := row r hr
    rw [e] at F
    exact ⟨_, fd, r.toRow, He.glo_ok X G (fa (fa_0 hf)), F.kp, memT r hr, eq_of_beq q.1, F⟩
  · obtain ⟨r, hr, q⟩ := find (t2 f hf)
    rw [Bool.and_eq_true] at q
    have e := of_decide_eq_true q.2
    obtain ⟨fd, F⟩ := row r hr
    rw [e] at F
    exact ⟨_, fd, r.toRow, He.glo_ok X G (fa (fa_1 hf)), He.mkr_ok (fa (fa_2 hf)), memT r hr, eq_of_beq q.1, F⟩
  · exact He.cls_ok (fa (fa_3 hf))
  · exact He.noat_ok (fa (fa_4 hp))
  · exact He.cls_ok (fa (fa_5 hp))
  · obtain ⟨r, hr, q⟩ := find (t3 p hp)
    rw [Bool.and_eq_true] at q
    have e := of_decide_eq_true q.2
    obtain ⟨fd, F⟩ := row r hr
    rw [e] at F
    exact ⟨_, fd, r.toRow, He.meth_ok (fa (fa_6 hp)), memT r hr, eq_of_beq q.1, F⟩
  · obtain ⟨r, hr, q⟩ := find (t4 f hf)
    rw [Bool.and_eq_true] at q
    have e := of_decide_eq_true q.2
    obtain ⟨fd, F⟩ := row r hr
    rw [e] at F
    have m := He.meth_ok (K := K) (x := sO f) (m := sO "__eq__") (fa (fa_7 hf))
    have x1 := cx1 f hf
    rw [Bool.and_eq_true] at x1
    exact ⟨_, fd, r.toRow, m.at_, m.fn, He.eqO_ok x1.1, of_decide_eq_true x1.2, memT r hr, eq_of_beq q.1, F⟩
  · obtain ⟨t, q⟩ := He.int_ok X G (x := sO p.1) (i := p.2) (fa (fa_8 hp))
    exact ⟨_, q, t, rfl⟩
  · obtain ⟨t, q⟩ := He.str_ok X G (x := sO p.1) (z := sO p.2) (fa (fa_9 hp))
    exact ⟨_, q, t, rfl⟩
  · exact He.free_ok X G (fa (fa_10 hx))
  · have x2 := cx2 f hf
    rw [Bool.and_eq_true, Bool.and_eq_true, Bool.and_eq_true] at x2
    exact ⟨He.eqO_ok x2.1.1.1, He.eqO_ok x2.1.1.2, of_decide_eq_true x2.1.2, of_decide_eq_true x2.2⟩
end Py


set_option Elab.async false
set_option linter.all false
set_option maxRecDepth 100000
set_option maxHeartbeats 0
namespace Ly
open PySem PySem.Spec L2 Py
abbrev R : PySem.W.OpenRow := PySem.W.OpenLaw.row PySem.Challenge.rw_roundcopies_k09_whole_what_is_lost_for_g
def body : List Stmt := R.prog.main.body
def at1 (i : Nat) : Stmt := body.getD i (.Pass ⟨0, 0, 0, 0⟩)
def in2 (i j : Nat) : Stmt := inClass (at1 i) j
/-- is_integer: thing -/
def f0 : Fn := ⟨1, 1, (.cons (.ret (.band (.isi (.var 0) ["int"] ["Table", "Sheet", "Layout"]) (.nt (.isi (.var 0) ["bool"] ["Table", "Sheet", "Layout"])))) .nil)⟩
/-- is_within: thing, least, most -/
def f1 : Fn := ⟨3, 3, (.cons (.ret (.band (.call "is_integer" (.cons (.var 0) .nil)) (.chn .le .le (.var 1) (.var 0) (.var 2)))) .nil)⟩
/-- is_pair: thing -/
def f2 : Fn := ⟨1, 1, (.cons (.ret (.band (.isi (.var 0) ["tuple"] ["Table", "Sheet", "Layout"]) (.cmp .eq ["Table", "Sheet", "Layout"] (.blt "len" (.cons (.var 0) .nil)) (.cst (.int 2))))) .nil)⟩
/-- is_lot: thing, many, last, number -/
def f3 : Fn := ⟨2, 4, (.cons (.ifs (.nt (.isi (.var 0) ["tuple"] ["Table", "Sheet", "Layout"])) (.cons (.ret (.cst (.bl false))) .nil) .nil) (.cons (.asg (.nm 2) (.neg (.cst (.int 1)))) (.cons (.forr (.nm 3) (.seq (.var 0)) (.cons (.ifs (.nt (.call "is_within" (.cons (.var 3) (.cons (.bin .add (.var 2) (.cst (.int 1))) (.cons (.bin .sub (.var 1) (.cst (.int 1))) .nil))))) (.cons (.ret (.cst (.bl false))) .nil) .nil) (.cons (.asg (.nm 2) (.var 3)) .nil))) (.cons (.ret (.cst (.bl true))) .nil))))⟩
/-- check_number: thing, least, most -/
def f4 : Fn := ⟨3, 3, (.cons (.ifs (.nt (.call "is_within" (.cons (.var 0) (.cons (.var 1) (.cons (.var 2) .nil))))) (.cons (.rse "NoNumber" none .nil) .nil) .nil) .nil)⟩
/-- check_many: number, most -/
def f5 : Fn := ⟨2, 2, (.cons (.ifs (.cmp .gt [] (.var 0) (.var 1)) (.cons (.rse "TooMany" (some "most") (.cons (.var 1) .nil)) .nil) .nil) .nil)⟩
/-- choices_of: things, many, found, turn, later, some, least, one -/
def f6 : Fn := ⟨2, 8, (.cons (.asg (.nm 2) (.lst (.cons (.tup .nil) .nil))) (.cons (.forr (.nm 3) (.rng (.cons (.var 1) .nil)) (.cons (.asg (.nm 4) (.lst .nil)) (.cons (.forr (.nm 5) (.seq (.var 2)) (.cons (.asg (.nm 6) (.ite (.cmp .gt [] (.blt "len" (.cons (.var 5) .nil)) (.cst (.int 0))) (.bin .add (.idx (.var 5) (.neg (.cst (.int 1)))) (.cst (.int 1))) (.cst (.int 0)))) (.cons (.ex (.bm "list" "extend" (.var 4) (.cons (.lc (.nm 7) [7] (.rng (.cons (.var 6) (.cons (.blt "len" (.cons (.var 0) .nil)) .nil))) .nil (.bin .add (.var 5) (.tup (.cons (.var 7) .nil)))) .nil))) .nil))) (.cons (.asg (.nm 2) (.var 4)) .nil)))) (.cons (.ret (.lc (.nm 5) [5] (.seq (.var 2)) .nil (.blt "tuple" (.cons (.lc (.nm 7) [7] (.seq (.var 5)) .nil (.idx (.var 0) (.var 7))) .nil)))) .nil)))⟩
/-- is_block: boxes, thing -/
def f7 : Fn := ⟨2, 2, (.cons (.ifs (.bor (.nt (.call "is_pair" (.cons (.var 1) .nil))) (.bor (.nt (.call "is_lot" (.cons (.idx (.var 1) (.cst (.int 0))) (.cons (.var 0) .nil)))) (.cmp .eq ["Table", "Sheet", "Layout"] (.blt "len" (.cons (.idx (.var 1) (.cst (.int 0))) .nil)) (.cst (.int 0))))) (.cons (.ret (.cst (.bl false))) .nil) .nil) (.cons (.ret (.call "is_within" (.cons (.idx (.var 1) (.cst (.int 1))) (.cons (.cst (.int 1)) (.cons (.gc "MOST_WEIGHT" (.int 1000000)) .nil))))) .nil))⟩
/-- Table.__init__: self, boxes, blocks, number, block -/
def f8 : Fn := ⟨3, 5, (.cons (.ifs (.nt (.call "is_within" (.cons (.var 1) (.cons (.cst (.int 1)) (.cons (.gc "MOST_BOXES_tables" (.int 120)) .nil))))) (.cons (.rse "BadTable" (some "part") (.cons (.cst (.str (sO "boxes"))) .nil)) .nil) .nil) (.cons (.ifs (.bor (.nt (.isi (.var 2) ["tuple"] ["Table", "Sheet", "Layout"])) (.nt (.chn .le .le (.cst (.int 1)) (.blt "len" (.cons (.var 2) .nil)) (.gc "MOST_BLOCKS" (.int 360))))) (.cons (.rse "BadTable" (some "part") (.cons (.cst (.str (sO "blocks"))) .nil)) .nil) .nil) (.cons (.forr (.tp (.cons (.nm 3) (.cons (.nm 4) .nil))) (.enm (.var 2)) (.cons (.ifs (.nt (.call "is_block" (.cons (.var 1) (.cons (.var 4) .nil)))) (.cons (.rse "BadTable" (some "part") (.cons (.var 3) .nil)) .nil) .nil) .nil)) (.cons (.asg (.fd (.var 0) "boxes" ["Table"]) (.var 1)) (.cons (.asg (.fd (.var 0) "blocks" ["Table"]) (.var 2)) .nil)))))⟩
/-- Table.__eq__: self, other -/
def f9 : Fn := ⟨2, 2, (.cons (.ret (.band (.isi (.var 1) ["Table"] ["Table", "Sheet", "Layout"]) (.band (.cmp .eq ["Table", "Sheet", "Layout"] (.fld (.var 0) "boxes" ["Table"]) (.fld (.var 1) "boxes" ["Table"])) (.cmp .eq ["Table", "Sheet", "Layout"] (.fld (.var 0) "blocks" ["Table"]) (.fld (.var 1) "blocks" ["Table"]))))) .nil)⟩
/-- left_of: lot, loss, box -/
def f10 : Fn := ⟨2, 3, (.cons (.ret (.blt "tuple" (.cons (.lc (.nm 2) [2] (.seq (.var 0)) (.cons (.cmp .nin [] (.var 2) (.var 1)) .nil) (.var 2)) .nil))) .nil)⟩
/-- gone_of: table, loss, number, lot, weight -/
def f11 : Fn := ⟨2, 5, (.cons (.ret (.blt "tuple" (.cons (.lc (.tp (.cons (.nm 2) (.cons (.tp (.cons (.nm 3) (.cons (.nm 4) .nil))) .nil))) [2, 3, 4] (.enm (.fld (.var 0) "blocks" ["Table"])) (.cons (.cmp .eq ["Table", "Sheet", "Layout"] (.blt "len" (.cons (.call "left_of" (.cons (.var 3) (.cons (.var 1) .nil))) .nil)) (.cst (.int 0))) .nil) (.var 2)) .nil))) .nil)⟩
/-- weight_gone: table, loss, number -/
def f12 : Fn := ⟨2, 3, (.cons (.ret (.blt "sum" (.cons (.lc (.nm 2) [2] (.seq (.call "gone_of" (.cons (.var 0) (.cons (.var 1) .nil)))) .nil (.idx (.idx (.fld (.var 0) "blocks" ["Table"]) (.var 2)) (.cst (.int 1)))) .nil))) .nil)⟩
/-- worst_by: table, many, found, loss, weight -/
def f13 : Fn := ⟨2, 5, (.cons (.ex (.call "check_number" (.cons (.var 1) (.cons (.cst (.int 0)) (.cons (.fld (.var 0) "boxes" ["Table"]) .nil))))) (.cons (.ex (.call "check_many" (.cons (.fld (.var 0) "boxes" ["Table"]) (.cons (.gc "MOST_BOXES_losses" (.int 14)) .nil)))) (.cons (.asg (.nm 2) (.cst .non)) (.cons (.forr (.nm 3) (.seq (.call "choices_of" (.cons (.itb "list" (.rng (.cons (.fld (.var 0) "boxes" ["Table"]) .nil))) (.cons (.var 1) .nil)))) (.cons (.asg (.nm 4) (.call "weight_gone" (.cons (.var 0) (.cons (.var 3) .nil)))) (.cons (.ifs (.bor (.cmp .iss [] (.var 2) (.cst .non)) (.cmp .gt [] (.var 4) (.idx (.var 2) (.cst (.int 0))))) (.cons (.asg (.nm 2) (.tup (.cons (.var 4) (.cons (.var 3) .nil)))) .nil) .nil) .nil))) (.cons (.ret (.var 2)) .nil)))))⟩
/-- most_gone: table, many -/
def f14 : Fn := ⟨2, 2, (.cons (.ret (.idx (.call "worst_by" (.cons (.var 0) (.cons (.var 1) .nil))) (.cst (.int 0)))) .nil)⟩
/-- worst_gone: table, many -/
def f15 : Fn := ⟨2, 2, (.cons (.ret (.idx (.call "worst_by" (.cons (.var 0) (.cons (.var 1) .nil))) (.cst (.int 1)))) .nil)⟩
/-- product_of: numbers, found, number -/
def f16 : Fn := ⟨1, 3, (.cons (.asg (.nm 1) (.cst (.int 1))) (.cons (.forr (.nm 2) (.seq (.var 0)) (.cons (.aug 1 .mul (.var 2)) .nil)) (.cons (.ret (.var 1)) .nil)))⟩
/-- Sheet.__init__: self, moduli, modulus -/
def f17 : Fn := ⟨2, 3, (.cons (.ifs (.bor (.nt (.isi (.var 1) ["tuple"] ["Table", "Sheet", "Layout"])) (.nt (.chn .le .le (.cst (.int 1)) (.blt "len" (.cons (.var 1) .nil)) (.gc "MOST_MODULI" (.int 3))))) (.cons (.rse "BadSheet" (some "part") (.cons (.cst (.str (sO "moduli"))) .nil)) .nil) .nil) (.cons (.ifs (.nt (.blt "all" (.cons (.lc (.nm 2) [2] (.seq (.var 1)) .nil (.call "is_within" (.cons (.var 2) (.cons (.cst (.int 1)) (.cons (.gc "MOST_PLACES" (.int 120)) .nil))))) .nil))) (.cons (.rse "BadSheet" (some "part") (.cons (.cst (.str (sO "moduli"))) .nil)) .nil) .nil) (.cons (.ifs (.cmp .gt [] (.call "product_of" (.cons (.var 1) .nil)) (.gc "MOST_PLACES" (.int 120))) (.cons (.rse "BadSheet" (some "part") (.cons (.cst (.str (sO "places"))) .nil)) .nil) .nil) (.cons (.asg (.fd (.var 0) "moduli" ["Sheet"]) (.var 1)) (.cons (.asg (.fd (.var 0) "places" ["Sheet"]) (.call "product_of" (.cons (.var 1) .nil))) .nil)))))⟩
/-- Sheet.__eq__: self, other -/
def f18 : Fn := ⟨2, 2, (.cons (.ret (.band (.isi (.var 1) ["Sheet"] ["Table", "Sheet", "Layout"]) (.cmp .eq ["Table", "Sheet", "Layout"] (.fld (.var 0) "moduli" ["Sheet"]) (.fld (.var 1) "moduli" ["Sheet"])))) .nil)⟩
/-- rests_of: sheet, place, found, left, modulus -/
def f19 : Fn := ⟨2, 5, (.cons (.asg (.nm 2) (.tup .nil)) (.cons (.asg (.nm 3) (.var 1)) (.cons (.forr (.nm 4) (.seq (.rev (.fld (.var 0) "moduli" ["Sheet"]))) (.cons (.asg (.nm 2) (.bin .add (.tup (.cons (.bin .mod (.var 3) (.var 4)) .nil)) (.var 2))) (.cons (.aug 3 .fdiv (.var 4)) .nil))) (.cons (.ret (.var 2)) .nil))))⟩
/-- place_by: sheet, some, found, modulus, rest -/
def f20 : Fn := ⟨2, 5, (.cons (.asg (.nm 2) (.cst (.int 0))) (.cons (.forr (.tp (.cons (.nm 3) (.cons (.nm 4) .nil))) (.zip (.fld (.var 0) "moduli" ["Sheet"]) (.var 1)) (.cons (.asg (.nm 2) (.bin .add (.bin .mul (.var 2) (.var 3)) (.bin .mod (.var 4) (.var 3)))) .nil)) (.cons (.ret (.var 2)) .nil)))⟩
/-- sum_of: sheet, one, other, pairs, first, second -/
def f21 : Fn := ⟨3, 6, (.cons (.zret 3 (.call "rests_of" (.cons (.var 0) (.cons (.var 1) .nil))) (.call "rests_of" (.cons (.var 0) (.cons (.var 2) .nil))) "place_by" 0 (.tp (.cons (.nm 4) (.cons (.nm 5) .nil))) [4, 5] (.bin .add (.var 4) (.var 5))) .nil)⟩
/-- shift_of: sheet, lot, place, one -/
def f22 : Fn := ⟨3, 4, (.cons (.ret (.blt "tuple" (.cons (.blt "sorted" (.cons (.lc (.nm 3) [3] (.seq (.var 1)) .nil (.call "sum_of" (.cons (.var 0) (.cons (.var 2) (.cons (.var 3) .nil))))) .nil)) .nil))) .nil)⟩
/-- is_kind: sheet, thing -/
def f23 : Fn := ⟨2, 2, (.cons (.ifs (.bor (.nt (.call "is_pair" (.cons (.var 1) .nil))) (.bor (.nt (.call "is_lot" (.cons (.idx (.var 1) (.cst (.int 0))) (.cons (.fld (.var 0) "places" ["Sheet"]) .nil)))) (.nt (.chn .le .le (.cst (.int 1)) (.blt "len" (.cons (.idx (.var 1) (.cst (.int 0))) .nil)) (.gc "MOST_STEPS" (.int 8)))))) (.cons (.ret (.cst (.bl false))) .nil) .nil) (.cons (.ret (.call "is_within" (.cons (.idx (.var 1) (.cst (.int 1))) (.cons (.cst (.int 1)) (.cons (.gc "MOST_WEIGHT" (.int 1000000)) .nil))))) .nil))⟩
/-- Layout.__init__: self, sheet, kinds, number, kind -/
def f24 : Fn := ⟨3, 5, (.cons (.ifs (.nt (.isi (.var 1) ["Sheet"] ["Table", "Sheet", "Layout"])) (.cons (.rse "BadLayout" (some "part") (.cons (.cst (.str (sO "sheet"))) .nil)) .nil) .nil) (.cons (.ifs (.bor (.nt (.isi (.var 2) ["tuple"] ["Table", "Sheet", "Layout"])) (.nt (.chn .le .le (.cst (.int 1)) (.blt "len" (.cons (.var 2) .nil)) (.gc "MOST_KINDS" (.int 3))))) (.cons (.rse "BadLayout" (some "part") (.cons (.cst (.str (sO "kinds"))) .nil)) .nil) .nil) (.cons (.forr (.tp (.cons (.nm 3) (.cons (.nm 4) .nil))) (.enm (.var 2)) (.cons (.ifs (.nt (.call "is_kind" (.cons (.var 1) (.cons (.var 4) .nil)))) (.cons (.rse "BadLayout" (some "part") (.cons (.var 3) .nil)) .nil) .nil) .nil)) (.cons (.asg (.fd (.var 0) "sheet" ["Layout"]) (.var 1)) (.cons (.asg (.fd (.var 0) "kinds" ["Layout"]) (.var 2)) .nil)))))⟩
/-- Layout.__eq__: self, other -/
def f25 : Fn := ⟨2, 2, (.cons (.ret (.band (.isi (.var 1) ["Layout"] ["Table", "Sheet", "Layout"]) (.band (.cmp .eq ["Table", "Sheet", "Layout"] (.fld (.var 0) "sheet" ["Layout"]) (.fld (.var 1) "sheet" ["Layout"])) (.cmp .eq ["Table", "Sheet", "Layout"] (.fld (.var 0) "kinds" ["Layout"]) (.fld (.var 1) "kinds" ["Layout"]))))) .nil)⟩
/-- blocks_of: sheet, kind, steps, weight, place -/
def f26 : Fn := ⟨2, 5, (.cons (.asg (.tp (.cons (.nm 2) (.cons (.nm 3) .nil))) (.var 1)) (.cons (.ret (.lc (.nm 4) [4] (.rng (.cons (.fld (.var 0) "places" ["Sheet"]) .nil)) .nil (.tup (.cons (.call "shift_of" (.cons (.var 0) (.cons (.var 2) (.cons (.var 4) .nil)))) (.cons (.var 3) .nil))))) .nil))⟩
/-- table_by: layout, found, kind -/
def f27 : Fn := ⟨1, 3, (.cons (.asg (.nm 1) (.lst .nil)) (.cons (.forr (.nm 2) (.seq (.fld (.var 0) "kinds" ["Layout"])) (.cons (.ex (.bm "list" "extend" (.var 1) (.cons (.call "blocks_of" (.cons (.fld (.var 0) "sheet" ["Layout"]) (.cons (.var 2) .nil))) .nil))) .nil)) (.cons (.ret (.mk "Table" (.cons (.fld (.fld (.var 0) "sheet" ["Layout"]) "places" ["Sheet"]) (.cons (.blt "tuple" (.cons (.var 1) .nil)) .nil)))) .nil)))⟩
/-- table_of: layout -/
def f28 : Fn := ⟨1, 1, (.cons (.ret (.call "table_by" (.cons (.var 0) .nil))) .nil)⟩
/-- _law_tape: _law_script -/
def f29 : Fn := ⟨1, 1, (.cons (.ret (.lst (.cons (.blt "list" (.cons (.var 0) .nil)) (.cons (.cst (.int 0)) (.cons (.cst (.int 0)) (.cons (.cst (.int 1)) (.cons (.cst (.int 0)) .nil))))))) .nil)⟩
/-- _law_pick: _law_tape_here, _law_many, _law_cell, _law_mixed, _law_digit -/
def f30 : Fn := ⟨2, 5, (.cons (.ifs (.cmp .gt [] (.idx (.var 0) (.cst (.int 2))) (.cst (.int 1))) (.cons (.asg (.nm 4) (.bin .mod (.blt "int" (.cons (.idx (.var 0) (.cst (.int 2))) .nil)) (.var 1))) (.cons (.asg (.ix (.var 0) (.cst (.int 2))) (.bin .fdiv (.idx (.var 0) (.cst (.int 2))) (.var 1))) (.cons (.ret (.var 4)) .nil))) .nil) (.cons (.asg (.ix (.var 0) (.cst (.int 4))) (.bin .add (.idx (.var 0) (.cst (.int 4))) (.cst (.int 1)))) (.cons (.asg (.nm 2) (.cst (.int 0))) (.cons (.ifs (.cmp .lt [] (.idx (.var 0) (.cst (.int 1))) (.blt "len" (.cons (.idx (.var 0) (.cst (.int 0))) .nil))) (.cons (.asg (.nm 2) (.idx (.idx (.var 0) (.cst (.int 0))) (.idx (.var 0) (.cst (.int 1))))) (.cons (.asg (.ix (.var 0) (.cst (.int 1))) (.bin .add (.idx (.var 0) (.cst (.int 1))) (.cst (.int 1)))) .nil)) .nil) (.cons (.ifs (.cmp .ge [] (.var 2) (.bin .pow (.cst (.int 10)) (.cst (.int 18)))) (.cons (.asg (.ix (.var 0) (.cst (.int 2))) (.bin .fdiv (.var 2) (.var 1))) (.cons (.ret (.bin .mod (.blt "int" (.cons (.var 2) .nil)) (.var 1))) .nil)) .nil) (.cons (.asg (.nm 3) (.blt "int" (.cons (.bin .add (.bin .mul (.idx (.var 0) (.cst (.int 3))) (.cst (.int 48271))) (.bin .mul (.idx (.var 0) (.cst (.int 4))) (.cst (.int 69621)))) .nil))) (.cons (.asg (.nm 3) (.bin .mod (.blt "int" (.cons (.bin .add (.var 3) (.bin .mod (.blt "int" (.cons (.var 2) .nil)) (.cst (.int 2147483629)))) .nil)) (.cst (.int 2147483647)))) (.cons (.asg (.nm 3) (.bin .mod (.blt "int" (.cons (.bin .mul (.var 3) (.bin .add (.bin .fdiv (.var 3) (.cst (.int 1009))) (.cst (.int 40692)))) .nil)) (.cst (.int 2147483399)))) (.cons (.asg (.ix (.var 0) (.cst (.int 3))) (.var 3)) (.cons (.ret (.bin .mod (.blt "int" (.cons (.bin .fdiv (.var 3) (.cst (.int 16))) .nil)) (.var 1))) .nil))))))))))⟩
/-- _law_any: _law_tape_here, _law_some -/
def f31 : Fn := ⟨2, 2, (.cons (.ret (.idx (.var 1) (.call "_law_pick" (.cons (.var 0) (.cons (.blt "len" (.cons (.var 1) .nil)) .nil))))) .nil)⟩
/-- _law_same: _law_told, _law_due, _law_at, _law_one -/
def f32 : Fn := ⟨2, 4, (.cons (.ifs (.isi (.var 1) ["tuple", "list"] ["Table", "Sheet", "Layout"]) (.cons (.ifs (.bor (.cmp .ne ["Table", "Sheet", "Layout"] (.isi (.var 1) ["list"] ["Table", "Sheet", "Layout"]) (.isi (.var 0) ["list"] ["Table", "Sheet", "Layout"])) (.cmp .ne ["Table", "Sheet", "Layout"] (.isi (.var 1) ["tuple"] ["Table", "Sheet", "Layout"]) (.isi (.var 0) ["tuple"] ["Table", "Sheet", "Layout"]))) (.cons (.ret (.cst (.bl false))) .nil) .nil) (.cons (.ret (.band (.cmp .eq ["Table", "Sheet", "Layout"] (.blt "len" (.cons (.var 0) .nil)) (.blt "len" (.cons (.var 1) .nil))) (.blt "all" (.cons (.lc (.tp (.cons (.nm 2) (.cons (.nm 3) .nil))) [2, 3] (.enm (.var 1)) .nil (.call "_law_same" (.cons (.idx (.var 0) (.var 2)) (.cons (.var 3) .nil)))) .nil)))) .nil)) .nil) (.cons (.ifs (.bor (.isi (.var 1) ["bool"] ["Table", "Sheet", "Layout"]) (.isi (.var 0) ["bool"] ["Table", "Sheet", "Layout"])) (.cons (.ret (.band (.isi (.var 1) ["bool"] ["Table", "Sheet", "Layout"]) (.band (.isi (.var 0) ["bool"] ["Table", "Sheet", "Layout"]) (.cmp .eq ["Table", "Sheet", "Layout"] (.var 0) (.var 1))))) .nil) .nil) (.cons (.ret (.band (.cmp .eq ["Table", "Sheet", "Layout"] (.var 0) (.var 1)) (.bor (.cmp .iss [] (.var 1) (.cst .non)) (.isi (.var 0) ["int", "str"] ["Table", "Sheet", "Layout"])))) .nil)))⟩
/-- _law_table: _law_tape_here, _law_boxes, _law_blocks, _law_most, _law_got, _law_great, _law_turn, _law_lot, _law_again -/
def f33 : Fn := ⟨4, 9, (.cons (.asg (.nm 4) (.lst .nil)) (.cons (.asg (.nm 5) (.cmp .eq ["Table", "Sheet", "Layout"] (.call "_law_pick" (.cons (.var 0) (.cons (.cst (.int 8)) .nil))) (.cst (.int 0)))) (.cons (.forr (.nm 6) (.rng (.cons (.bin .add (.cst (.int 1)) (.call "_law_pick" (.cons (.var 0) (.cons (.var 2) .nil)))) .nil)) (.cons (.asg (.nm 7) (.sset (.lc (.nm 8) [8] (.rng (.cons (.bin .add (.cst (.int 1)) (.call "_law_pick" (.cons (.var 0) (.cons (.cst (.int 4)) .nil)))) .nil)) .nil (.call "_law_pick" (.cons (.var 0) (.cons (.var 1) .nil)))))) (.cons (.ex (.bm "list" "append" (.var 4) (.cons (.tup (.cons (.blt "tuple" (.cons (.var 7) .nil)) (.cons (.bin .add (.cst (.int 1)) (.call "_law_pick" (.cons (.var 0) (.cons (.ite (.var 5) (.bin .pow (.cst (.int 10)) (.cst (.int 6))) (.var 3)) .nil)))) .nil))) .nil))) .nil))) (.cons (.ret (.tup (.cons (.var 1) (.cons (.blt "tuple" (.cons (.var 4) .nil)) .nil)))) .nil))))⟩
/-- _law_losses: _law_many, _law_size, _law_got, _law_turn, _law_later, _law_lot, _law_one -/
def f34 : Fn := ⟨2, 7, (.cons (.asg (.nm 2) (.lst (.cons (.tup .nil) .nil))) (.cons (.forr (.nm 3) (.rng (.cons (.var 1) .nil)) (.cons (.asg (.nm 4) (.lst .nil)) (.cons (.forr (.nm 5) (.seq (.var 2)) (.cons (.ex (.bm "list" "extend" (.var 4) (.cons (.lc (.nm 6) [6] (.rng (.cons (.ite (.cmp .gt [] (.blt "len" (.cons (.var 5) .nil)) (.cst (.int 0))) (.bin .add (.idx (.var 5) (.neg (.cst (.int 1)))) (.cst (.int 1))) (.cst (.int 0))) (.cons (.var 0) .nil))) .nil (.bin .add (.var 5) (.tup (.cons (.var 6) .nil)))) .nil))) .nil)) (.cons (.asg (.nm 2) (.var 4)) .nil)))) (.cons (.ret (.var 2)) .nil)))⟩
/-- _law_worst: _law_blocks, _law_boxes, _law_many, _law_masks, _law_got, _law_loss, _law_lost, _law_own, _law_lot, _law_weight, _law_box, _law_mask -/
def f35 : Fn := ⟨3, 12, (.cons (.asg (.nm 3) (.lc (.tp (.cons (.nm 8) (.cons (.nm 9) .nil))) [8, 9] (.seq (.var 0)) .nil (.tup (.cons (.blt "sum" (.cons (.lc (.nm 10) [10] (.seq (.var 8)) .nil (.bin .shl (.cst (.int 1)) (.var 10))) .nil)) (.cons (.var 9) .nil))))) (.cons (.asg (.nm 4) (.cst .non)) (.cons (.forr (.nm 5) (.seq (.call "_law_losses" (.cons (.var 1) (.cons (.var 2) .nil)))) (.cons (.asg (.nm 6) (.blt "sum" (.cons (.lc (.nm 10) [10] (.seq (.var 5)) .nil (.bin .shl (.cst (.int 1)) (.var 10))) .nil))) (.cons (.asg (.nm 7) (.blt "sum" (.cons (.lc (.tp (.cons (.nm 11) (.cons (.nm 9) .nil))) [11, 9] (.seq (.var 3)) (.cons (.cmp .eq ["Table", "Sheet", "Layout"] (.bin .band (.var 11) (.var 6)) (.var 11)) .nil) (.var 9)) .nil))) (.cons (.ifs (.bor (.cmp .iss [] (.var 4) (.cst .non)) (.cmp .gt [] (.var 7) (.idx (.var 4) (.cst (.int 0))))) (.cons (.asg (.nm 4) (.tup (.cons (.var 7) (.cons (.var 5) .nil)))) .nil) .nil) .nil)))) (.cons (.ret (.var 4)) .nil))))⟩
/-- _law_rows_right: _law_tape_here, _law_many, _law_steps, _law_place, _law_shown, _law_table_here, _law_lost, _law_due, _law_step -/
def f36 : Fn := ⟨1, 9, (.cons (.asg (.nm 1) (.bin .add (.cst (.int 1)) (.call "_law_pick" (.cons (.var 0) (.cons (.ite (.cmp .eq ["Table", "Sheet", "Layout"] (.call "_law_pick" (.cons (.var 0) (.cons (.cst (.int 12)) .nil))) (.cst (.int 0))) (.cst (.int 14)) (.cst (.int 8))) .nil))))) (.cons (.asg (.nm 2) (.bin .add (.cst (.int 1)) (.call "_law_pick" (.cons (.var 0) (.cons (.blt "min" (.cons (.var 1) (.cons (.cst (.int 8)) .nil))) .nil))))) (.cons (.asg (.nm 3) (.call "_law_pick" (.cons (.var 0) (.cons (.var 1) .nil)))) (.cons (.asg (.nm 4) (.blt "tuple" (.cons (.blt "sorted" (.cons (.lc (.nm 8) [8] (.rng (.cons (.var 2) .nil)) .nil (.bin .mod (.blt "int" (.cons (.bin .add (.var 3) (.var 8)) .nil)) (.var 1))) .nil)) .nil))) (.cons (.asg (.nm 5) (.call "table_of" (.cons (.mk "Layout" (.cons (.mk "Sheet" (.cons (.tup (.cons (.var 1) .nil)) .nil)) (.cons (.tup (.cons (.tup (.cons (.var 4) (.cons (.cst (.int 1)) .nil))) .nil)) .nil))) .nil))) (.cons (.forr (.nm 6) (.seq (.lst (.cons (.call "_law_pick" (.cons (.var 0) (.cons (.bin .add (.var 1) (.cst (.int 1))) .nil))) (.cons (.var 2) (.cons (.bin .sub (.var 2) (.cst (.int 1))) (.cons (.var 1) (.cons (.blt "min" (.cons (.var 1) (.cons (.bin .add (.var 2) (.cst (.int 1))) .nil))) .nil))))))) (.cons (.asg (.nm 7) (.ite (.cmp .eq ["Table", "Sheet", "Layout"] (.var 6) (.var 1)) (.var 1) (.blt "max" (.cons (.cst (.int 0)) (.cons (.bin .add (.bin .sub (.var 6) (.var 2)) (.cst (.int 1))) .nil))))) (.cons (.ifs (.nt (.call "_law_same" (.cons (.call "most_gone" (.cons (.var 5) (.cons (.var 6) .nil))) (.cons (.var 7) .nil)))) (.cons (.ret (.cst (.bl false))) .nil) .nil) .nil))) (.cons (.ret (.cst (.bl true))) .nil)))))))⟩
/-- law: _law_script, _law_tape_here, _law_turn, _law_wide, _law_numbers, _law_many, _law_boxes, _law_blocks, _law_table_here, _law_last, _law_due -/
def f37 : Fn := ⟨1, 11, (.cons (.asg (.nm 1) (.call "_law_tape" (.cons (.var 0) .nil))) (.cons (.forr (.nm 2) (.rng (.cons (.cst (.int 2)) .nil)) (.cons (.asg (.nm 3) (.cmp .eq ["Table", "Sheet", "Layout"] (.call "_law_pick" (.cons (.var 1) (.cons (.cst (.int 12)) .nil))) (.cst (.int 0)))) (.cons (.asg (.tp (.cons (.nm 6) (.cons (.nm 7) .nil))) (.call "_law_table" (.cons (.var 1) (.cons (.ite (.var 3) (.cst (.int 14)) (.cst (.int 8))) (.cons (.cst (.int 12)) (.cons (.cst (.int 9)) .nil)))))) (.cons (.par [8, 9] (.cons (.mk "Table" (.cons (.var 6) (.cons (.var 7) .nil))) (.cons (.neg (.cst (.int 1))) .nil))) (.cons (.asg (.nm 4) (.ite (.var 3) (.lst (.cons (.cst (.int 0)) (.cons (.cst (.int 1)) (.cons (.var 6) (.cons (.blt "max" (.cons (.cst (.int 0)) (.cons (.bin .sub (.var 6) (.cst (.int 1))) .nil))) (.cons (.call "_law_pick" (.cons (.var 1) (.cons (.bin .add (.var 6) (.cst (.int 1))) .nil))) .nil)))))) (.itb "list" (.rng (.cons (.bin .add (.var 6) (.cst (.int 1))) .nil))))) (.cons (.forr (.nm 5) (.seq (.sset (.var 4))) (.cons (.asg (.nm 10) (.call "_law_worst" (.cons (.var 7) (.cons (.var 6) (.cons (.var 5) .nil))))) (.cons (.ifs (.bor (.nt (.call "_law_same" (.cons (.lst (.cons (.call "most_gone" (.cons (.var 8) (.cons (.var 5) .nil))) (.cons (.call "worst_gone" (.cons (.var 8) (.cons (.var 5) .nil))) .nil))) (.cons (.lst (.cons (.idx (.var 10) (.cst (.int 0))) (.cons (.idx (.var 10) (.cst (.int 1))) .nil))) .nil)))) (.cmp .lt [] (.idx (.var 10) (.cst (.int 0))) (.var 9))) (.cons (.ret (.cst (.bl false))) .nil) .nil) (.cons (.asg (.nm 9) (.idx (.var 10) (.cst (.int 0)))) .nil)))) .nil)))))) (.cons (.ret (.call "_law_rows_right" (.cons (.var 1) .nil))) .nil)))⟩
def rows : List RowP := [
  ⟨⟨"is_integer", sO "is_integer", sO "is_integer", [sO "thing"], [sO "thing"], (at1 8), f0⟩, (sO "is_integer", none)⟩,
  ⟨⟨"is_within", sO "is_within", sO "is_within", [sO "thing", sO "least", sO "most"], [sO "thing", sO "least", sO "most"], (at1 9), f1⟩, (sO "is_within", none)⟩,
  ⟨⟨"is_pair", sO "is_pair", sO "is_pair", [sO "thing"], [sO "thing"], (at1 10), f2⟩, (sO "is_pair", none)⟩,
  ⟨⟨"is_lot", sO "is_lot", sO "is_lot", [sO "thing", sO "many", sO "last", sO "number"], [sO "thing", sO "many"], (at1 11), f3⟩, (sO "is_lot", none)⟩,
  ⟨⟨"check_number", sO "check_number", sO "check_number", [sO "thing", sO "least", sO "most"], [sO "thing", sO "least", sO "most"], (at1 12), f4⟩, (sO "check_number", none)⟩,
  ⟨⟨"check_many", sO "check_many", sO "check_many", [sO "number", sO "most"], [sO "number", sO "most"], (at1 13), f5⟩, (sO "check_many", none)⟩,
  ⟨⟨"choices_of", sO "choices_of", sO "choices_of", [sO "things", sO "many", sO "found", sO "turn", sO "later", sO "some", sO "least", sO "one"], [sO "things", sO "many"], (at1 14), f6⟩, (sO "choices_of", none)⟩,
  ⟨⟨"is_block", sO "is_block", sO "is_block", [sO "boxes", sO "thing"], [sO "boxes", sO "thing"], (at1 19), f7⟩, (sO "is_block", none)⟩,
  ⟨⟨"Table.__init__", sO "__init__", sO "Table.__init__", [sO "self", sO "boxes", sO "blocks", sO "number", sO "block"], [sO "self", sO "boxes", sO "blocks"], (in2 20 0), f8⟩, (sO "Table", some (sO "__init__"))⟩,
  ⟨⟨"Table.__eq__", sO "__eq__", sO "Table.__eq__", [sO "self", sO "other"], [sO "self", sO "other"], (in2 20 1), f9⟩, (sO "Table", some (sO "__eq__"))⟩,
  ⟨⟨"left_of", sO "left_of", sO "left_of", [sO "lot", sO "loss", sO "box"], [sO "lot", sO "loss"], (at1 21), f10⟩, (sO "left_of", none)⟩,
  ⟨⟨"gone_of", sO "gone_of", sO "gone_of", [sO "table", sO "loss", sO "number", sO "lot", sO "weight"], [sO "table", sO "loss"], (at1 22), f11⟩, (sO "gone_of", none)⟩,
  ⟨⟨"weight_gone", sO "weight_gone", sO "weight_gone", [sO "table", sO "loss", sO "number"], [sO "table", sO "loss"], (at1 25), f12⟩, (sO "weight_gone", none)⟩,
  ⟨⟨"worst_by", sO "worst_by", sO "worst_by", [sO "table", sO "many", sO "found", sO "loss", sO "weight"], [sO "table", sO "many"], (at1 26), f13⟩, (sO "worst_by", none)⟩,
  ⟨⟨"most_gone", sO "most_gone", sO "most_gone", [sO "table", sO "many"], [sO "table", sO "many"], (at1 27), f14⟩, (sO "most_gone", none)⟩,
  ⟨⟨"worst_gone", sO "worst_gone", sO "worst_gone", [sO "table", sO "many"], [sO "table", sO "many"], (at1 28), f15⟩, (sO "worst_gone", none)⟩,
  ⟨⟨"product_of", sO "product_of", sO "product_of", [sO "numbers", sO "found", sO "number"], [sO "numbers"], (at1 32), f16⟩, (sO "product_of", none)⟩,
  ⟨⟨"Sheet.__init__", sO "__init__", sO "Sheet.__init__", [sO "self", sO "moduli", sO "modulus"], [sO "self", sO "moduli"], (in2 33 0), f17⟩, (sO "Sheet", some (sO "__init__"))⟩,
  ⟨⟨"Sheet.__eq__", sO "__eq__", sO "Sheet.__eq__", [sO "self", sO "other"], [sO "self", sO "other"], (in2 33 1), f18⟩, (sO "Sheet", some (sO "__eq__"))⟩,
  ⟨⟨"rests_of", sO "rests_of", sO "rests_of", [sO "sheet", sO "place", sO "found", sO "left", sO "modulus"], [sO "sheet", sO "place"], (at1 34), f19⟩, (sO "rests_of", none)⟩,
  ⟨⟨"place_by", sO "place_by", sO "place_by", [sO "sheet", sO "some", sO "found", sO "modulus", sO "rest"], [sO "sheet", sO "some"], (at1 35), f20⟩, (sO "place_by", none)⟩,
  ⟨⟨"sum_of", sO "sum_of", sO "sum_of", [sO "sheet", sO "one", sO "other", sO "pairs", sO "first", sO "second"], [sO "sheet", sO "one", sO "other"], (at1 36), f21⟩, (sO "sum_of", none)⟩,
  ⟨⟨"shift_of", sO "shift_of", sO "shift_of", [sO "sheet", sO "lot", sO "place", sO "one"], [sO "sheet", sO "lot", sO "place"], (at1 37), f22⟩, (sO "shift_of", none)⟩,
  ⟨⟨"is_kind", sO "is_kind", sO "is_kind", [sO "sheet", sO "thing"], [sO "sheet", sO "thing"], (at1 41), f23⟩, (sO "is_kind", none)⟩,
  ⟨⟨"Layout.__init__", sO "__init__", sO "Layout.__init__", [sO "self", sO "sheet", sO "kinds", sO "number", sO "kind"], [sO "self", sO "sheet", sO "kinds"], (in2 42 0), f24⟩, (sO "Layout", some (sO "__init__"))⟩,
  ⟨⟨"Layout.__eq__", sO "__eq__", sO "Layout.__eq__", [sO "self", sO "other"], [sO "self", sO "other"], (in2 42 1), f25⟩, (sO "Layout", some (sO "__eq__"))⟩,
  ⟨⟨"blocks_of", sO "blocks_of", sO "blocks_of", [sO "sheet", sO "kind", sO "steps", sO "weight", sO "place"], [sO "sheet", sO "kind"], (at1 43), f26⟩, (sO "blocks_of", none)⟩,
  ⟨⟨"table_by", sO "table_by", sO "table_by", [sO "layout", sO "found", sO "kind"], [sO "layout"], (at1 44), f27⟩, (sO "table_by", none)⟩,
  ⟨⟨"table_of", sO "table_of", sO "table_of", [sO "layout"], [sO "layout"], (at1 45), f28⟩, (sO "table_of", none)⟩,
  ⟨⟨"_law_tape", sO "_law_tape", sO "_law_tape", [sO "_law_script"], [sO "_law_script"], (at1 47), f29⟩, (sO "_law_tape", none)⟩,
  ⟨⟨"_law_pick", sO "_law_pick", sO "_law_pick", [sO "_law_tape_here", sO "_law_many", sO "_law_cell", sO "_law_mixed", sO "_law_digit"], [sO "_law_tape_here", sO "_law_many"], (at1 48), f30⟩, (sO "_law_pick", none)⟩,
  ⟨⟨"_law_any", sO "_law_any", sO "_law_any", [sO "_law_tape_here", sO "_law_some"], [sO "_law_tape_here", sO "_law_some"], (at1 49), f31⟩, (sO "_law_any", none)⟩,
  ⟨⟨"_law_same", sO "_law_same", sO "_law_same", [sO "_law_told", sO "_law_due", sO "_law_at", sO "_law_one"], [sO "_law_told", sO "_law_due"], (at1 50), f32⟩, (sO "_law_same", none)⟩,
  ⟨⟨"_law_table", sO "_law_table", sO "_law_table", [sO "_law_tape_here", sO "_law_boxes", sO "_law_blocks", sO "_law_most", sO "_law_got", sO "_law_great", sO "_law_turn", sO "_law_lot", sO "_law_again"], [sO "_law_tape_here", sO "_law_boxes", sO "_law_blocks", sO "_law_most"], (at1 51), f33⟩, (sO "_law_table", none)⟩,
  ⟨⟨"_law_losses", sO "_law_losses", sO "_law_losses", [sO "_law_many", sO "_law_size", sO "_law_got", sO "_law_turn", sO "_law_later", sO "_law_lot", sO "_law_one"], [sO "_law_many", sO "_law_size"], (at1 52), f34⟩, (sO "_law_losses", none)⟩,
  ⟨⟨"_law_worst", sO "_law_worst", sO "_law_worst", [sO "_law_blocks", sO "_law_boxes", sO "_law_many", sO "_law_masks", sO "_law_got", sO "_law_loss", sO "_law_lost", sO "_law_own", sO "_law_lot", sO "_law_weight", sO "_law_box", sO "_law_mask"], [sO "_law_blocks", sO "_law_boxes", sO "_law_many"], (at1 53), f35⟩, (sO "_law_worst", none)⟩,
  ⟨⟨"_law_rows_right", sO "_law_rows_right", sO "_law_rows_right", [sO "_law_tape_here", sO "_law_many", sO "_law_steps", sO "_law_place", sO "_law_shown", sO "_law_table_here", sO "_law_lost", sO "_law_due", sO "_law_step"], [sO "_law_tape_here"], (at1 54), f36⟩, (sO "_law_rows_right", none)⟩,
  ⟨⟨"law", sO "law", sO "law", [sO "_law_script", sO "_law_tape_here", sO "_law_turn", sO "_law_wide", sO "_law_numbers", sO "_law_many", sO "_law_boxes", sO "_law_blocks", sO "_law_table_here", sO "_law_last", sO "_law_due"], [sO "_law_script"], (at1 55), f37⟩, (sO "law", none)⟩]
def Γ : Tab := {
  fns := ["is_integer", "is_within", "is_pair", "is_lot", "check_number", "check_many", "choices_of", "is_block", "left_of", "gone_of", "weight_gone", "worst_by", "most_gone", "worst_gone", "product_of", "rests_of", "place_by", "sum_of", "shift_of", "is_kind", "blocks_of", "table_by", "table_of", "_law_tape", "_law_pick", "_law_any", "_law_same", "_law_table", "_law_losses", "_law_worst", "_law_rows_right", "law"]
  cls := ["Table", "Sheet", "Layout"]
  flds := [("Table", "boxes"), ("Table", "blocks"), ("Sheet", "moduli"), ("Sheet", "places"), ("Layout", "sheet"), ("Layout", "kinds")]
  meths := []
  eqs := ["Table", "Sheet", "Layout"]
  nInts := [("MOST_BLOCKS", 360), ("MOST_BOXES_losses", 14), ("MOST_BOXES_tables", 120), ("MOST_KINDS", 3), ("MOST_MODULI", 3), ("MOST_PLACES", 120), ("MOST_STEPS", 8), ("MOST_WEIGHT", 1000000)]
  nStrs := []
  free := ["all", "bool", "enumerate", "int", "isinstance", "len", "list", "max", "min", "range", "set", "sorted", "str", "sum", "tuple", "zip"]
  kits := [("NoneType", "Layout", false), ("bool", "Layout", false), ("int", "Layout", false), ("str", "Layout", false), ("tuple", "Layout", false), ("list", "Layout", false), ("dict", "Layout", false), ("Table", "Layout", false), ("Sheet", "Layout", false), ("Layout", "Layout", true), ("NoneType", "Sheet", false), ("bool", "Sheet", false), ("int", "Sheet", false), ("str", "Sheet", false), ("tuple", "Sheet", false), ("list", "Sheet", false), ("dict", "Sheet", false), ("Table", "Sheet", false), ("Sheet", "Sheet", true), ("Layout", "Sheet", false), ("NoneType", "Table", false), ("bool", "Table", false), ("int", "Table", false), ("str", "Table", false), ("tuple", "Table", false), ("list", "Table", false), ("dict", "Table", false), ("Table", "Table", true), ("Sheet", "Table", false), ("Layout", "Table", false), ("NoneType", "bool", false), ("bool", "bool", true), ("int", "bool", false), ("str", "bool", false), ("tuple", "bool", false), ("list", "bool", false), ("dict", "bool", false), ("Table", "bool", false), ("Sheet", "bool", false), ("Layout", "bool", false), ("NoneType", "int", false), ("bool", "int", true), ("int", "int", true), ("str", "int", false), ("tuple", "int", false), ("list", "int", false), ("dict", "int", false), ("Table", "int", false), ("Sheet", "int", false), ("Layout", "int", false), ("NoneType", "list", false), ("bool", "list", false), ("int", "list", false), ("str", "list", false), ("tuple", "list", false), ("list", "list", true), ("dict", "list", false), ("Table", "list", false), ("Sheet", "list", false), ("Layout", "list", false), ("NoneType", "str", false), ("bool", "str", false), ("int", "str", false), ("str", "str", true), ("tuple", "str", false), ("list", "str", false), ("dict", "str", false), ("Table", "str", false), ("Sheet", "str", false), ("Layout", "str", false), ("NoneType", "tuple", false), ("bool", "tuple", false), ("int", "tuple", false), ("str", "tuple", false), ("tuple", "tuple", true), ("list", "tuple", false), ("dict", "tuple", false), ("Table", "tuple", false), ("Sheet", "tuple", false), ("Layout", "tuple", false)] }
theorem binds_ok : ∀ r ∈ rows.map RowP.toRow, RowBinds r := by
  intro r hr
  simp only [rows, List.map_cons, List.map_nil, List.mem_cons, List.not_mem_nil, or_false] at hr
  rcases hr with rfl | rfl | rfl | rfl | rfl | rfl | rfl | rfl | rfl | rfl | rfl | rfl | rfl | rfl | rfl | rfl | rfl | rfl | rfl | rfl | rfl | rfl | rfl | rfl | rfl | rfl | rfl | rfl | rfl | rfl | rfl | rfl | rfl | rfl | rfl | rfl | rfl | rfl
  · exact fun _ _ _ _ _ _ us hl => match us, hl with | [_], _ => rfl
  · exact fun _ _ _ _ _ _ us hl => match us, hl with | [_, _, _], _ => rfl
  · exact fun _ _ _ _ _ _ us hl => match us, hl with | [_], _ => rfl
  · exact fun _ _ _ _ _ _ us hl => match us, hl with | [_, _], _ => rfl
  · exact fun _ _ _ _ _ _ us hl => match us, hl with | [_, _, _], _ => rfl
  · exact fun _ _ _ _ _ _ us hl => match us, hl with | [_, _], _ => rfl
  · exact fun _ _ _ _ _ _ us hl => match us, hl with | [_, _], _ => rfl
  · exact fun _ _ _ _ _ _ us hl => match us, hl with | [_, _], _ => rfl
  · exact fun _ _ _ _ _ _ us hl => match us, hl with | [_, _, _], _ => rfl
  · exact fun _ _ _ _ _ _ us hl => match us, hl with | [_, _], _ => rfl
  · exact fun _ _ _ _ _ _ us hl => match us, hl with | [_, _], _ => rfl
  · exact fun _ _ _ _ _ _ us hl => match us, hl with | [_, _], _ => rfl
  · exact fun _ _ _ _ _ _ us hl => match us, hl with | [_, _], _ => rfl
  · exact fun _ _ _ _ _ _ us hl => match us, hl with | [_, _], _ => rfl
  · exact fun _ _ _ _ _ _ us hl => match us, hl with | [_, _], _ => rfl
  · exact fun _ _ _ _ _ _ us hl => match us, hl with | [_, _], _ => rfl
  · exact fun _ _ _ _ _ _ us hl => match us, hl with | [_], _ => rfl
  · exact fun _ _ _ _ _ _ us hl => match us, hl with | [_, _], _ => rfl
  · exact fun _ _ _ _ _ _ us hl => match us, hl with | [_, _], _ => rfl
  · exact fun _ _ _ _ _ _ us hl => match us, hl with | [_, _], _ => rfl
  · exact fun _ _ _ _ _ _ us hl => match us, hl with | [_, _], _ => rfl
  · exact fun _ _ _ _ _ _ us hl => match us, hl with | [_, _, _], _ => rfl
  · exact fun _ _ _ _ _ _ us hl => match us, hl with | [_, _, _], _ => rfl
  · exact fun _ _ _ _ _ _ us hl => match us, hl with | [_, _], _ => rfl
  · exact fun _ _ _ _ _ _ us hl => match us, hl with | [_, _, _], _ => rfl
  · exact fun _ _ _ _ _ _ us hl => match us, hl with | [_, _], _ => rfl
  · exact fun _ _ _ _ _ _ us hl => match us, hl with | [_, _], _ => rfl
  · exact fun _ _ _ _ _ _ us hl => match us, hl with | [_], _ => rfl
  · exact fun _ _ _ _ _ _ us hl => match us, hl with | [_], _ => rfl
  · exact fun _ _ _ _ _ _ us hl => match us, hl with | [_], _ => rfl
  · exact fun _ _ _ _ _ _ us hl => match us, hl with | [_, _], _ => rfl
  · exact fun _ _ _ _ _ _ us hl => match us, hl with | [_, _], _ => rfl
  · exact fun _ _ _ _ _ _ us hl => match us, hl with | [_, _], _ => rfl
  · exact fun _ _ _ _ _ _ us hl => match us, hl with | [_, _, _, _], _ => rfl
  · exact fun _ _ _ _ _ _ us hl => match us, hl with | [_, _], _ => rfl
  · exact fun _ _ _ _ _ _ us hl => match us, hl with | [_, _, _], _ => rfl
  · exact fun _ _ _ _ _ _ us hl => match us, hl with | [_], _ => rfl
  · exact fun _ _ _ _ _ _ us hl => match us, hl with | [_], _ => rfl

theorem rows_ok : rows.all (fun r => rowB Γ r.toRow) = true := by kernel_rfl
theorem tab_ok : tabB Γ rows = true := by kernel_rfl
theorem nd_ok : ((rows.map RowP.toRow).map (·.name)).Nodup := by decide +kernel
end Ly


set_option Elab.async false
set_option linter.all false
set_option maxRecDepth 100000
/-! G0: what a text does, told from its end: weakest preconditions of the small language, exceptions too. -/
namespace Py
open PySem (Str PyData)
abbrev XP := String → List (String × D) → Hd → Prop
/-- no exception -/
def XF : XP := fun _ _ _ => False
def WX {α : Type} (m : Res α) (Q : α → Hd → Prop) (E : XP := XF) : Prop := match m with
  | some (.ok a h) => Q a h
  | some (.ex c fs h) => E c fs h
  | none => False
def WS (m : ResS) (N : Env → Hd → Prop) (T : D → Hd → Prop) (E : String → List (String × D) → Env → Hd → Prop := fun _ _ _ _ => False) : Prop := match m with
  | some (.nx ρ h) => N ρ h
  | some (.rt d h) => T d h
  | some (.ex c fs ρ h) => E c fs ρ h
  | none => False
theorem WX_ok {α : Type} {a : α} {h : Hd} {Q : α → Hd → Prop} {E : XP} : WX (some (.ok a h)) Q E = Q a h := rfl
theorem WX_ex {α : Type} {c : String} {fs : List (String × D)} {h : Hd} {Q : α → Hd → Prop} {E : XP} : WX (some (.ex c fs h)) Q E = E c fs h := rfl
theorem WX_bnd {α β : Type} {m : Res α} {f : α → Hd → Res β} {Q : β → Hd → Prop} {E : XP} : WX (bnd m f) Q E = WX m (fun a h => WX (f a h) Q E) E := by
  cases m with
  | none => rfl
  | some r => cases r <;> rfl
theorem WX_bnn {α β : Type} {m : Res α} {f : α → Hd → Res β} {Q : β → Hd → Prop} {E : XP} : WX (bnn m f) Q E = WX m (fun a h => WX (f a h) Q E) := by
  cases m with
  | none => rfl
  | some r => cases r <;> rfl
theorem WX_lift {α : Type} {o : Option α} {h : Hd} {Q : α → Hd → Prop} {E : XP} : WX (lift o h) Q E = ∃ a, o = some a ∧ Q a h := by
  cases o with
  | none => simp [lift, WX]
  | some a => simp [lift, WX]
abbrev XS := String → List (String × D) → Env → Hd → Prop
theorem WS_nx {ρ : Env} {h : Hd} {N : Env → Hd → Prop} {T : D → Hd → Prop} {E : XS} : WS (some (.nx ρ h)) N T E = N ρ h := rfl
theorem WS_rt {d : D} {h : Hd} {N : Env → Hd → Prop} {T : D → Hd → Prop} {E : XS} : WS (some (.rt d h)) N T E = T d h := rfl
theorem WS_ex {c : String} {fs : List (String × D)} {ρ : Env} {h : Hd} {N : Env → Hd → Prop} {T : D → Hd → Prop} {E : XS} : WS (some (.ex c fs ρ h)) N T E = E c fs ρ h := rfl
theorem WS_bndS {α : Type} {ρ : Env} {m : Res α} {f : α → Hd → ResS} {N : Env → Hd → Prop} {T : D → Hd → Prop} {E : XS} : WS (bndS ρ m f) N T E = WX m (fun a h => WS (f a h) N T E) fun c fs h => E c fs ρ h := by
  cases m with
  | none => rfl
  | some r => cases r <;> rfl
theorem WS_bnnS {α : Type} {m : Res α} {f : α → Hd → ResS} {N : Env → Hd → Prop} {T : D → Hd → Prop} {E : XS} : WS (bnnS m f) N T E = WX m fun a h => WS (f a h) N T E := by
  cases m with
  | none => rfl
  | some r => cases r <;> rfl
theorem WS_thenS {m : ResS} {f : Env → Hd → ResS} {N : Env → Hd → Prop} {T : D → Hd → Prop} {E : XS} : WS (thenS m f) N T E = WS m (fun ρ h => WS (f ρ h) N T E) T E := by
  cases m with
  | none => rfl
  | some r => cases r <;> rfl
theorem WX.mono {α : Type} {m : Res α} {Q Q' : α → Hd → Prop} {E : XP} (w : WX m Q) (h : ∀ a h, Q a h → Q' a h) : WX m Q' E := by
  cases m with
  | none => exact w
  | some r =>
    cases r with
    | ok a h' => exact h _ _ w
    | ex _ _ _ => exact w.elim
theorem WX.monoE {α : Type} {m : Res α} {Q Q' : α → Hd → Prop} {E E' : XP} (w : WX m Q E) (h : ∀ a h, Q a h → Q' a h) (k : ∀ c fs h, E c fs h → E' c fs h) : WX m Q' E' := by
  cases m with
  | none => exact w
  | some r =>
    cases r with
    | ok a h' => exact h _ _ w
    | ex _ _ _ => exact k _ _ _ w
theorem WS.mono {m : ResS} {N N' : Env → Hd → Prop} {T T' : D → Hd → Prop} {E : XS} (w : WS m N T E) (h : ∀ ρ h, N ρ h → N' ρ h) (k : ∀ d h, T d h → T' d h) : WS m N' T' E := by
  cases m with
  | none => exact w
  | some r =>
    cases r with
    | nx _ _ => exact h _ _ w
    | rt _ _ => exact k _ _ w
    | ex _ _ _ _ => exact w
theorem WS.mono0 {m : ResS} {N N' : Env → Hd → Prop} {T T' : D → Hd → Prop} {E : XS} (w : WS m N T) (h : ∀ ρ h, N ρ h → N' ρ h) (k : ∀ d h, T d h → T' d h) : WS m N' T' E := by
  cases m with
  | none => exact w
  | some r =>
    cases r with
    | nx _ _ => exact h _ _ w
    | rt _ _ => exact k _ _ w
    | ex _ _ _ _ => exact w.elim
theorem WX.get {α : Type} {m : Res α} {Q : α → Hd → Prop} (w : WX m Q) : ∃ a h, m = some (.ok a h) ∧ Q a h := by
  cases m with
  | none => exact w.elim
  | some r =>
    cases r with
    | ok a h => exact ⟨a, h, rfl, w⟩
    | ex _ _ _ => exact w.elim
/-- a call -/
theorem WX_call {P : Prog} {n : Nat} {f : String} {fn : Fn} {ds : List D} {h : Hd} {Q : D → Hd → Prop} {E : XP} (hl : P.lookup f = some fn) (hd : ds.length = fn.np) (w : WS (evSs (callF P n) fn.body (ds.map some ++ List.replicate (fn.nv - fn.np) none) h) (fun _ h => Q .non h) Q fun c fs _ h => E c fs h) : WX (callF P (n + 1) f ds h) Q E := by
  rw [callF]
  simp only [hl, hd, if_true]
  cases q : evSs (callF P n) fn.body (ds.map some ++ List.replicate (fn.nv - fn.np) none) h with
  | none => rw [q] at w; exact w.elim
  | some r =>
    rw [q] at w
    cases r with
    | nx _ _ => exact w
    | rt _ _ => exact w
    | ex _ _ _ _ => exact w
/-- one turn of a for; left as it stands until its turn -/
noncomputable def forB (Φ : Calls) (tg : Tg) (b : Ss) (d : D) (ρ : Env) (h : Hd) : ResS := bnnS (bindT Φ tg d ρ h) fun ρ1 h2 => evSs Φ b ρ1 h2
theorem evS_for {Φ : Calls} {tg : Tg} {it : It} {b : Ss} {ρ : Env} {h : Hd} : evS Φ (.forr tg it b) ρ h = bndS ρ (evI Φ it ρ h) fun w h1 => forL w.g (forB Φ tg b) w.items ρ h1 := by
  rw [evS]
  rfl
/-- one turn of a comprehension -/
noncomputable def lcB (Φ : Calls) (tg : Tg) (own : List Nat) (ifs : Es) (el : E) (ρ : Env) (d : D) (h : Hd) : Res (Option D) := bnn (bindT Φ tg d (wipe ρ own) h) fun ρ1 h1 => bnn (evIfs Φ ifs ρ1 h1) fun k h2 =>
      (match k with
      | true => bnn (evX Φ el ρ1 h2) fun x h3 => some (.ok (some (pro x h3).1) (pro x h3).2)
      | false => some (.ok none h2))
theorem evX_lc {Φ : Calls} {tg : Tg} {own : List Nat} {it : It} {ifs : Es} {el : E} {ρ : Env} {h : Hd} : evX Φ (.lc tg own it ifs el) ρ h = bnd (evI Φ it ρ h) fun w h1 => bnn (compL w.g (lcB Φ tg own ifs el ρ) w.items h1) fun xs h2 => some (.ok (.l xs) h2) := by
  rw [evX]
  rfl
/-- one turn of the comprehension behind a zip kept in a name -/
theorem evS_zret {Φ : Calls} {i : Nat} {a b : E} {f : String} {j : Nat} {tg : Tg} {own : List Nat} {el : E} {ρ : Env} {h : Hd} : evS Φ (.zret i a b f j tg own el) ρ h = bndS ρ (evX Φ a ρ h) fun x h1 => bndS ρ (evX Φ b ρ h1) fun y h2 => (match x, y, (ρ.set i none)[j]? with
    | .v (.tup xs), .v (.tup ys), some (some o) => if xs.length ≤ LINE then bnnS (compL [] (lcB Φ tg own .nil el (ρ.set i none)) (zipL xs ys) h2) fun zs h3 => bndS (ρ.set i none) (Φ f [o, .obj h3.sz] (h3.new (.lst zs))) fun d h4 => some (.rt d h4) else none
    | _, _, _ => none) := by
  rw [evS]
  rfl
/-- a for: what holds at each turn -/
theorem ws_for {g : Gd} {st : D → Env → Hd → ResS} {T : D → Hd → Prop} {N : Env → Hd → Prop} {E : XS} {xs : List D} {ρ : Env} {h : Hd} (I : Nat → Env → Hd → Prop) (h0 : I 0 ρ h) (hg : ∀ i ρ h, i ≤ xs.length → I i ρ h → g.ok h)
    (hs : ∀ i (hi : i < xs.length) ρ h, I i ρ h → WS (st xs[i] ρ h) (I (i + 1)) T E) (hd : ∀ ρ h, I xs.length ρ h → N ρ h) : WS (forL g st xs ρ h) N T E := by
  have key : ∀ (k i : Nat) (ρ : Env) (h : Hd), i + k = xs.length → I i ρ h → WS (forL g st (xs.drop i) ρ h) N T E := by
    intro k
    induction k with
    | zero =>
      intro i ρ h e hi
      have ei : i = xs.length := by omega
      subst ei
      rw [List.drop_length]
      unfold forL
      rw [if_pos (hg _ _ _ (Nat.le_refl _) hi)]
      exact hd _ _ hi
    | succ k ih =>
      intro i ρ h e hi
      have hlt : i < xs.length := by omega
      rw [List.drop_eq_getElem_cons hlt]
      unfold forL
      rw [if_pos (hg _ _ _ (Nat.le_of_lt hlt) hi), WS_thenS]
      exact (hs i hlt ρ h hi).mono (fun ρ' h' q => ih (i + 1) ρ' h' (by omega) q) fun _ _ q => q
  have := key xs.length 0 ρ h (by omega) h0
  simpa using this
/-- a comprehension: what is gathered at each turn -/
theorem wx_comp {α : Type} {g : Gd} {el : D → Hd → Res (Option α)} {xs : List D} {h : Hd} {Q : List α → Hd → Prop} {E : XP} (I : Nat → List α → Hd → Prop) (h0 : I 0 [] h) (hg : ∀ i acc h, i ≤ xs.length → I i acc h → g.ok h)
    (hs : ∀ i (hi : i < xs.length) acc h, I i acc h → WX (el xs[i] h) fun o h' => I (i + 1) (acc ++ o.toList) h') (hd : ∀ acc h, I xs.length acc h → Q acc h) : WX (compL g el xs h) Q E := by
  have key : ∀ (k i : Nat) (acc : List α) (h : Hd) (Q : List α → Hd → Prop), i + k = xs.length → I i acc h → (∀ r h, I xs.length (acc ++ r) h → Q r h) → WX (compL g el (xs.drop i) h) Q := by
    intro k
    induction k with
    | zero =>
      intro i acc h Q e hi hq
      have ei : i = xs.length := by omega
      subst ei
      rw [List.drop_length]
      unfold compL
      rw [if_pos (hg _ _ _ (Nat.le_refl _) hi)]
      exact hq [] h (by simpa using hi)
    | succ k ih =>
      intro i acc h Q e hi hq
      have hlt : i < xs.length := by omega
      rw [List.drop_eq_getElem_cons hlt]
      unfold compL
      rw [if_pos (hg _ _ _ (Nat.le_of_lt hlt) hi), WX_bnn]
      refine (hs i hlt acc h hi).mono fun o h' q => ?_
      rw [WX_bnn]
      exact ih (i + 1) (acc ++ o.toList) h' _ (by omega) q fun r h'' z => hq _ _ (by rw [← List.append_assoc]; exact z)
  exact (key xs.length 0 [] h Q (by omega) h0 fun r h z => hd r h (by simpa using z)).mono fun _ _ z => z
/-! ### heaps -/
@[simp] theorem new_at_old {h : Hd} {o : O} {n : Nat} (hn : n < h.sz) : (h.new o).at_ n = h.at_ n := by
  unfold Hd.new
  simp [Nat.ne_of_lt hn]
@[simp] theorem new_at_new {h : Hd} {o : O} : (h.new o).at_ h.sz = some o := by simp [Hd.new]
@[simp] theorem new_sz {h : Hd} {o : O} : (h.new o).sz = h.sz + 1 := rfl
@[simp] theorem put_at_same {h : Hd} {o : O} {n : Nat} : (h.put n o).at_ n = some o := by simp [Hd.put]
@[simp] theorem put_at_ne {h : Hd} {o : O} {n m : Nat} (e : m ≠ n) : (h.put n o).at_ m = h.at_ m := by simp [Hd.put, e]
@[simp] theorem put_sz {h : Hd} {o : O} {n : Nat} : (h.put n o).sz = h.sz := rfl
/-- all that stood stays, but n -/
structure Kp (S : List Nat) (h h' : Hd) : Prop where
  sz : h.sz ≤ h'.sz
  at_ : ∀ m, m < h.sz → m ∉ S → h'.at_ m = h.at_ m
theorem Kp.refl {S : List Nat} {h : Hd} : Kp S h h := ⟨Nat.le_refl _, fun _ _ _ => rfl⟩
theorem Kp.trans {S : List Nat} {h h1 h2 : Hd} (a : Kp S h h1) (b : Kp S h1 h2) : Kp S h h2 := ⟨Nat.le_trans a.sz b.sz, fun m hm hs => (b.at_ m (Nat.lt_of_lt_of_le hm a.sz) hs).trans (a.at_ m hm hs)⟩
theorem Kp.mono {S S' : List Nat} {h h' : Hd} (a : Kp S h h') (hs : ∀ x ∈ S, x ∈ S') : Kp S' h h' := ⟨a.sz, fun m hm hn => a.at_ m hm fun z => hn (hs m z)⟩
theorem Kp.new {S : List Nat} {h : Hd} {o : O} : Kp S h (h.new o) := ⟨Nat.le_succ _, fun m hm _ => new_at_old hm⟩
theorem Kp.putn {S : List Nat} {h h2 : Hd} {n : Nat} {o : O} (a : Kp S h h2) (hn : h.sz ≤ n) : Kp S h (h2.put n o) := ⟨a.sz, fun m hm hs => by rw [← a.at_ m hm hs]; exact if_neg (by omega)⟩
theorem Kp.put {S : List Nat} {h : Hd} {n : Nat} {o : O} (hn : n ∈ S) : Kp S h (h.put n o) := ⟨Nat.le_refl _, fun m _ hs => put_at_ne fun e => hs (e ▸ hn)⟩
/-! ### operations, by what is known -/
theorem bop_add {i j : Int} {h : Hd} : binop .add (.v (.int i)) (.v (.int j)) h = some (.v (.int (i + j))) := rfl
theorem bop_sub {i j : Int} {h : Hd} : binop .sub (.v (.int i)) (.v (.int j)) h = some (.v (.int (i - j))) := rfl
theorem bop_mulr {i j : Int} {h : Hd} (hj : j.natAbs < 2 ^ 64) : binop .mul (.v (.int i)) (.v (.int j)) h = some (.v (.int (i * j))) := by
  unfold binop
  exact if_pos (.inl (.inr hj))
theorem bop_mull {i j : Int} {h : Hd} (hi : i.natAbs < 2 ^ 64) : binop .mul (.v (.int i)) (.v (.int j)) h = some (.v (.int (i * j))) := by
  unfold binop
  exact if_pos (.inl (.inl hi))
theorem bop_mod {i j : Int} {h : Hd} (hj : 0 < j) : binop .mod (.v (.int i)) (.v (.int j)) h = some (.v (.int (i % j))) := by
  unfold binop
  exact if_pos hj
theorem bop_fdiv {i j : Int} {h : Hd} (hj : 0 < j) (h2 : j < 2 ^ 200) : binop .fdiv (.v (.int i)) (.v (.int j)) h = some (.v (.int (i / j))) := by
  unfold binop
  exact if_pos ⟨hj, h2⟩
theorem bop_pow {i j : Int} {h : Hd} (h1 : 0 ≤ j) (h2 : j ≤ 1000000) (h3 : i.natAbs < 2 ^ 64) : binop .pow (.v (.int i)) (.v (.int j)) h = some (.v (.int (i ^ j.toNat))) := by
  unfold binop
  exact if_pos ⟨h1, h2, h3⟩
theorem bop_mulR {i j : Int} {h : Hd} (h1 : -9223372036854775808 < j) (h2 : j < 9223372036854775808) : binop .mul (.v (.int i)) (.v (.int j)) h = some (.v (.int (i * j))) := bop_mulr (by omega)
theorem bop_mulL {i j : Int} {h : Hd} (h1 : -9223372036854775808 < i) (h2 : i < 9223372036854775808) : binop .mul (.v (.int i)) (.v (.int j)) h = some (.v (.int (i * j))) := bop_mull (by omega)
theorem bop_powS {i j : Int} {h : Hd} (h1 : 0 ≤ j) (h2 : j ≤ 1000000) (h3 : -9223372036854775808 < i) (h4 : i < 9223372036854775808) : binop .pow (.v (.int i)) (.v (.int j)) h = some (.v (.int (i ^ j.toNat))) := bop_pow h1 h2 (by omega)
theorem pro_v {d : D} {h : Hd} : pro (.v d) h = (d, h) := rfl
theorem pro_l {xs : List D} {h : Hd} : pro (.l xs) h = (.obj h.sz, h.new (.lst xs)) := rfl
theorem bop_mulm {x i j : Int} {h : Hd} (hi : 0 < j) (h2 : j ≤ 9223372036854775808) : binop .mul (.v (.int (x % j))) (.v (.int i)) h = some (.v (.int (x % j * i))) := by
  apply bop_mull
  have h1 := Int.emod_nonneg x (Int.ne_of_gt hi)
  have h3 := Int.emod_lt_of_pos x hi
  omega
theorem blt_int {i : Int} {h : Hd} : bltF "int" [.v (.int i)] h = some (.v (.int i)) := by
  unfold bltF
  rfl
theorem idx_lst {n : Nat} {xs : List D} {i : Int} {h : Hd} (e : h.at_ n = some (.lst xs)) : idxF (.v (.obj n)) (.v (.int i)) h = atI xs i := by
  unfold idxF
  simp only [seqOf, lstOf, e]
theorem idx_tup {xs : List D} {i : Int} {h : Hd} : idxF (.v (.tup xs)) (.v (.int i)) h = atI xs i := by
  unfold idxF
  simp only [seqOf]
theorem idx_tmp {xs : List D} {i : Int} {h : Hd} : idxF (.l xs) (.v (.int i)) h = atI xs i := by
  unfold idxF
  simp only [seqOf, lstOf]
theorem at_nat {α : Type} {xs : List α} {i : Nat} {x : α} (h : xs[i]? = some x) : Py.atI xs (i : Int) = some x := by
  have hi := (List.getElem?_eq_some_iff.mp h).1
  unfold Py.atI Py.ixN
  rw [if_pos (by omega), if_pos (by omega)]
  simpa using h
theorem set_lst {n : Nat} {xs : List D} {i : Nat} {d : D} {h : Hd} (e : h.at_ n = some (.lst xs)) (hi : i < xs.length) : setX (.v (.obj n)) (.v (.int (i : Int))) d h = some (.ok () (h.put n (.lst (xs.set i d)))) := by
  unfold setX
  simp only [e]
  have : Py.ixN xs.length (i : Int) = some i := by
    unfold Py.ixN
    rw [if_pos (by omega), if_pos (by omega)]
    simp
  rw [this]
theorem shaped_int (i : Int) : PySem.SeqAt.shaped (.int i) = true := rfl
theorem eqv_int (i j : Int) : PyData.eqv (.int i) (.int j) = decide (i = j) := by
  show (i == j) = decide (i = j)
  rw [Bool.eq_iff_iff]
  simp
theorem eq_int {i j : Int} {h : Hd} : cmpop .eq (.v (.int i)) (.v (.int j)) h = some (decide (i = j)) := by
  unfold cmpop
  simp only [dat, toP]
  rw [if_pos ⟨shaped_int i, shaped_int j⟩, eqv_int]
theorem ne_int {i j : Int} {h : Hd} : cmpop .ne (.v (.int i)) (.v (.int j)) h = some (!decide (i = j)) := by
  unfold cmpop
  simp only [dat, toP]
  rw [if_pos ⟨shaped_int i, shaped_int j⟩, eqv_int]
theorem lt_int {i j : Int} {h : Hd} : cmpop .lt (.v (.int i)) (.v (.int j)) h = some (decide (i < j)) := rfl
theorem le_int {i j : Int} {h : Hd} : cmpop .le (.v (.int i)) (.v (.int j)) h = some (decide (i ≤ j)) := rfl
theorem gt_int {i j : Int} {h : Hd} : cmpop .gt (.v (.int i)) (.v (.int j)) h = some (decide (j < i)) := rfl
theorem ge_int {i j : Int} {h : Hd} : cmpop .ge (.v (.int i)) (.v (.int j)) h = some (decide (j ≤ i)) := rfl
theorem cmpE_of {Φ : Calls} {o : COp} {cs : List String} {x y : TV} {h : Hd} (e : eqName o x h = none) : cmpE Φ o cs x y h = lift (cmpop o x y h) h := by
  unfold cmpE
  rw [e]
theorem eqName_int {o : COp} {i : Int} {h : Hd} : eqName o (.v (.int i)) h = none := by cases o <;> rfl
theorem cmp_int {Φ : Calls} {o : COp} {cs : List String} {i j : Int} {h : Hd} {b : Bool} (e : cmpop o (.v (.int i)) (.v (.int j)) h = some b) : cmpE Φ o cs (.v (.int i)) (.v (.int j)) h = some (.ok b h) := by
  rw [cmpE_of eqName_int, e]
  rfl
theorem cE_eq {Φ : Calls} {cs : List String} {i j : Int} {h : Hd} : cmpE Φ .eq cs (.v (.int i)) (.v (.int j)) h = some (.ok (decide (i = j)) h) := cmp_int eq_int
theorem cE_ne {Φ : Calls} {cs : List String} {i j : Int} {h : Hd} : cmpE Φ .ne cs (.v (.int i)) (.v (.int j)) h = some (.ok (!decide (i = j)) h) := cmp_int ne_int
theorem cE_lt {Φ : Calls} {cs : List String} {i j : Int} {h : Hd} : cmpE Φ .lt cs (.v (.int i)) (.v (.int j)) h = some (.ok (decide (i < j)) h) := cmp_int lt_int
theorem cE_le {Φ : Calls} {cs : List String} {i j : Int} {h : Hd} : cmpE Φ .le cs (.v (.int i)) (.v (.int j)) h = some (.ok (decide (i ≤ j)) h) := cmp_int le_int
theorem cE_gt {Φ : Calls} {cs : List String} {i j : Int} {h : Hd} : cmpE Φ .gt cs (.v (.int i)) (.v (.int j)) h = some (.ok (decide (j < i)) h) := cmp_int gt_int
theorem cE_ge {Φ : Calls} {cs : List String} {i j : Int} {h : Hd} : cmpE Φ .ge cs (.v (.int i)) (.v (.int j)) h = some (.ok (decide (j ≤ i)) h) := cmp_int ge_int
theorem len_lst {n : Nat} {xs : List D} {h : Hd} (e : h.at_ n = some (.lst xs)) : bltF "len" [.v (.obj n)] h = some (.v (.int xs.length)) := by
  unfold bltF
  simp only [seqOf, lstOf, e]
theorem len_tup {xs : List D} {h : Hd} : bltF "len" [.v (.tup xs)] h = some (.v (.int xs.length)) := by
  unfold bltF
  simp only [seqOf]
/-- a test of a truth value -/
theorem WX_bl {α : Type} {b : Bool} {f g : Res α} {Q : α → Hd → Prop} {E : XP} (h : if b = true then WX f Q E else WX g Q E) : WX (match b with
    | true => f
    | false => g) Q E := by
  cases b
  · simpa using h
  · simpa using h
theorem toPs_ints : ∀ fs : List Int, toPs (fs.map .int) = some (fs.map .int)
  | [] => rfl
  | x :: r => by
    rw [List.map_cons, List.map_cons]
    simp only [toPs, toP, toPs_ints r]
theorem lay_ints : ∀ fs : List Int, PyData.canLayAll0 (fs.map .int) = true
  | [] => rfl
  | x :: r => by
    rw [List.map_cons]
    unfold PyData.canLayAll0
    rw [lay_ints r]
    rfl
theorem depth_ints : ∀ fs : List Int, PyData.depthAll (fs.map .int) = 0
  | [] => rfl
  | x :: r => by
    rw [List.map_cons]
    unfold PyData.depthAll
    rw [depth_ints r]
    rfl
theorem shaped_ints (fs : List Int) : PySem.SeqAt.shaped (.list (fs.map .int)) = true := by
  unfold PySem.SeqAt.shaped
  have h1 : PyData.canLay0 (.list (fs.map .int)) = true := by
    unfold PyData.canLay0
    exact lay_ints fs
  have h2 : PyData.depth (.list (fs.map .int)) ≤ 64 := by
    unfold PyData.depth
    rw [depth_ints fs]
    decide
  simp [h1, h2]
theorem any_eqv (v : Int) : ∀ fs : List Int, ((fs.map PyData.int).any fun b => PyData.eqv b (.int v)) = decide (v ∈ fs)
  | [] => by simp
  | x :: r => by
    rw [List.map_cons, List.any_cons, any_eqv v r, eqv_int]
    by_cases e : x = v
    · subst e; simp
    · simp [e, Ne.symm e]
theorem nin_ints {Φ : Calls} {n : Nat} {fs : List Int} {v : Int} {h : Hd} (e : h.at_ n = some (.lst (fs.map .int))) : cmpE Φ .nin [] (.v (.int v)) (.v (.obj n)) h = some (.ok (!decide (v ∈ fs)) h) := by
  rw [cmpE_of rfl]
  unfold cmpop cmpop.inOp
  simp only [dctOf, seqOf, lstOf, e, toP, toPs_ints]
  rw [if_pos ⟨shaped_int v, shaped_ints fs⟩, any_eqv]
  rfl
theorem intsD_map : ∀ fs : List Int, intsD (fs.map .int) = some fs
  | [] => rfl
  | x :: r => by
    rw [List.map_cons]
    simp only [intsD, intsD_map r]
    rfl
theorem srt_lst {n : Nat} {fs : List Int} {h : Hd} (e : h.at_ n = some (.lst (fs.map .int))) : bltF "sorted" [.v (.obj n)] h = some (.l ((fs.mergeSort fun a b => decide (a ≤ b)).map .int)) := by
  unfold bltF
  simp only [lstOf, e, sortD, intsD_map]
  rfl
theorem tup_tmp {xs : List D} {h : Hd} : bltF "tuple" [.l xs] h = some (.v (.tup xs)) := by
  unfold bltF
  simp only [lstOf]
  rfl
theorem tup_lst {n : Nat} {xs : List D} {h : Hd} (e : h.at_ n = some (.lst xs)) : bltF "tuple" [.v (.obj n)] h = some (.v (.tup xs)) := by
  unfold bltF
  simp only [lstOf, e]
  rfl
theorem app_lst {n : Nat} {xs : List D} {d : D} {h : Hd} (e : h.at_ n = some (.lst xs)) (hl : xs.length < LINE) : methF "append" (.v (.obj n)) [.v d] h = some (.v .non, h.put n (.lst (xs ++ [d]))) := by
  unfold methF
  simp only [e, pro]
  rw [if_pos hl]
theorem ty_lst {n : Nat} {xs : List D} {h : Hd} (e : h.at_ n = some (.lst xs)) : isTy (.v (.obj n)) h "list" = true ∧ lkd (.v (.obj n)) h = false := by
  simp [isTy, lkd, e]
theorem sorted_lt {fs : List Int} (hn : fs.Nodup) : (fs.mergeSort fun a b => decide (a ≤ b)).Pairwise (· < ·) := by
  have h2 : (fs.mergeSort (fun a b => decide (a ≤ b))).Pairwise (fun a b => decide (a ≤ b) = true) := List.pairwise_mergeSort (fun a b c h1 h2 => by simp at h1 h2 ⊢; omega) (fun a b => by simp; omega) fs
  have h3 : (fs.mergeSort fun a b => decide (a ≤ b)).Nodup := (List.mergeSort_perm fs _).nodup_iff.mpr hn
  have h4 := h2.and h3
  exact h4.imp fun {a b} q => by
    have := of_decide_eq_true q.1
    have := q.2
    omega
theorem rngL_len {lo : Int} {n : Nat} : (rngL lo n).length = n := by simp [rngL]
theorem rngL_get {lo : Int} {n i : Nat} (hi : i < (rngL lo n).length) : (rngL lo n)[i] = .int (lo + (i : Int)) := by simp [rngL]
theorem walk1 {j : Int} (h1 : 0 ≤ j) (h2 : j ≤ 16777216) : walkRng [.v (.int j)] = some (rngL 0 j.toNat) := by
  unfold walkRng
  exact if_pos ⟨by show -(16777216 : Int) ≤ j; omega, h2⟩
theorem WX_if {α : Type} {p : Prop} [Decidable p] {f g : Res α} {Q : α → Hd → Prop} {E : XP} (hp : p) : WX (if p then f else g) Q E = WX f Q E := by rw [if_pos hp]
theorem bop_addl {xs ys : List D} {h : Hd} (hl : xs.length + ys.length ≤ LINE) : binop .add (.l xs) (.l ys) h = some (.l (xs ++ ys)) := by
  unfold binop
  simp only [mlst]
  rw [if_pos hl]
theorem bop_addt {xs ys : List D} {h : Hd} (hl : xs.length + ys.length ≤ LINE) : binop .add (.v (.tup xs)) (.v (.tup ys)) h = some (.v (.tup (xs ++ ys))) := by
  unfold binop
  exact if_pos hl
theorem bop_adds {s t : Str} {h : Hd} (hl : s.length + t.length ≤ LINE) : binop .add (.v (.str s)) (.v (.str t)) h = some (.v (.str (s ++ t))) := by
  unfold binop
  exact if_pos hl
theorem strsD_map : ∀ ss : List Str, strsD (ss.map .str) = some ss
  | [] => rfl
  | x :: r => by
    rw [List.map_cons]
    simp only [strsD, strsD_map r]
    rfl
theorem join_tmp {s : Str} {ss : List Str} {h : Hd} (hl : (ss.map (·.length)).sum + ss.length * s.length ≤ LINE) : methF "join" (.v (.str s)) [.l (ss.map .str)] h = some (.v (.str (PySem.Txt.join s ss)), h) := by
  unfold methF
  simp only [lstOf, strsD_map, Option.bind_some]
  rw [if_pos hl]
theorem join_lst {n : Nat} {s : Str} {ss : List Str} {h : Hd} (e : h.at_ n = some (.lst (ss.map .str))) (hl : (ss.map (·.length)).sum + ss.length * s.length ≤ LINE) : methF "join" (.v (.str s)) [.v (.obj n)] h = some (.v (.str (PySem.Txt.join s ss)), h) := by
  unfold methF
  simp only [lstOf, e, strsD_map, Option.bind_some]
  rw [if_pos hl]
theorem ty_str {s : Str} {h : Hd} : isTy (.v (.str s)) h "str" = true ∧ lkd (.v (.str s)) h = false := ⟨rfl, rfl⟩
theorem str_int {i : Int} {h : Hd} (hi : i.natAbs < 2 ^ 1900) : bltF "str" [.v (.int i)] h = some (.v (.str (Str.ofString (toString i)))) := by
  unfold bltF
  exact if_pos hi
end Py


set_option Elab.async false
set_option linter.all false
set_option maxRecDepth 100000
set_option maxHeartbeats 4000000
/-! G1: defs that many laws share: checks, sheets, tables, layouts made rightly. -/
namespace Py
open PySem (Str PyData)
class HF (P : Prog) (f : String) (fn : outParam Fn) : Prop where
  look : P.lookup f = some fn
def F_is_integer (cs : List String) : Fn := ⟨1, 1, (.cons (.ret (.band (.isi (.var 0) ["int"] cs) (.nt (.isi (.var 0) ["bool"] cs)))) .nil)⟩
def F_is_within : Fn := ⟨3, 3, (.cons (.ret (.band (.call "is_integer" (.cons (.var 0) .nil)) (.chn .le .le (.var 1) (.var 0) (.var 2)))) .nil)⟩
def F_is_pair (cs es : List String) : Fn := ⟨1, 1, (.cons (.ret (.band (.isi (.var 0) ["tuple"] cs) (.cmp .eq es (.blt "len" (.cons (.var 0) .nil)) (.cst (.int 2))))) .nil)⟩
def F_is_lot (cs : List String) : Fn := ⟨2, 4, (.cons (.ifs (.nt (.isi (.var 0) ["tuple"] cs)) (.cons (.ret (.cst (.bl false))) .nil) .nil) (.cons (.asg (.nm 2) (.neg (.cst (.int 1)))) (.cons (.forr (.nm 3) (.seq (.var 0)) (.cons (.ifs (.nt (.call "is_within" (.cons (.var 3) (.cons (.bin .add (.var 2) (.cst (.int 1))) (.cons (.bin .sub (.var 1) (.cst (.int 1))) .nil))))) (.cons (.ret (.cst (.bl false))) .nil) .nil) (.cons (.asg (.nm 2) (.var 3)) .nil))) (.cons (.ret (.cst (.bl true))) .nil))))⟩
def F_check_number : Fn := ⟨3, 3, (.cons (.ifs (.nt (.call "is_within" (.cons (.var 0) (.cons (.var 1) (.cons (.var 2) .nil))))) (.cons (.rse "NoNumber" none .nil) .nil) .nil) .nil)⟩
def F_check_many : Fn := ⟨2, 2, (.cons (.ifs (.cmp .gt [] (.var 0) (.var 1)) (.cons (.rse "TooMany" (some "most") (.cons (.var 1) .nil)) .nil) .nil) .nil)⟩
def F_check_fraction (g0 : String) : Fn := ⟨2, 2, (.cons (.ifs (.bor (.nt (.call "is_within" (.cons (.var 0) (.cons (.cst (.int 0)) (.cons (.gc g0 (.int 1000000000000000000000000000000)) .nil))))) (.nt (.call "is_within" (.cons (.var 1) (.cons (.cst (.int 1)) (.cons (.gc g0 (.int 1000000000000000000000000000000)) .nil)))))) (.cons (.rse "NoFraction" none .nil) .nil) .nil) .nil)⟩
def F_lowest : Fn := ⟨2, 3, (.cons (.asg (.nm 2) (.call "common" (.cons (.var 0) (.cons (.var 1) .nil)))) (.cons (.ret (.tup (.cons (.bin .fdiv (.var 0) (.var 2)) (.cons (.bin .fdiv (.var 1) (.var 2)) .nil)))) .nil))⟩
def F_is_greater : Fn := ⟨2, 2, (.cons (.ret (.cmp .gt [] (.bin .mul (.idx (.var 0) (.cst (.int 0))) (.idx (.var 1) (.cst (.int 1)))) (.bin .mul (.idx (.var 1) (.cst (.int 0))) (.idx (.var 0) (.cst (.int 1)))))) .nil)⟩
def F_rounded_up : Fn := ⟨1, 1, (.cons (.ret (.neg (.bin .fdiv (.neg (.idx (.var 0) (.cst (.int 0)))) (.idx (.var 0) (.cst (.int 1)))))) .nil)⟩
def F_choices_of : Fn := ⟨2, 8, (.cons (.asg (.nm 2) (.lst (.cons (.tup .nil) .nil))) (.cons (.forr (.nm 3) (.rng (.cons (.var 1) .nil)) (.cons (.asg (.nm 4) (.lst .nil)) (.cons (.forr (.nm 5) (.seq (.var 2)) (.cons (.asg (.nm 6) (.ite (.cmp .gt [] (.blt "len" (.cons (.var 5) .nil)) (.cst (.int 0))) (.bin .add (.idx (.var 5) (.neg (.cst (.int 1)))) (.cst (.int 1))) (.cst (.int 0)))) (.cons (.ex (.bm "list" "extend" (.var 4) (.cons (.lc (.nm 7) [7] (.rng (.cons (.var 6) (.cons (.blt "len" (.cons (.var 0) .nil)) .nil))) .nil (.bin .add (.var 5) (.tup (.cons (.var 7) .nil)))) .nil))) .nil))) (.cons (.asg (.nm 2) (.var 4)) .nil)))) (.cons (.ret (.lc (.nm 5) [5] (.seq (.var 2)) .nil (.blt "tuple" (.cons (.lc (.nm 7) [7] (.seq (.var 5)) .nil (.idx (.var 0) (.var 7))) .nil)))) .nil)))⟩
def F_product_of : Fn := ⟨1, 3, (.cons (.asg (.nm 1) (.cst (.int 1))) (.cons (.forr (.nm 2) (.seq (.var 0)) (.cons (.aug 1 .mul (.var 2)) .nil)) (.cons (.ret (.var 1)) .nil)))⟩
def F_Sheet__init__ (cs : List String) (g0 g1 : String) : Fn := ⟨2, 3, (.cons (.ifs (.bor (.nt (.isi (.var 1) ["tuple"] cs)) (.nt (.chn .le .le (.cst (.int 1)) (.blt "len" (.cons (.var 1) .nil)) (.gc g1 (.int 3))))) (.cons (.rse "BadSheet" (some "part") (.cons (.cst (.str (sO "moduli"))) .nil)) .nil) .nil) (.cons (.ifs (.nt (.blt "all" (.cons (.lc (.nm 2) [2] (.seq (.var 1)) .nil (.call "is_within" (.cons (.var 2) (.cons (.cst (.int 1)) (.cons (.gc g0 (.int 120)) .nil))))) .nil))) (.cons (.rse "BadSheet" (some "part") (.cons (.cst (.str (sO "moduli"))) .nil)) .nil) .nil) (.cons (.ifs (.cmp .gt [] (.call "product_of" (.cons (.var 1) .nil)) (.gc g0 (.int 120))) (.cons (.rse "BadSheet" (some "part") (.cons (.cst (.str (sO "places"))) .nil)) .nil) .nil) (.cons (.asg (.fd (.var 0) "moduli" ["Sheet"]) (.var 1)) (.cons (.asg (.fd (.var 0) "places" ["Sheet"]) (.call "product_of" (.cons (.var 1) .nil))) .nil)))))⟩
def F_Sheet__eq__ (cs es : List String) : Fn := ⟨2, 2, (.cons (.ret (.band (.isi (.var 1) ["Sheet"] cs) (.cmp .eq es (.fld (.var 0) "moduli" ["Sheet"]) (.fld (.var 1) "moduli" ["Sheet"])))) .nil)⟩
def F_check_place : Fn := ⟨2, 2, (.cons (.ifs (.nt (.call "is_within" (.cons (.var 1) (.cons (.cst (.int 0)) (.cons (.bin .sub (.fld (.var 0) "places" ["Sheet"]) (.cst (.int 1))) .nil))))) (.cons (.rse "NoPlace" none .nil) .nil) .nil) .nil)⟩
def F_rests_of : Fn := ⟨2, 5, (.cons (.asg (.nm 2) (.tup .nil)) (.cons (.asg (.nm 3) (.var 1)) (.cons (.forr (.nm 4) (.seq (.rev (.fld (.var 0) "moduli" ["Sheet"]))) (.cons (.asg (.nm 2) (.bin .add (.tup (.cons (.bin .mod (.var 3) (.var 4)) .nil)) (.var 2))) (.cons (.aug 3 .fdiv (.var 4)) .nil))) (.cons (.ret (.var 2)) .nil))))⟩
def F_place_by : Fn := ⟨2, 5, (.cons (.asg (.nm 2) (.cst (.int 0))) (.cons (.forr (.tp (.cons (.nm 3) (.cons (.nm 4) .nil))) (.zip (.fld (.var 0) "moduli" ["Sheet"]) (.var 1)) (.cons (.asg (.nm 2) (.bin .add (.bin .mul (.var 2) (.var 3)) (.bin .mod (.var 4) (.var 3)))) .nil)) (.cons (.ret (.var 2)) .nil)))⟩
def F_sum_of : Fn := ⟨3, 6, (.cons (.zret 3 (.call "rests_of" (.cons (.var 0) (.cons (.var 1) .nil))) (.call "rests_of" (.cons (.var 0) (.cons (.var 2) .nil))) "place_by" 0 (.tp (.cons (.nm 4) (.cons (.nm 5) .nil))) [4, 5] (.bin .add (.var 4) (.var 5))) .nil)⟩
def F_opposite_of : Fn := ⟨2, 3, (.cons (.ret (.call "place_by" (.cons (.var 0) (.cons (.lc (.nm 2) [2] (.seq (.call "rests_of" (.cons (.var 0) (.cons (.var 1) .nil)))) .nil (.neg (.var 2))) .nil)))) .nil)⟩
def F_shift_of : Fn := ⟨3, 4, (.cons (.ret (.blt "tuple" (.cons (.blt "sorted" (.cons (.lc (.nm 3) [3] (.seq (.var 1)) .nil (.call "sum_of" (.cons (.var 0) (.cons (.var 2) (.cons (.var 3) .nil))))) .nil)) .nil))) .nil)⟩
def F_is_block (es : List String) (g0 : String) : Fn := ⟨2, 2, (.cons (.ifs (.bor (.nt (.call "is_pair" (.cons (.var 1) .nil))) (.bor (.nt (.call "is_lot" (.cons (.idx (.var 1) (.cst (.int 0))) (.cons (.var 0) .nil)))) (.cmp .eq es (.blt "len" (.cons (.idx (.var 1) (.cst (.int 0))) .nil)) (.cst (.int 0))))) (.cons (.ret (.cst (.bl false))) .nil) .nil) (.cons (.ret (.call "is_within" (.cons (.idx (.var 1) (.cst (.int 1))) (.cons (.cst (.int 1)) (.cons (.gc g0 (.int 1000000)) .nil))))) .nil))⟩
def F_Table__init__ (cs : List String) (g0 g1 : String) : Fn := ⟨3, 5, (.cons (.ifs (.nt (.call "is_within" (.cons (.var 1) (.cons (.cst (.int 1)) (.cons (.gc g1 (.int 120)) .nil))))) (.cons (.rse "BadTable" (some "part") (.cons (.cst (.str (sO "boxes"))) .nil)) .nil) .nil) (.cons (.ifs (.bor (.nt (.isi (.var 2) ["tuple"] cs)) (.nt (.chn .le .le (.cst (.int 1)) (.blt "len" (.cons (.var 2) .nil)) (.gc g0 (.int 360))))) (.cons (.rse "BadTable" (some "part") (.cons (.cst (.str (sO "blocks"))) .nil)) .nil) .nil) (.cons (.forr (.tp (.cons (.nm 3) (.cons (.nm 4) .nil))) (.enm (.var 2)) (.cons (.ifs (.nt (.call "is_block" (.cons (.var 1) (.cons (.var 4) .nil)))) (.cons (.rse "BadTable" (some "part") (.cons (.var 3) .nil)) .nil) .nil) .nil)) (.cons (.asg (.fd (.var 0) "boxes" ["Table"]) (.var 1)) (.cons (.asg (.fd (.var 0) "blocks" ["Table"]) (.var 2)) .nil)))))⟩
def F_Table__eq__ (cs es : List String) : Fn := ⟨2, 2, (.cons (.ret (.band (.isi (.var 1) ["Table"] cs) (.band (.cmp .eq es (.fld (.var 0) "boxes" ["Table"]) (.fld (.var 1) "boxes" ["Table"])) (.cmp .eq es (.fld (.var 0) "blocks" ["Table"]) (.fld (.var 1) "blocks" ["Table"]))))) .nil)⟩
def F_check_loss : Fn := ⟨2, 2, (.cons (.ifs (.nt (.call "is_lot" (.cons (.var 1) (.cons (.fld (.var 0) "boxes" ["Table"]) .nil)))) (.cons (.rse "NoLoss" none .nil) .nil) .nil) .nil)⟩
def F_left_of : Fn := ⟨2, 3, (.cons (.ret (.blt "tuple" (.cons (.lc (.nm 2) [2] (.seq (.var 0)) (.cons (.cmp .nin [] (.var 2) (.var 1)) .nil) (.var 2)) .nil))) .nil)⟩
def F_gone_of (es : List String) : Fn := ⟨2, 5, (.cons (.ret (.blt "tuple" (.cons (.lc (.tp (.cons (.nm 2) (.cons (.tp (.cons (.nm 3) (.cons (.nm 4) .nil))) .nil))) [2, 3, 4] (.enm (.fld (.var 0) "blocks" ["Table"])) (.cons (.cmp .eq es (.blt "len" (.cons (.call "left_of" (.cons (.var 3) (.cons (.var 1) .nil))) .nil)) (.cst (.int 0))) .nil) (.var 2)) .nil))) .nil)⟩
def F_weight_of : Fn := ⟨1, 3, (.cons (.ret (.blt "sum" (.cons (.lc (.tp (.cons (.nm 1) (.cons (.nm 2) .nil))) [1, 2] (.seq (.fld (.var 0) "blocks" ["Table"])) .nil (.var 2)) .nil))) .nil)⟩
def F_fewest_boxes : Fn := ⟨1, 3, (.cons (.ret (.blt "min" (.cons (.lc (.tp (.cons (.nm 1) (.cons (.nm 2) .nil))) [1, 2] (.seq (.fld (.var 0) "blocks" ["Table"])) .nil (.blt "len" (.cons (.var 1) .nil))) .nil))) .nil)⟩
def F_is_kind (g0 g1 : String) : Fn := ⟨2, 2, (.cons (.ifs (.bor (.nt (.call "is_pair" (.cons (.var 1) .nil))) (.bor (.nt (.call "is_lot" (.cons (.idx (.var 1) (.cst (.int 0))) (.cons (.fld (.var 0) "places" ["Sheet"]) .nil)))) (.nt (.chn .le .le (.cst (.int 1)) (.blt "len" (.cons (.idx (.var 1) (.cst (.int 0))) .nil)) (.gc g1 (.int 8)))))) (.cons (.ret (.cst (.bl false))) .nil) .nil) (.cons (.ret (.call "is_within" (.cons (.idx (.var 1) (.cst (.int 1))) (.cons (.cst (.int 1)) (.cons (.gc g0 (.int 1000000)) .nil))))) .nil))⟩
def F_Layout__init__ (cs : List String) (g0 : String) : Fn := ⟨3, 5, (.cons (.ifs (.nt (.isi (.var 1) ["Sheet"] cs)) (.cons (.rse "BadLayout" (some "part") (.cons (.cst (.str (sO "sheet"))) .nil)) .nil) .nil) (.cons (.ifs (.bor (.nt (.isi (.var 2) ["tuple"] cs)) (.nt (.chn .le .le (.cst (.int 1)) (.blt "len" (.cons (.var 2) .nil)) (.gc g0 (.int 3))))) (.cons (.rse "BadLayout" (some "part") (.cons (.cst (.str (sO "kinds"))) .nil)) .nil) .nil) (.cons (.forr (.tp (.cons (.nm 3) (.cons (.nm 4) .nil))) (.enm (.var 2)) (.cons (.ifs (.nt (.call "is_kind" (.cons (.var 1) (.cons (.var 4) .nil)))) (.cons (.rse "BadLayout" (some "part") (.cons (.var 3) .nil)) .nil) .nil) .nil)) (.cons (.asg (.fd (.var 0) "sheet" ["Layout"]) (.var 1)) (.cons (.asg (.fd (.var 0) "kinds" ["Layout"]) (.var 2)) .nil)))))⟩
def F_Layout__eq__ (cs es : List String) : Fn := ⟨2, 2, (.cons (.ret (.band (.isi (.var 1) ["Layout"] cs) (.band (.cmp .eq es (.fld (.var 0) "sheet" ["Layout"]) (.fld (.var 1) "sheet" ["Layout"])) (.cmp .eq es (.fld (.var 0) "kinds" ["Layout"]) (.fld (.var 1) "kinds" ["Layout"]))))) .nil)⟩
def F_blocks_of : Fn := ⟨2, 5, (.cons (.asg (.tp (.cons (.nm 2) (.cons (.nm 3) .nil))) (.var 1)) (.cons (.ret (.lc (.nm 4) [4] (.rng (.cons (.fld (.var 0) "places" ["Sheet"]) .nil)) .nil (.tup (.cons (.call "shift_of" (.cons (.var 0) (.cons (.var 2) (.cons (.var 4) .nil)))) (.cons (.var 3) .nil))))) .nil))⟩
def F_table_by : Fn := ⟨1, 3, (.cons (.asg (.nm 1) (.lst .nil)) (.cons (.forr (.nm 2) (.seq (.fld (.var 0) "kinds" ["Layout"])) (.cons (.ex (.bm "list" "extend" (.var 1) (.cons (.call "blocks_of" (.cons (.fld (.var 0) "sheet" ["Layout"]) (.cons (.var 2) .nil))) .nil))) .nil)) (.cons (.ret (.mk "Table" (.cons (.fld (.fld (.var 0) "sheet" ["Layout"]) "places" ["Sheet"]) (.cons (.blt "tuple" (.cons (.var 1) .nil)) .nil)))) .nil)))⟩
def F_copies_of : Fn := ⟨1, 3, (.cons (.ret (.blt "min" (.cons (.lc (.tp (.cons (.nm 1) (.cons (.nm 2) .nil))) [1, 2] (.seq (.fld (.var 0) "kinds" ["Layout"])) .nil (.blt "len" (.cons (.var 1) .nil))) .nil))) .nil)⟩
def F_weights_of : Fn := ⟨1, 3, (.cons (.ret (.bin .mul (.fld (.fld (.var 0) "sheet" ["Layout"]) "places" ["Sheet"]) (.blt "sum" (.cons (.lc (.tp (.cons (.nm 1) (.cons (.nm 2) .nil))) [1, 2] (.seq (.fld (.var 0) "kinds" ["Layout"])) .nil (.var 2)) .nil)))) .nil)⟩

theorem WX_eq {m : Res D} {d : D} {h : Hd} (w : WX m fun d' h' => d' = d ∧ h' = h) : m = some (.ok d h) := by
  obtain ⟨a, h', e, rfl, rfl⟩ := w.get
  exact e
theorem call_eq {P : Prog} {n : Nat} {f : String} {fn : Fn} {ds : List D} {h : Hd} {d : D} (hl : P.lookup f = some fn) (hd : ds.length = fn.np) (w : WS (evSs (callF P n) fn.body (ds.map some ++ List.replicate (fn.nv - fn.np) none) h) (fun _ h' => D.non = d ∧ h' = h) fun d' h' => d' = d ∧ h' = h) : callF P (n + 1) f ds h = some (.ok d h) :=
  WX_eq (WX_call hl hd (by
    revert w
    cases evSs (callF P n) fn.body (ds.map some ++ List.replicate (fn.nv - fn.np) none) h with
    | none => exact id
    | some r => cases r <;> exact id))
/-! ### small rules -/
theorem isi_int {cs : List String} {i : Int} {h : Hd} : isiF cs ["int"] (.v (.int i)) h = some (.v (.bl true)) := rfl
theorem isi_int_b {cs : List String} {i : Int} {h : Hd} : isiF cs ["bool"] (.v (.int i)) h = some (.v (.bl false)) := rfl
theorem isi_tup {cs : List String} {xs : List D} {h : Hd} : isiF cs ["tuple"] (.v (.tup xs)) h = some (.v (.bl true)) := rfl
theorem isi_str {cs : List String} {s : Str} {h : Hd} : isiF cs ["str"] (.v (.str s)) h = some (.v (.bl true)) := rfl
theorem chk_le {i j : Int} {h : Hd} (hi : i ≤ j) : cmpop .le (.v (.int i)) (.v (.int j)) h = some true := by
  rw [le_int, decide_eq_true hi]
theorem chk_gt {Φ : Calls} {cs : List String} {i j : Int} {h : Hd} (hi : i ≤ j) : cmpE Φ .gt cs (.v (.int i)) (.v (.int j)) h = some (.ok false h) := by
  rw [cE_gt, decide_eq_false (by omega)]
theorem walk_tup {xs : List D} {h : Hd} : walkSeq (.v (.tup xs)) h = some ⟨xs, []⟩ := rfl
theorem walk_tmp {xs : List D} {h : Hd} : walkSeq (.l xs) h = some ⟨xs, []⟩ := rfl
theorem at0 {x : D} {xs : List D} : Py.atI (x :: xs) 0 = some x := at_nat (i := 0) rfl
theorem at1' {x y : D} {xs : List D} : Py.atI (x :: y :: xs) 1 = some y := at_nat (i := 1) rfl
theorem enum_len {xs : List D} : (enumL xs).length = xs.length := by simp [enumL]
theorem enum_get {xs : List D} {i : Nat} (hi : i < (enumL xs).length) : (enumL xs)[i] = .tup [.int (i : Int), xs.getD i .non] := by simp [enumL]
theorem seq_tup {xs : List D} {h : Hd} : seqOf (.v (.tup xs)) h = some xs := rfl
theorem gOf_tup {xs : List D} {h : Hd} : gOf (.v (.tup xs)) h = [] := rfl
theorem contains1 (s : String) : ([s] : List String).contains s = true := by simp
theorem boolsD_map : ∀ bs : List Bool, boolsD (bs.map .bl) = some bs
  | [] => rfl
  | x :: r => by
    rw [List.map_cons]
    simp only [boolsD, boolsD_map r]
    rfl
theorem all_tmp {bs : List Bool} {h : Hd} : bltF "all" [.l (bs.map .bl)] h = some (.v (.bl (bs.all id))) := by
  unfold bltF
  simp only [lstOf, Option.bind_some, boolsD_map]
  rfl
theorem all_yes {n : Nat} {h : Hd} : bltF "all" [.l (List.replicate n (.bl true))] h = some (.v (.bl true)) := by
  have := all_tmp (bs := List.replicate n true) (h := h)
  rw [List.map_replicate] at this
  rw [this]
  simp
theorem fld_of {k : Nat} {c f : String} {fs : List (String × D)} {d : D} {h : Hd} (e : h.at_ k = some (.ins c fs)) (hf : fs.lookup f = some d) : fldF [c] f (.v (.obj k)) h = some d := by
  unfold fldF
  simp only [e, contains1, if_true, hf]
theorem isi_ins {cs : List String} {k : Nat} {c : String} {fs : List (String × D)} {h : Hd} (e : h.at_ k = some (.ins c fs)) (hc : cs.contains c = true) : isiF cs [c] (.v (.obj k)) h = some (.v (.bl true)) := by
  unfold isiF insOf
  simp only [e, hc, if_true, List.any_cons, beq_self_eq_true, Bool.true_or]
theorem sum_tmp {is : List Int} {h : Hd} : bltF "sum" [.l (is.map .int)] h = some (.v (.int is.sum)) := by
  unfold bltF
  simp only [lstOf, intsD_map]
  rfl
theorem srt_tmp {fs : List Int} {h : Hd} : bltF "sorted" [.l (fs.map .int)] h = some (.l ((fs.mergeSort fun a b => decide (a ≤ b)).map .int)) := by
  unfold bltF
  simp only [lstOf, sortD, intsD_map]
  rfl
theorem map_get (cs : List Int) (i : Nat) (hi : i < cs.length) : (cs.map D.int)[i]? = some (.int cs[i]) := by simp [hi]
/-- a comprehension without a test whose step is a plain function of the item -/
theorem comp_map {α : Type} {xs : List α} {g : α → D} {f : α → D} {G : Gd} {el : D → Hd → Res (Option D)} {h : Hd} (hs : ∀ x ∈ xs, el (g x) h = some (.ok (some (f x)) h)) (hG : G.ok h := by simp) : compL G el (xs.map g) h = some (.ok (xs.map f) h) := by
  have w : WX (compL G el (xs.map g) h) fun ds h' => ds = xs.map f ∧ h' = h := by
    refine wx_comp (I := fun i acc h' => acc = (xs.take i).map f ∧ h' = h) ⟨rfl, rfl⟩ (by rintro i acc h' _ ⟨_, rfl⟩; exact hG) ?_ ?_
    · rintro i hi acc h' ⟨rfl, rfl⟩
      rw [List.length_map] at hi
      have hg : (xs.map g)[i]'(by simpa using hi) = g xs[i] := by simp
      rw [hg, hs _ (List.getElem_mem hi)]
      refine ⟨?_, rfl⟩
      rw [List.take_succ_eq_append_getElem hi, List.map_append]
      rfl
    · rintro acc h' ⟨rfl, rfl⟩
      rw [List.length_map, List.take_length]
      exact ⟨rfl, rfl⟩
  obtain ⟨a, h', e, rfl, rfl⟩ := w.get
  exact e
/-- .. with a test -/
theorem comp_fm {α : Type} {xs : List α} {g : α → D} {f : α → Option D} {G : Gd} {el : D → Hd → Res (Option D)} {h : Hd} (hs : ∀ x ∈ xs, el (g x) h = some (.ok (f x) h)) (hG : G.ok h := by simp) : compL G el (xs.map g) h = some (.ok (xs.filterMap f) h) := by
  have w : WX (compL G el (xs.map g) h) fun ds h' => ds = xs.filterMap f ∧ h' = h := by
    refine wx_comp (I := fun i acc h' => acc = (xs.take i).filterMap f ∧ h' = h) ⟨rfl, rfl⟩ (by rintro i acc h' _ ⟨_, rfl⟩; exact hG) ?_ ?_
    · rintro i hi acc h' ⟨rfl, rfl⟩
      rw [List.length_map] at hi
      have hg : (xs.map g)[i]'(by simpa using hi) = g xs[i] := by simp
      rw [hg, hs _ (List.getElem_mem hi)]
      refine ⟨?_, rfl⟩
      rw [List.take_succ_eq_append_getElem hi, List.filterMap_append]
      cases q : f xs[i] <;> simp [q]
    · rintro acc h' ⟨rfl, rfl⟩
      rw [List.length_map, List.take_length]
      exact ⟨rfl, rfl⟩
  obtain ⟨a, h', e, rfl, rfl⟩ := w.get
  exact e
theorem wx_map {α : Type} {xs : List α} {g : α → D} (f : α → D) {G : Gd} {el : D → Hd → Res (Option D)} {h : Hd} {Q : List D → Hd → Prop} {E : XP} (hs : ∀ x ∈ xs, el (g x) h = some (.ok (some (f x)) h)) (hG : G.ok h) (q : Q (xs.map f) h) : WX (compL G el (xs.map g) h) Q E := by
  rw [comp_map hs hG]
  exact q
theorem wx_fm {α : Type} {xs : List α} {g : α → D} (f : α → Option D) {G : Gd} {el : D → Hd → Res (Option D)} {h : Hd} {Q : List D → Hd → Prop} {E : XP} (hs : ∀ x ∈ xs, el (g x) h = some (.ok (f x) h)) (hG : G.ok h) (q : Q (xs.filterMap f) h) : WX (compL G el (xs.map g) h) Q E := by
  rw [comp_fm hs hG]
  exact q
/-! ### checks -/
section
variable {P : Prog} {cs es : List String} {g0 g1 g2 : String} {n : Nat} {h : Hd}
theorem c_integer [k : HF P "is_integer" (F_is_integer cs)] {i : Int} : callF P (n + 1) "is_integer" [.int i] h = some (.ok (.bl true) h) := by
  refine call_eq k.look rfl ?_
  show WS (evSs (callF P n) (F_is_integer cs).body [some (.int i)] h) _ _
  unfold F_is_integer
  simp only [↓evS_for, ↓evX_lc, ↓evS_zret, forB, lcB, Py.wipe, WS_ex, WX_ex, evSs, evS, evX, evXs, evI, evIfs, bindT, bindTs, WS_thenS, WS_bndS, WS_bnnS, WX_bnd, WX_bnn, WX_ok, WX_lift, WS_nx, WS_rt, pro_v, pro_l, pros, List.getElem?_cons_zero, List.getElem?_cons_succ, List.set_cons_zero, List.set_cons_succ, Option.map_some, Option.some.injEq, exists_eq_left', bop_add, bop_sub, bop_mulL, bop_mulR, bop_mulm, bop_mod, bop_fdiv, bop_powS, blt_int, Int.reduceLT, Int.reducePow, Int.reduceLE, Int.reduceNeg, cE_eq, cE_ne, cE_lt, cE_le, cE_gt, cE_ge, isi_int, isi_int_b, Bool.not_false]
  trivial
theorem c_within [HF P "is_integer" (F_is_integer cs)] [k : HF P "is_within" F_is_within] {i a b : Int} : callF P (n + 2) "is_within" [.int i, .int a, .int b] h = some (.ok (.bl (decide (a ≤ i ∧ i ≤ b))) h) := by
  refine call_eq k.look rfl ?_
  show WS (evSs (callF P (n + 1)) F_is_within.body [some (.int i), some (.int a), some (.int b)] h) _ _
  unfold F_is_within
  simp only [↓evS_for, ↓evX_lc, ↓evS_zret, forB, lcB, Py.wipe, WS_ex, WX_ex, evSs, evS, evX, evXs, evI, evIfs, bindT, bindTs, WS_thenS, WS_bndS, WS_bnnS, WX_bnd, WX_bnn, WX_ok, WX_lift, WS_nx, WS_rt, pro_v, pro_l, pros, List.getElem?_cons_zero, List.getElem?_cons_succ, List.set_cons_zero, List.set_cons_succ, Option.map_some, Option.some.injEq, exists_eq_left', bop_add, bop_sub, bop_mulL, bop_mulR, bop_mulm, bop_mod, bop_fdiv, bop_powS, blt_int, Int.reduceLT, Int.reducePow, Int.reduceLE, Int.reduceNeg, cE_eq, cE_ne, cE_lt, cE_le, cE_gt, cE_ge, c_integer, le_int]
  by_cases h1 : a ≤ i
  · by_cases h2 : i ≤ b
    · simp [h1, h2, ↓evS_for, ↓evX_lc, ↓evS_zret, forB, lcB, Py.wipe, WS_ex, WX_ex, evSs, evS, evX, evXs, evI, evIfs, bindT, bindTs, WS_thenS, WS_bndS, WS_bnnS, WX_bnd, WX_bnn, WX_ok, WX_lift, WS_nx, WS_rt, pro_v, pro_l, pros, List.getElem?_cons_zero, List.getElem?_cons_succ, List.set_cons_zero, List.set_cons_succ, Option.map_some, Option.some.injEq, exists_eq_left', bop_add, bop_sub, bop_mulL, bop_mulR, bop_mulm, bop_mod, bop_fdiv, bop_powS, blt_int, Int.reduceLT, Int.reducePow, Int.reduceLE, Int.reduceNeg, cE_eq, cE_ne, cE_lt, cE_le, cE_gt, cE_ge, le_int]
    · simp [h1, h2, ↓evS_for, ↓evX_lc, ↓evS_zret, forB, lcB, Py.wipe, WS_ex, WX_ex, evSs, evS, evX, evXs, evI, evIfs, bindT, bindTs, WS_thenS, WS_bndS, WS_bnnS, WX_bnd, WX_bnn, WX_ok, WX_lift, WS_nx, WS_rt, pro_v, pro_l, pros, List.getElem?_cons_zero, List.getElem?_cons_succ, List.set_cons_zero, List.set_cons_succ, Option.map_some, Option.some.injEq, exists_eq_left', bop_add, bop_sub, bop_mulL, bop_mulR, bop_mulm, bop_mod, bop_fdiv, bop_powS, blt_int, Int.reduceLT, Int.reducePow, Int.reduceLE, Int.reduceNeg, cE_eq, cE_ne, cE_lt, cE_le, cE_gt, cE_ge, le_int]
  · simp [h1, ↓evS_for, ↓evX_lc, ↓evS_zret, forB, lcB, Py.wipe, WS_ex, WX_ex, evSs, evS, evX, evXs, evI, evIfs, bindT, bindTs, WS_thenS, WS_bndS, WS_bnnS, WX_bnd, WX_bnn, WX_ok, WX_lift, WS_nx, WS_rt, pro_v, pro_l, pros, List.getElem?_cons_zero, List.getElem?_cons_succ, List.set_cons_zero, List.set_cons_succ, Option.map_some, Option.some.injEq, exists_eq_left', bop_add, bop_sub, bop_mulL, bop_mulR, bop_mulm, bop_mod, bop_fdiv, bop_powS, blt_int, Int.reduceLT, Int.reducePow, Int.reduceLE, Int.reduceNeg, cE_eq, cE_ne, cE_lt, cE_le, cE_gt, cE_ge]
theorem c_pair2 [k : HF P "is_pair" (F_is_pair cs es)] {a b : D} : callF P (n + 1) "is_pair" [.tup [a, b]] h = some (.ok (.bl true) h) := by
  refine call_eq k.look rfl ?_
  show WS (evSs (callF P n) (F_is_pair cs es).body [some (.tup [a, b])] h) _ _
  unfold F_is_pair
  simp only [↓evS_for, ↓evX_lc, ↓evS_zret, forB, lcB, Py.wipe, WS_ex, WX_ex, evSs, evS, evX, evXs, evI, evIfs, bindT, bindTs, WS_thenS, WS_bndS, WS_bnnS, WX_bnd, WX_bnn, WX_ok, WX_lift, WS_nx, WS_rt, pro_v, pro_l, pros, List.getElem?_cons_zero, List.getElem?_cons_succ, List.set_cons_zero, List.set_cons_succ, Option.map_some, Option.some.injEq, exists_eq_left', bop_add, bop_sub, bop_mulL, bop_mulR, bop_mulm, bop_mod, bop_fdiv, bop_powS, blt_int, Int.reduceLT, Int.reducePow, Int.reduceLE, Int.reduceNeg, cE_eq, cE_ne, cE_lt, cE_le, cE_gt, cE_ge, isi_tup, len_tup]
  trivial
def IsLot (m : Int) (l : List Int) : Prop := l.Pairwise (· < ·) ∧ ∀ x ∈ l, 0 ≤ x ∧ x < m
theorem c_lot [HF P "is_integer" (F_is_integer cs)] [HF P "is_within" F_is_within] [k : HF P "is_lot" (F_is_lot cs)] {l : List Int} {m : Int} (hL : IsLot m l) : callF P (n + 3) "is_lot" [.tup (l.map .int), .int m] h = some (.ok (.bl true) h) := by
  refine call_eq k.look rfl ?_
  show WS (evSs (callF P (n + 2)) (F_is_lot cs).body [some (.tup (l.map .int)), some (.int m), none, none] h) _ _
  unfold F_is_lot
  simp only [↓evS_for, ↓evX_lc, ↓evS_zret, forB, lcB, Py.wipe, WS_ex, WX_ex, evSs, evS, evX, evXs, evI, evIfs, bindT, bindTs, WS_thenS, WS_bndS, WS_bnnS, WX_bnd, WX_bnn, WX_ok, WX_lift, WS_nx, WS_rt, pro_v, pro_l, pros, List.getElem?_cons_zero, List.getElem?_cons_succ, List.set_cons_zero, List.set_cons_succ, Option.map_some, Option.some.injEq, exists_eq_left', bop_add, bop_sub, bop_mulL, bop_mulR, bop_mulm, bop_mod, bop_fdiv, bop_powS, blt_int, Int.reduceLT, Int.reducePow, Int.reduceLE, Int.reduceNeg, cE_eq, cE_ne, cE_lt, cE_le, cE_gt, cE_ge, isi_tup, Bool.not_true, walk_tup]
  refine ws_for (I := fun i ρ h' => ∃ (v : Int) (o : Option D), ρ = [some (.tup (l.map .int)), some (.int m), some (.int v), o] ∧ h' = h ∧ (∀ j, i ≤ j → (hj : j < l.length) → v + 1 ≤ l[j])) ⟨-1, none, rfl, rfl, ?_⟩ (by intro i ρ h' _ _; simp) ?_ ?_
  · intro j _ hj
    have := (hL.2 l[j] (List.getElem_mem hj)).1
    omega
  · rintro i hi ρ h' ⟨v, o, rfl, rfl, hv⟩
    rw [List.length_map] at hi
    have hg : (l.map D.int)[i]'(by simpa using hi) = .int l[i] := by simp
    have hb := hL.2 l[i] (List.getElem_mem hi)
    have hw := hv i (Nat.le_refl _) hi
    simp only [↓evS_for, ↓evX_lc, ↓evS_zret, forB, lcB, Py.wipe, WS_ex, WX_ex, evSs, evS, evX, evXs, evI, evIfs, bindT, bindTs, WS_thenS, WS_bndS, WS_bnnS, WX_bnd, WX_bnn, WX_ok, WX_lift, WS_nx, WS_rt, pro_v, pro_l, pros, List.getElem?_cons_zero, List.getElem?_cons_succ, List.set_cons_zero, List.set_cons_succ, Option.map_some, Option.some.injEq, exists_eq_left', bop_add, bop_sub, bop_mulL, bop_mulR, bop_mulm, bop_mod, bop_fdiv, bop_powS, blt_int, Int.reduceLT, Int.reducePow, Int.reduceLE, Int.reduceNeg, cE_eq, cE_ne, cE_lt, cE_le, cE_gt, cE_ge, hg, c_within, decide_eq_true (show v + 1 ≤ l[i] ∧ l[i] ≤ m - 1 from ⟨hw, by omega⟩), Bool.not_true]
    refine ⟨l[i], _, rfl, trivial, ?_⟩
    intro j hj hjl
    have := List.pairwise_iff_getElem.mp hL.1 i j hi hjl (by omega)
    omega
  · rintro ρ h' ⟨v, o, rfl, rfl, hv⟩
    simp only [↓evS_for, ↓evX_lc, ↓evS_zret, forB, lcB, Py.wipe, WS_ex, WX_ex, evSs, evS, evX, evXs, evI, evIfs, bindT, bindTs, WS_thenS, WS_bndS, WS_bnnS, WX_bnd, WX_bnn, WX_ok, WX_lift, WS_nx, WS_rt, pro_v, pro_l, pros, List.getElem?_cons_zero, List.getElem?_cons_succ, List.set_cons_zero, List.set_cons_succ, Option.map_some, Option.some.injEq, exists_eq_left', bop_add, bop_sub, bop_mulL, bop_mulR, bop_mulm, bop_mod, bop_fdiv, bop_powS, blt_int, Int.reduceLT, Int.reducePow, Int.reduceLE, Int.reduceNeg, cE_eq, cE_ne, cE_lt, cE_le, cE_gt, cE_ge]
    exact ⟨trivial, trivial⟩
theorem c_number [HF P "is_integer" (F_is_integer cs)] [HF P "is_within" F_is_within] [k : HF P "check_number" F_check_number] {i a b : Int} (h1 : a ≤ i) (h2 : i ≤ b) : callF P (n + 3) "check_number" [.int i, .int a, .int b] h = some (.ok .non h) := by
  refine call_eq k.look rfl ?_
  show WS (evSs (callF P (n + 2)) F_check_number.body [some (.int i), some (.int a), some (.int b)] h) _ _
  unfold F_check_number
  simp only [↓evS_for, ↓evX_lc, ↓evS_zret, forB, lcB, Py.wipe, WS_ex, WX_ex, evSs, evS, evX, evXs, evI, evIfs, bindT, bindTs, WS_thenS, WS_bndS, WS_bnnS, WX_bnd, WX_bnn, WX_ok, WX_lift, WS_nx, WS_rt, pro_v, pro_l, pros, List.getElem?_cons_zero, List.getElem?_cons_succ, List.set_cons_zero, List.set_cons_succ, Option.map_some, Option.some.injEq, exists_eq_left', bop_add, bop_sub, bop_mulL, bop_mulR, bop_mulm, bop_mod, bop_fdiv, bop_powS, blt_int, Int.reduceLT, Int.reducePow, Int.reduceLE, Int.reduceNeg, cE_eq, cE_ne, cE_lt, cE_le, cE_gt, cE_ge, c_within, decide_eq_true (show a ≤ i ∧ i ≤ b from ⟨h1, h2⟩), Bool.not_true]
  exact ⟨trivial, trivial⟩
theorem c_many [k : HF P "check_many" F_check_many] {i a : Int} (h1 : i ≤ a) : callF P (n + 1) "check_many" [.int i, .int a] h = some (.ok .non h) := by
  refine call_eq k.look rfl ?_
  show WS (evSs (callF P n) F_check_many.body [some (.int i), some (.int a)] h) _ _
  unfold F_check_many
  simp only [↓evS_for, ↓evX_lc, ↓evS_zret, forB, lcB, Py.wipe, WS_ex, WX_ex, evSs, evS, evX, evXs, evI, evIfs, bindT, bindTs, WS_thenS, WS_bndS, WS_bnnS, WX_bnd, WX_bnn, WX_ok, WX_lift, WS_nx, WS_rt, pro_v, pro_l, pros, List.getElem?_cons_zero, List.getElem?_cons_succ, List.set_cons_zero, List.set_cons_succ, Option.map_some, Option.some.injEq, exists_eq_left', bop_add, bop_sub, bop_mulL, bop_mulR, bop_mulm, bop_mod, bop_fdiv, bop_powS, blt_int, Int.reduceLT, Int.reducePow, Int.reduceLE, Int.reduceNeg, cE_eq, cE_ne, cE_lt, cE_le, cE_gt, cE_ge, chk_gt h1]
  exact ⟨trivial, trivial⟩
def prodI (l : List Int) : Int := l.foldl (· * ·) 1
theorem c_prod [k : HF P "product_of" F_product_of] {ms : List Int} (hb : ∀ x ∈ ms, 1 ≤ x ∧ x ≤ 120) : callF P (n + 1) "product_of" [.tup (ms.map .int)] h = some (.ok (.int (prodI ms)) h) := by
  refine call_eq k.look rfl ?_
  show WS (evSs (callF P n) F_product_of.body [some (.tup (ms.map .int)), none, none] h) _ _
  unfold F_product_of
  simp only [↓evS_for, ↓evX_lc, ↓evS_zret, forB, lcB, Py.wipe, WS_ex, WX_ex, evSs, evS, evX, evXs, evI, evIfs, bindT, bindTs, WS_thenS, WS_bndS, WS_bnnS, WX_bnd, WX_bnn, WX_ok, WX_lift, WS_nx, WS_rt, pro_v, pro_l, pros, List.getElem?_cons_zero, List.getElem?_cons_succ, List.set_cons_zero, List.set_cons_succ, Option.map_some, Option.some.injEq, exists_eq_left', bop_add, bop_sub, bop_mulL, bop_mulR, bop_mulm, bop_mod, bop_fdiv, bop_powS, blt_int, Int.reduceLT, Int.reducePow, Int.reduceLE, Int.reduceNeg, cE_eq, cE_ne, cE_lt, cE_le, cE_gt, cE_ge, walk_tup]
  refine ws_for (I := fun i ρ h' => ∃ (o : Option D), ρ = [some (.tup (ms.map .int)), some (.int (prodI (ms.take i))), o] ∧ h' = h) ⟨none, rfl, rfl⟩ (by intro i ρ h' _ _; simp) ?_ ?_
  · rintro i hi ρ h' ⟨o, rfl, rfl⟩
    rw [List.length_map] at hi
    have hg : (ms.map D.int)[i]'(by simpa using hi) = .int ms[i] := by simp
    have hb := hb ms[i] (List.getElem_mem hi)
    have ha : augF .mul (.int (prodI (ms.take i))) (.v (.int ms[i])) = some (.int (prodI (ms.take i) * ms[i])) := if_pos (.inr (by omega))
    simp only [↓evS_for, ↓evX_lc, ↓evS_zret, forB, lcB, Py.wipe, WS_ex, WX_ex, evSs, evS, evX, evXs, evI, evIfs, bindT, bindTs, WS_thenS, WS_bndS, WS_bnnS, WX_bnd, WX_bnn, WX_ok, WX_lift, WS_nx, WS_rt, pro_v, pro_l, pros, List.getElem?_cons_zero, List.getElem?_cons_succ, List.set_cons_zero, List.set_cons_succ, Option.map_some, Option.some.injEq, exists_eq_left', bop_add, bop_sub, bop_mulL, bop_mulR, bop_mulm, bop_mod, bop_fdiv, bop_powS, blt_int, Int.reduceLT, Int.reducePow, Int.reduceLE, Int.reduceNeg, cE_eq, cE_ne, cE_lt, cE_le, cE_gt, cE_ge, hg, ha]
    refine ⟨some (.int ms[i]), ?_, trivial⟩
    have e : prodI (ms.take (i + 1)) = prodI (ms.take i) * ms[i] := by
      unfold prodI
      rw [List.take_succ_eq_append_getElem hi, List.foldl_append]
      rfl
    rw [e]
  · rintro ρ h' ⟨o, rfl, rfl⟩
    rw [List.length_map, List.take_length]
    simp only [↓evS_for, ↓evX_lc, ↓evS_zret, forB, lcB, Py.wipe, WS_ex, WX_ex, evSs, evS, evX, evXs, evI, evIfs, bindT, bindTs, WS_thenS, WS_bndS, WS_bnnS, WX_bnd, WX_bnn, WX_ok, WX_lift, WS_nx, WS_rt, pro_v, pro_l, pros, List.getElem?_cons_zero, List.getElem?_cons_succ, List.set_cons_zero, List.set_cons_succ, Option.map_some, Option.some.injEq, exists_eq_left', bop_add, bop_sub, bop_mulL, bop_mulR, bop_mulm, bop_mod, bop_fdiv, bop_powS, blt_int, Int.reduceLT, Int.reducePow, Int.reduceLE, Int.reduceNeg, cE_eq, cE_ne, cE_lt, cE_le, cE_gt, cE_ge]
    exact ⟨trivial, trivial⟩
/-! ### tables -/
/-- a block, a kind: its lot, its weight -/
def bk (p : List Int × Int) : D := .tup [.tup (p.1.map .int), .int p.2]
def IsBlk (m : Int) (p : List Int × Int) : Prop := IsLot m p.1 ∧ p.1 ≠ [] ∧ 1 ≤ p.2 ∧ p.2 ≤ 1000000
theorem getD_bk {bl : List (List Int × Int)} {i : Nat} (hi : i < bl.length) : (bl.map bk).getD i .non = bk bl[i] := by simp [hi]
theorem c_block [HF P "is_integer" (F_is_integer cs)] [HF P "is_within" F_is_within] [HF P "is_lot" (F_is_lot cs)] [HF P "is_pair" (F_is_pair cs es)] [k : HF P "is_block" (F_is_block es g0)] {b : Int} {p : List Int × Int} (hB : IsBlk b p) : callF P (n + 4) "is_block" [.int b, bk p] h = some (.ok (.bl true) h) := by
  refine call_eq k.look rfl ?_
  show WS (evSs (callF P (n + 3)) (F_is_block es g0).body [some (.int b), some (bk p)] h) _ _
  unfold F_is_block
  have hl : ¬ (((p.1.map D.int).length : Int) = 0) := by simpa using hB.2.1
  simp only [↓evS_for, ↓evX_lc, ↓evS_zret, forB, lcB, Py.wipe, WS_ex, WX_ex, evSs, evS, evX, evXs, evI, evIfs, bindT, bindTs, WS_thenS, WS_bndS, WS_bnnS, WX_bnd, WX_bnn, WX_ok, WX_lift, WS_nx, WS_rt, pro_v, pro_l, pros, List.getElem?_cons_zero, List.getElem?_cons_succ, List.set_cons_zero, List.set_cons_succ, Option.map_some, Option.some.injEq, exists_eq_left', bop_add, bop_sub, bop_mulL, bop_mulR, bop_mulm, bop_mod, bop_fdiv, bop_powS, blt_int, Int.reduceLT, Int.reducePow, Int.reduceLE, Int.reduceNeg, cE_eq, cE_ne, cE_lt, cE_le, cE_gt, cE_ge, bk, c_pair2 (n := n + 2), Bool.not_true, idx_tup, at0, at1', c_lot (n := n) hB.1, len_tup, decide_eq_false hl, c_within (n := n + 1), decide_eq_true (show (1 : Int) ≤ p.2 ∧ p.2 ≤ 1000000 from hB.2.2)]
  exact ⟨trivial, trivial⟩
def tabO (b : Int) (bl : List (List Int × Int)) : O := .ins "Table" [("boxes", .int b), ("blocks", .tup (bl.map bk))]
def sheO (ms : List Int) : O := .ins "Sheet" [("moduli", .tup (ms.map .int)), ("places", .int (prodI ms))]
def layO (s : Nat) (bl : List (List Int × Int)) : O := .ins "Layout" [("sheet", .obj s), ("kinds", .tup (bl.map bk))]
theorem w_tabi [HF P "is_integer" (F_is_integer cs)] [HF P "is_within" F_is_within] [HF P "is_lot" (F_is_lot cs)] [HF P "is_pair" (F_is_pair cs es)] [HF P "is_block" (F_is_block es g0)] [q : HF P "Table.__init__" (F_Table__init__ cs g1 g2)] {k : Nat} {b : Int} {bl : List (List Int × Int)} (e : h.at_ k = some (.ins "Table" [])) (b1 : 1 ≤ b) (b2 : b ≤ 120) (h0 : bl ≠ []) (h1 : bl.length ≤ 360) (hB : ∀ p ∈ bl, IsBlk b p) :
    WX (callF P (n + 5) "Table.__init__" [.obj k, .int b, .tup (bl.map bk)] h) fun d h' => d = .non ∧ h'.at_ k = some (tabO b bl) ∧ h'.sz = h.sz ∧ Kp [k] h h' := by
  refine WX_call q.look rfl ?_
  show WS (evSs (callF P (n + 4)) (F_Table__init__ cs g1 g2).body [some (.obj k), some (.int b), some (.tup (bl.map bk)), none, none] h) _ _ _
  unfold F_Table__init__
  have l1 : 1 ≤ ((bl.map bk).length : Int) := by
    have := List.length_pos_iff.mpr h0
    rw [List.length_map]
    omega
  have l2 : ((bl.map bk).length : Int) ≤ 360 := by
    rw [List.length_map]
    omega
  simp only [↓evS_for, ↓evX_lc, ↓evS_zret, forB, lcB, Py.wipe, WS_ex, WX_ex, evSs, evS, evX, evXs, evI, evIfs, bindT, bindTs, WS_thenS, WS_bndS, WS_bnnS, WX_bnd, WX_bnn, WX_ok, WX_lift, WS_nx, WS_rt, pro_v, pro_l, pros, List.getElem?_cons_zero, List.getElem?_cons_succ, List.set_cons_zero, List.set_cons_succ, Option.map_some, Option.some.injEq, exists_eq_left', bop_add, bop_sub, bop_mulL, bop_mulR, bop_mulm, bop_mod, bop_fdiv, bop_powS, blt_int, Int.reduceLT, Int.reducePow, Int.reduceLE, Int.reduceNeg, cE_eq, cE_ne, cE_lt, cE_le, cE_gt, cE_ge, c_within (n := n + 2), decide_eq_true (show (1 : Int) ≤ b ∧ b ≤ 120 from ⟨b1, b2⟩), Bool.not_true, isi_tup, len_tup, chk_le l1, chk_le l2, seq_tup, gOf_tup]
  refine ws_for (I := fun i ρ h2 => ∃ o p : Option D, ρ = [some (.obj k), some (.int b), some (.tup (bl.map bk)), o, p] ∧ h2 = h) ⟨none, none, rfl, rfl⟩ (by intro i ρ h' _ _; simp) ?_ ?_
  · rintro i hi ρ h2 ⟨o, p, rfl, rfl⟩
    rw [enum_get hi]
    rw [enum_len, List.length_map] at hi
    simp only [↓evS_for, ↓evX_lc, ↓evS_zret, forB, lcB, Py.wipe, WS_ex, WX_ex, evSs, evS, evX, evXs, evI, evIfs, bindT, bindTs, WS_thenS, WS_bndS, WS_bnnS, WX_bnd, WX_bnn, WX_ok, WX_lift, WS_nx, WS_rt, pro_v, pro_l, pros, List.getElem?_cons_zero, List.getElem?_cons_succ, List.set_cons_zero, List.set_cons_succ, Option.map_some, Option.some.injEq, exists_eq_left', bop_add, bop_sub, bop_mulL, bop_mulR, bop_mulm, bop_mod, bop_fdiv, bop_powS, blt_int, Int.reduceLT, Int.reducePow, Int.reduceLE, Int.reduceNeg, cE_eq, cE_ne, cE_lt, cE_le, cE_gt, cE_ge, getD_bk hi, c_block (n := n) (hB bl[i] (List.getElem_mem hi)), Bool.not_true]
    exact ⟨_, _, rfl, trivial⟩
  · rintro ρ h2 ⟨o, p, rfl, rfl⟩
    simp only [↓evS_for, ↓evX_lc, ↓evS_zret, forB, lcB, Py.wipe, WS_ex, WX_ex, evSs, evS, evX, evXs, evI, evIfs, bindT, bindTs, WS_thenS, WS_bndS, WS_bnnS, WX_bnd, WX_bnn, WX_ok, WX_lift, WS_nx, WS_rt, pro_v, pro_l, pros, List.getElem?_cons_zero, List.getElem?_cons_succ, List.set_cons_zero, List.set_cons_succ, Option.map_some, Option.some.injEq, exists_eq_left', bop_add, bop_sub, bop_mulL, bop_mulR, bop_mulm, bop_mod, bop_fdiv, bop_powS, blt_int, Int.reduceLT, Int.reducePow, Int.reduceLE, Int.reduceNeg, cE_eq, cE_ne, cE_lt, cE_le, cE_gt, cE_ge, e, contains1, and_self, if_true, setF, put_at_same]
    rw [if_pos ⟨trivial, by simp⟩]
    simp only [↓evS_for, ↓evX_lc, ↓evS_zret, forB, lcB, Py.wipe, WS_ex, WX_ex, evSs, evS, evX, evXs, evI, evIfs, bindT, bindTs, WS_thenS, WS_bndS, WS_bnnS, WX_bnd, WX_bnn, WX_ok, WX_lift, WS_nx, WS_rt, pro_v, pro_l, pros, List.getElem?_cons_zero, List.getElem?_cons_succ, List.set_cons_zero, List.set_cons_succ, Option.map_some, Option.some.injEq, exists_eq_left', bop_add, bop_sub, bop_mulL, bop_mulR, bop_mulm, bop_mod, bop_fdiv, bop_powS, blt_int, Int.reduceLT, Int.reducePow, Int.reduceLE, Int.reduceNeg, cE_eq, cE_ne, cE_lt, cE_le, cE_gt, cE_ge, put_at_same, contains1, setF]
    rw [if_pos ⟨trivial, by simp⟩, if_neg (by decide)]
    exact ⟨trivial, by rw [put_at_same]; rfl, rfl, (Kp.put (by simp)).trans (Kp.put (by simp))⟩
/-! ### sheets, layouts -/
def IsMod (ms : List Int) : Prop := 1 ≤ ms.length ∧ ms.length ≤ 3 ∧ (∀ x ∈ ms, 1 ≤ x ∧ x ≤ 120) ∧ prodI ms ≤ 120
theorem w_shei [HF P "is_integer" (F_is_integer cs)] [HF P "is_within" F_is_within] [HF P "product_of" F_product_of] [q : HF P "Sheet.__init__" (F_Sheet__init__ cs g0 g1)] {k : Nat} {ms : List Int} (e : h.at_ k = some (.ins "Sheet" [])) (hm : IsMod ms) :
    WX (callF P (n + 3) "Sheet.__init__" [.obj k, .tup (ms.map .int)] h) fun d h' => d = .non ∧ h'.at_ k = some (sheO ms) ∧ h'.sz = h.sz ∧ Kp [k] h h' := by
  refine WX_call q.look rfl ?_
  show WS (evSs (callF P (n + 2)) (F_Sheet__init__ cs g0 g1).body [some (.obj k), some (.tup (ms.map .int)), none] h) _ _ _
  unfold F_Sheet__init__
  obtain ⟨m1, m2, m3, m5⟩ := hm
  have l1 : 1 ≤ ((ms.map D.int).length : Int) := by
    rw [List.length_map]
    omega
  have l2 : ((ms.map D.int).length : Int) ≤ 3 := by
    rw [List.length_map]
    omega
  have hy : (ms.map fun _ => D.bl true) = List.replicate ms.length (.bl true) := by simp [List.map_const']
  simp only [↓evS_for, ↓evX_lc, ↓evS_zret, forB, lcB, Py.wipe, WS_ex, WX_ex, evSs, evS, evX, evXs, evI, evIfs, bindT, bindTs, WS_thenS, WS_bndS, WS_bnnS, WX_bnd, WX_bnn, WX_ok, WX_lift, WS_nx, WS_rt, pro_v, pro_l, pros, List.getElem?_cons_zero, List.getElem?_cons_succ, List.set_cons_zero, List.set_cons_succ, Option.map_some, Option.some.injEq, exists_eq_left', bop_add, bop_sub, bop_mulL, bop_mulR, bop_mulm, bop_mod, bop_fdiv, bop_powS, blt_int, Int.reduceLT, Int.reducePow, Int.reduceLE, Int.reduceNeg, cE_eq, cE_ne, cE_lt, cE_le, cE_gt, cE_ge, Bool.not_true, isi_tup, len_tup, chk_le l1, chk_le l2, walk_tup]
  refine wx_map (fun _ => D.bl true) (fun x hx => ?_) (by simp) ?_
  · have hb := m3 x hx
    simp only [lcB, evIfs, bindT, bnn_ok, bnd_ok, Py.wipe, evX, evXs, List.set_cons_succ, List.set_cons_zero, List.getElem?_cons_succ, List.getElem?_cons_zero, pros, pro_v, c_within (n := n), decide_eq_true (show (1 : Int) ≤ x ∧ x ≤ 120 from hb)]
  rw [hy]
  simp only [↓evS_for, ↓evX_lc, ↓evS_zret, forB, lcB, Py.wipe, WS_ex, WX_ex, evSs, evS, evX, evXs, evI, evIfs, bindT, bindTs, WS_thenS, WS_bndS, WS_bnnS, WX_bnd, WX_bnn, WX_ok, WX_lift, WS_nx, WS_rt, pro_v, pro_l, pros, List.getElem?_cons_zero, List.getElem?_cons_succ, List.set_cons_zero, List.set_cons_succ, Option.map_some, Option.some.injEq, exists_eq_left', bop_add, bop_sub, bop_mulL, bop_mulR, bop_mulm, bop_mod, bop_fdiv, bop_powS, blt_int, Int.reduceLT, Int.reducePow, Int.reduceLE, Int.reduceNeg, cE_eq, cE_ne, cE_lt, cE_le, cE_gt, cE_ge, all_yes, Bool.not_true, c_prod (n := n + 1) m3, chk_gt m5, e, contains1]
  rw [if_pos ⟨trivial, by simp⟩]
  simp only [↓evS_for, ↓evX_lc, ↓evS_zret, forB, lcB, Py.wipe, WS_ex, WX_ex, evSs, evS, evX, evXs, evI, evIfs, bindT, bindTs, WS_thenS, WS_bndS, WS_bnnS, WX_bnd, WX_bnn, WX_ok, WX_lift, WS_nx, WS_rt, pro_v, pro_l, pros, List.getElem?_cons_zero, List.getElem?_cons_succ, List.set_cons_zero, List.set_cons_succ, Option.map_some, Option.some.injEq, exists_eq_left', bop_add, bop_sub, bop_mulL, bop_mulR, bop_mulm, bop_mod, bop_fdiv, bop_powS, blt_int, Int.reduceLT, Int.reducePow, Int.reduceLE, Int.reduceNeg, cE_eq, cE_ne, cE_lt, cE_le, cE_gt, cE_ge, c_prod (n := n + 1) m3, put_at_same, contains1, setF]
  rw [if_pos ⟨trivial, by simp⟩, if_neg (by decide)]
  exact ⟨trivial, by rw [put_at_same]; rfl, rfl, (Kp.put (by simp)).trans (Kp.put (by simp))⟩
end
end Py


set_option Elab.async false
set_option linter.all false
set_option maxRecDepth 100000
set_option maxHeartbeats 4000000
/-! G2: all lots of so many. -/
namespace Py
open PySem (Str PyData)
/-- one more than the last, 0 for none -/
def nxt (l : List Int) : Int := match l.getLast? with
  | some x => x + 1
  | none => 0
def ext1 (N : Int) (l : List Int) : List (List Int) := (List.range (N - nxt l).toNat).map fun (i : Nat) => l ++ [nxt l + (i : Int)]
/-- all ascending lists of so many numbers below N -/
def chB (N : Int) : Nat → List (List Int)
  | 0 => [[]]
  | k + 1 => (chB N k).flatMap (ext1 N)
theorem nxt_snoc {l : List Int} {x : Int} : nxt (l ++ [x]) = x + 1 := by simp [nxt]
theorem chB_ok {N : Int} (hN : 0 ≤ N) : ∀ {k : Nat} {l : List Int}, l ∈ chB N k → IsLot N l ∧ l.length = k ∧ 0 ≤ nxt l ∧ nxt l ≤ N ∧ ∀ x ∈ l, x < nxt l
  | 0, l, h => by
    simp only [chB, List.mem_singleton] at h
    subst h
    exact ⟨⟨List.Pairwise.nil, by simp⟩, rfl, by simp [nxt], by simpa [nxt] using hN, by simp⟩
  | k + 1, l, h => by
    simp only [chB, List.mem_flatMap] at h
    obtain ⟨m, hm, hl⟩ := h
    obtain ⟨q1, q2, q3, q4, q5⟩ := chB_ok hN hm
    unfold ext1 at hl
    obtain ⟨i, hi, rfl⟩ := List.mem_map.mp hl
    have := List.mem_range.mp hi
    rw [nxt_snoc]
    refine ⟨⟨?_, fun x hx => ?_⟩, by simp [q2], by omega, by omega, fun x hx => ?_⟩
    · rw [List.pairwise_append]
      refine ⟨q1.1, by simp, fun a ha b hb => ?_⟩
      simp at hb
      subst hb
      have := q5 a ha
      omega
    · rcases List.mem_append.mp hx with hx | hx
      · exact q1.2 x hx
      · simp at hx; subst hx; omega
    · rcases List.mem_append.mp hx with hx | hx
      · have := q5 x hx; omega
      · simp at hx; subst hx; omega
def potC (N : Int) (ls : List (List Int)) : Nat := (ls.map fun l => 2 ^ (N - nxt l).toNat).sum
theorem geo (m : Nat) : ((List.range m).map fun i => 2 ^ (m - 1 - i)).sum + 1 = 2 ^ m := by
  induction m with
  | zero => rfl
  | succ m ih =>
    rw [List.range_succ_eq_map, List.map_cons, List.map_map, List.sum_cons]
    have e : ((fun i => 2 ^ (m + 1 - 1 - i)) ∘ Nat.succ) = fun i => 2 ^ (m - 1 - i) := by
      funext i
      show 2 ^ (m + 1 - 1 - (i + 1)) = 2 ^ (m - 1 - i)
      congr 1
      omega
    rw [e, Nat.add_assoc, ih, Nat.pow_succ]
    simp
    omega
theorem pot_ext {N : Int} {l : List Int} : potC N (ext1 N l) ≤ 2 ^ (N - nxt l).toNat := by
  unfold potC ext1
  rw [List.map_map]
  have e : ((fun l => 2 ^ (N - nxt l).toNat) ∘ fun (i : Nat) => l ++ [nxt l + (i : Int)]) = fun i => 2 ^ ((N - nxt l).toNat - 1 - i) := by
    funext i
    show 2 ^ (N - nxt (l ++ [nxt l + (i : Int)])).toNat = _
    rw [nxt_snoc]
    congr 1
    omega
  rw [e]
  have := geo (N - nxt l).toNat
  omega
theorem pot_flat {N : Int} : ∀ ls : List (List Int), potC N (ls.flatMap (ext1 N)) ≤ potC N ls
  | [] => Nat.le_refl _
  | l :: ls => by
    have h1 := pot_flat (N := N) ls
    have h2 := pot_ext (N := N) (l := l)
    unfold potC at h1 h2 ⊢
    rw [List.flatMap_cons, List.map_append, List.sum_append, List.map_cons, List.sum_cons]
    omega
theorem len_pot {N : Int} : ∀ ls : List (List Int), ls.length ≤ potC N ls
  | [] => Nat.zero_le _
  | l :: ls => by
    have h1 := len_pot (N := N) ls
    have h2 : 0 < 2 ^ (N - nxt l).toNat := Nat.pow_pos (by decide)
    unfold potC at h1 ⊢
    rw [List.map_cons, List.sum_cons, List.length_cons]
    omega
theorem pot_chB {N : Int} : ∀ k, potC N (chB N k) ≤ 2 ^ N.toNat
  | 0 => by simp [chB, potC, nxt]
  | k + 1 => Nat.le_trans (pot_flat _) (pot_chB k)
theorem chB_len {N : Int} (k : Nat) : (chB N k).length ≤ 2 ^ N.toNat := Nat.le_trans (len_pot _) (pot_chB k)
theorem flat_take_len {N : Int} {ls : List (List Int)} (i : Nat) : ((ls.take i).flatMap (ext1 N)).length ≤ (ls.flatMap (ext1 N)).length := by
  have e : ls.flatMap (ext1 N) = (ls.take i).flatMap (ext1 N) ++ (ls.drop i).flatMap (ext1 N) := by
    rw [← List.flatMap_append, List.take_append_drop]
  rw [e, List.length_append]
  omega
def tupI (l : List Int) : D := .tup (l.map .int)
theorem at_last {l : List Int} {x : Int} : Py.atI ((l ++ [x]).map D.int) (-1) = some (.int x) := by
  unfold Py.atI Py.ixN
  rw [if_neg (by decide), if_pos (by simp; omega)]
  simp
  have e : (-1 + ((l.length : Int) + 1)).toNat = l.length := by omega
  rw [e, List.getElem?_append_right (by simp)]
  simp
theorem ext_lst {n : Nat} {xs ys : List D} {h : Hd} (e : h.at_ n = some (.lst xs)) (hl : xs.length + ys.length ≤ LINE) : methF "extend" (.v (.obj n)) [.l ys] h = some (.v .non, h.put n (.lst (xs ++ ys))) := by
  unfold methF
  simp only [e, mlst]
  rw [if_pos hl]
theorem walk2 {i j : Int} (h1 : 0 ≤ i) (h2 : i ≤ 1000000) (h3 : 0 ≤ j) (h4 : j ≤ 1000000) : walkRng [.v (.int i), .v (.int j)] = some (rngL i (j - i).toNat) := by
  have : (LINE : Int) = 16777216 := rfl
  unfold walkRng
  exact if_pos (by omega)
theorem walk_lst {n : Nat} {xs : List D} {h : Hd} (e : h.at_ n = some (.lst xs)) : walkSeq (.v (.obj n)) h = some ⟨xs, [(n, .lst xs)]⟩ := by
  unfold walkSeq
  simp only [seqOf, lstOf, e, gOf]
  rfl
theorem comp_rng {lo : Int} {m : Nat} {f : Int → D} {el : D → Hd → Res (Option D)} {h : Hd} (hs : ∀ i : Nat, i < m → el (.int (lo + (i : Int))) h = some (.ok (some (f (lo + (i : Int)))) h)) : compL [] el (rngL lo m) h = some (.ok ((List.range m).map fun (i : Nat) => f (lo + (i : Int))) h) := by
  unfold rngL
  exact comp_map (g := fun (i : Nat) => D.int (lo + (i : Int))) (f := fun (i : Nat) => f (lo + (i : Int))) fun i hi => hs i (List.mem_range.mp hi)
theorem line_big : (1000000 : Nat) ≤ LINE := by decide
theorem ev_nxt {Φ : Calls} {l : List Int} {a b c d f o6 o7 : Option D} {h : Hd} (hl : l.length ≤ 1000) : evX Φ (.ite (.cmp .gt [] (.blt "len" (.cons (.var 5) .nil)) (.cst (.int 0))) (.bin .add (.idx (.var 5) (.neg (.cst (.int 1)))) (.cst (.int 1))) (.cst (.int 0))) [a, b, c, d, f, some (tupI l), o6, o7] h = some (.ok (.v (.int (nxt l))) h) := by
  rcases l.eq_nil_or_concat with rfl | ⟨m, x, rfl⟩
  · simp only [evX, evXs, bnd_ok, List.getElem?_cons_succ, List.getElem?_cons_zero, tupI, List.map_nil, len_tup, lift_some, cE_gt]
    rfl
  · have hg : decide ((0 : Int) < (((m ++ [x]).map D.int).length : Int)) = true := decide_eq_true (by simp)
    simp only [evX, evXs, bnd_ok, List.getElem?_cons_succ, List.getElem?_cons_zero, tupI, List.concat_eq_append, len_tup, lift_some, cE_gt, hg, idx_tup, at_last, Option.map_some, bop_add, nxt_snoc]
section
variable {P : Prog} {cs es : List String} {g0 g1 g2 : String} {n : Nat} {h : Hd}
theorem w_choices [q : HF P "choices_of" F_choices_of] {t : Nat} {ts : List Int} {many : Nat} (et : h.at_ t = some (.lst (ts.map .int))) (lt : t < h.sz) (hN : ts.length ≤ 16) (hm : many ≤ 1000) :
    WX (callF P (n + 1) "choices_of" [.obj t, .int (many : Int)] h) fun d h' => ∃ r, d = .obj r ∧ h.sz ≤ r ∧ r < h'.sz ∧ h'.at_ r = some (.lst ((chB ts.length many).map fun l => tupI (l.map fun i => ts.getD i.toNat 0))) ∧ Kp [] h h' := by
  refine WX_call q.look rfl ?_
  show WS (evSs (callF P n) F_choices_of.body [some (.obj t), some (.int (many : Int)), none, none, none, none, none, none] h) _ _ _
  unfold F_choices_of
  have hL : ∀ k, (chB (ts.length : Int) k).length ≤ 65536 := fun k => by
    have h1 := chB_len (N := (ts.length : Int)) k
    have h2 : 2 ^ ((ts.length : Int)).toNat ≤ 2 ^ 16 := Nat.pow_le_pow_right (by decide) (by omega)
    have : (2 : Nat) ^ 16 = 65536 := by decide
    omega
  have lb := line_big
  have hok : ∀ {k : Nat} {l : List Int}, l ∈ chB (ts.length : Int) k → IsLot (ts.length : Int) l ∧ l.length = k ∧ 0 ≤ nxt l ∧ nxt l ≤ (ts.length : Int) ∧ ∀ x ∈ l, x < nxt l := fun {k l} => chB_ok (N := (ts.length : Int)) (by omega)
  have e0 : (h.new (.lst [D.tup []])).at_ t = some (.lst (ts.map .int)) := by rw [new_at_old lt]; exact et
  simp only [↓evS_for, ↓evX_lc, ↓evS_zret, forB, lcB, Py.wipe, WS_ex, WX_ex, evSs, evS, evX, evXs, evI, evIfs, bindT, bindTs, WS_thenS, WS_bndS, WS_bnnS, WX_bnd, WX_bnn, WX_ok, WX_lift, WS_nx, WS_rt, pro_v, pro_l, pros, List.getElem?_cons_zero, List.getElem?_cons_succ, List.set_cons_zero, List.set_cons_succ, Option.map_some, Option.some.injEq, exists_eq_left', bop_add, bop_sub, bop_mulL, bop_mulR, bop_mulm, bop_mod, bop_fdiv, bop_powS, blt_int, Int.reduceLT, Int.reducePow, Int.reduceLE, Int.reduceNeg, cE_eq, cE_ne, cE_lt, cE_le, cE_gt, cE_ge, walk1 (j := (many : Int)) (by omega) (by omega)]
  refine ws_for (I := fun k ρ h' => ∃ r o3 o4 o5 o6 o7, ρ = [some (.obj t), some (.int (many : Int)), some (.obj r), o3, o4, o5, o6, o7] ∧ h.sz ≤ r ∧ r < h'.sz ∧ h'.at_ r = some (.lst ((chB (ts.length : Int) k).map tupI)) ∧ h'.at_ t = some (.lst (ts.map .int)) ∧ Kp [] h h') ?_ (by intro i ρ h' _ _; simp) ?_ ?_
  · exact ⟨h.sz, none, none, none, none, none, rfl, Nat.le_refl _, by simp, by simp [chB, tupI], e0, Kp.new⟩
  · rintro k hk ρ h1 ⟨r, o3, o4, o5, o6, o7, rfl, r1, r2, er, et1, k1⟩
    rw [rngL_get hk]
    rw [rngL_len] at hk
    have er2 : (h1.new (.lst [])).at_ r = some (.lst ((chB (ts.length : Int) k).map tupI)) := by rw [new_at_old r2]; exact er
    simp only [↓evS_for, ↓evX_lc, ↓evS_zret, forB, lcB, Py.wipe, WS_ex, WX_ex, evSs, evS, evX, evXs, evI, evIfs, bindT, bindTs, WS_thenS, WS_bndS, WS_bnnS, WX_bnd, WX_bnn, WX_ok, WX_lift, WS_nx, WS_rt, pro_v, pro_l, pros, List.getElem?_cons_zero, List.getElem?_cons_succ, List.set_cons_zero, List.set_cons_succ, Option.map_some, Option.some.injEq, exists_eq_left', bop_add, bop_sub, bop_mulL, bop_mulR, bop_mulm, bop_mod, bop_fdiv, bop_powS, blt_int, Int.reduceLT, Int.reducePow, Int.reduceLE, Int.reduceNeg, cE_eq, cE_ne, cE_lt, cE_le, cE_gt, cE_ge, walk_lst er2]
    refine ws_for (I := fun i ρ h2 => ∃ o5 o6 o7, ρ = [some (.obj t), some (.int (many : Int)), some (.obj r), some (.int (0 + (k : Int))), some (.obj h1.sz), o5, o6, o7] ∧ h1.sz < h2.sz ∧ h2.at_ h1.sz = some (.lst ((((chB (ts.length : Int) k).take i).flatMap (ext1 (ts.length : Int))).map tupI)) ∧ h2.at_ r = some (.lst ((chB (ts.length : Int) k).map tupI)) ∧ h2.at_ t = some (.lst (ts.map .int)) ∧ Kp [] h h2) ?_ ?_ ?_ ?_
    · refine ⟨_, _, _, rfl, by simp, by simp, er2, ?_, k1.trans Kp.new⟩
      rw [new_at_old (Nat.lt_of_lt_of_le lt k1.sz)]
      exact et1
    · rintro i ρ h2 _ ⟨o5, o6, o7, rfl, s1, s2, s3, s4, s5⟩
      simp [s3]
    · rintro i hi ρ h2 ⟨o5, o6, o7, rfl, s1, s2, s3, s4, s5⟩
      rw [List.length_map] at hi
      have hg : ((chB (ts.length : Int) k).map tupI)[i]'(by simpa using hi) = tupI (chB (ts.length : Int) k)[i] := by simp
      obtain ⟨q1, q2, q3, q4, q5⟩ := hok (List.getElem_mem hi)
      have qk : ((chB (ts.length : Int) k)[i]).length ≤ 1000 := by omega
      have qc := fun (el : D → Hd → Res (Option D)) => comp_rng (el := el) (lo := nxt (chB (ts.length : Int) k)[i]) (m := ((ts.length : Int) - nxt (chB (ts.length : Int) k)[i]).toNat) (f := fun v => tupI ((chB (ts.length : Int) k)[i] ++ [v])) (h := h2)
      have q6 : (((((chB (ts.length : Int) k).take i).flatMap (ext1 (ts.length : Int))).map tupI).length + ((ext1 (ts.length : Int) (chB (ts.length : Int) k)[i]).map tupI).length ≤ LINE) := by
        have z1 := flat_take_len (N := (ts.length : Int)) (ls := chB (ts.length : Int) k) (i + 1)
        rw [List.take_succ_eq_append_getElem hi, List.flatMap_append, List.length_append] at z1
        have z2 := hL (k + 1)
        simp only [chB] at z2
        simp only [List.flatMap_cons, List.flatMap_nil, List.append_nil] at z1
        rw [List.length_map, List.length_map]
        omega
      have q7 : (List.range ((ts.length : Int) - nxt (chB (ts.length : Int) k)[i]).toNat).map (fun (j : Nat) => tupI ((chB (ts.length : Int) k)[i] ++ [nxt (chB (ts.length : Int) k)[i] + (j : Int)])) = (ext1 (ts.length : Int) (chB (ts.length : Int) k)[i]).map tupI := by
        unfold ext1
        rw [List.map_map]
        rfl
      rw [q7] at qc
      have ty := ty_lst s2
      rw [hg]
      generalize hs : (chB (ts.length : Int) k)[i] = s at *
      simp only [forB, bindT, bnnS_ok, List.set_cons_succ, List.set_cons_zero]
      rw [evSs, WS_thenS, evS, ev_nxt qk]
      simp only [↓evS_for, ↓evX_lc, ↓evS_zret, forB, lcB, Py.wipe, WS_ex, WX_ex, evSs, evS, evX, evXs, evI, evIfs, bindT, bindTs, WS_thenS, WS_bndS, WS_bnnS, WX_bnd, WX_bnn, WX_ok, WX_lift, WS_nx, WS_rt, pro_v, pro_l, pros, List.getElem?_cons_zero, List.getElem?_cons_succ, List.set_cons_zero, List.set_cons_succ, Option.map_some, Option.some.injEq, exists_eq_left', bop_add, bop_sub, bop_mulL, bop_mulR, bop_mulm, bop_mod, bop_fdiv, bop_powS, blt_int, Int.reduceLT, Int.reducePow, Int.reduceLE, Int.reduceNeg, cE_eq, cE_ne, cE_lt, cE_le, cE_gt, cE_ge, ty, and_self, if_true, len_lst s4, List.length_map, walk2 (i := nxt s) (j := (ts.length : Int)) q3 (by omega) (by omega) (by omega), Py.wipe]
      rw [qc _ ?_]
      · simp only [↓evS_for, ↓evX_lc, ↓evS_zret, forB, lcB, Py.wipe, WS_ex, WX_ex, evSs, evS, evX, evXs, evI, evIfs, bindT, bindTs, WS_thenS, WS_bndS, WS_bnnS, WX_bnd, WX_bnn, WX_ok, WX_lift, WS_nx, WS_rt, pro_v, pro_l, pros, List.getElem?_cons_zero, List.getElem?_cons_succ, List.set_cons_zero, List.set_cons_succ, Option.map_some, Option.some.injEq, exists_eq_left', bop_add, bop_sub, bop_mulL, bop_mulR, bop_mulm, bop_mod, bop_fdiv, bop_powS, blt_int, Int.reduceLT, Int.reducePow, Int.reduceLE, Int.reduceNeg, cE_eq, cE_ne, cE_lt, cE_le, cE_gt, cE_ge, ext_lst s2 q6]
        refine ⟨_, _, _, rfl, s1, ?_, ?_, ?_, s5.putn k1.sz⟩
        · rw [put_at_same, List.take_succ_eq_append_getElem hi, List.flatMap_append, List.map_append, hs]
          simp
        · rw [put_at_ne (by omega)]; exact s3
        · rw [put_at_ne (by have := k1.sz; omega)]; exact s4
      · intro j hj
        have hl : ((s.map D.int).length + [D.int (nxt s + (j : Int))].length) ≤ LINE := by simp; omega
        simp only [lcB, evIfs, bindT, bindTs, bnn_ok, bnd_ok, Py.wipe, evX, evXs, List.set_cons_succ, List.set_cons_zero, List.getElem?_cons_succ, List.getElem?_cons_zero, pros, pro_v, pro_l, lift_some, Option.map_some, bop_add, bop_sub, bop_mod, bop_fdiv, bop_mulL, bop_mulR, blt_int, Bool.not_true, Bool.not_false, cE_eq, cE_ne, cE_lt, cE_le, cE_gt, cE_ge, tupI, bop_addt hl, List.map_append, List.map_cons, List.map_nil]
    · rintro ρ h2 ⟨o5, o6, o7, rfl, s1, s2, s3, s4, s5⟩
      simp only [↓evS_for, ↓evX_lc, ↓evS_zret, forB, lcB, Py.wipe, WS_ex, WX_ex, evSs, evS, evX, evXs, evI, evIfs, bindT, bindTs, WS_thenS, WS_bndS, WS_bnnS, WX_bnd, WX_bnn, WX_ok, WX_lift, WS_nx, WS_rt, pro_v, pro_l, pros, List.getElem?_cons_zero, List.getElem?_cons_succ, List.set_cons_zero, List.set_cons_succ, Option.map_some, Option.some.injEq, exists_eq_left', bop_add, bop_sub, bop_mulL, bop_mulR, bop_mulm, bop_mod, bop_fdiv, bop_powS, blt_int, Int.reduceLT, Int.reducePow, Int.reduceLE, Int.reduceNeg, cE_eq, cE_ne, cE_lt, cE_le, cE_gt, cE_ge]
      rw [List.length_map, List.take_length] at s2
      exact ⟨h1.sz, _, _, _, _, _, rfl, by have := k1.sz; omega, s1, s2, s4, s5⟩
  · rintro ρ h1 ⟨r, o3, o4, o5, o6, o7, rfl, r1, r2, er, et1, k1⟩
    rw [rngL_len, Int.toNat_natCast] at er
    simp only [↓evS_for, ↓evX_lc, ↓evS_zret, forB, lcB, Py.wipe, WS_ex, WX_ex, evSs, evS, evX, evXs, evI, evIfs, bindT, bindTs, WS_thenS, WS_bndS, WS_bnnS, WX_bnd, WX_bnn, WX_ok, WX_lift, WS_nx, WS_rt, pro_v, pro_l, pros, List.getElem?_cons_zero, List.getElem?_cons_succ, List.set_cons_zero, List.set_cons_succ, Option.map_some, Option.some.injEq, exists_eq_left', bop_add, bop_sub, bop_mulL, bop_mulR, bop_mulm, bop_mod, bop_fdiv, bop_powS, blt_int, Int.reduceLT, Int.reducePow, Int.reduceLE, Int.reduceNeg, cE_eq, cE_ne, cE_lt, cE_le, cE_gt, cE_ge, walk_lst er]
    refine wx_map (fun l => tupI (l.map fun i => ts.getD i.toNat 0)) (fun l hl => ?_) (by simp [er]) ?_
    · obtain ⟨q1, q2, q3, q4, q5⟩ := hok hl
      have hc : ∀ el : D → Hd → Res (Option D), (∀ x ∈ l, el (.int x) h1 = some (.ok (some (.int (ts.getD x.toNat 0))) h1)) → compL [] el (l.map D.int) h1 = some (.ok (l.map fun x => .int (ts.getD x.toNat 0)) h1) := fun el hs => comp_map (g := D.int) hs
      simp only [evX_lc, lcB, evIfs, bindT, bindTs, bnn_ok, bnd_ok, Py.wipe, evX, evXs, List.set_cons_succ, List.set_cons_zero, List.getElem?_cons_succ, List.getElem?_cons_zero, pros, pro_v, pro_l, lift_some, Option.map_some, bop_add, bop_sub, bop_mod, bop_fdiv, bop_mulL, bop_mulR, blt_int, Bool.not_true, Bool.not_false, cE_eq, cE_ne, cE_lt, cE_le, cE_gt, cE_ge, tupI, evI, walk_tup]
      rw [hc _ ?_]
      · simp only [bnn_ok, bnd_ok, tup_tmp, lift_some, pros, pro_v, List.map_map]
        rfl
      · intro x hx
        have hb := q1.2 x hx
        obtain ⟨m, rfl⟩ : ∃ m : Nat, x = (m : Int) := ⟨x.toNat, by omega⟩
        have ei : idxF (.v (.obj t)) (.v (.int (m : Int))) h1 = some (.int (ts.getD ((m : Int)).toNat 0)) := by
          rw [idx_lst et1]
          have hlt : m < ts.length := by omega
          rw [at_nat (map_get ts m hlt)]
          simp [List.getD, hlt]
        simp only [lcB, evIfs, bindT, bindTs, bnn_ok, bnd_ok, Py.wipe, evX, evXs, List.set_cons_succ, List.set_cons_zero, List.getElem?_cons_succ, List.getElem?_cons_zero, pros, pro_v, pro_l, lift_some, Option.map_some, bop_add, bop_sub, bop_mod, bop_fdiv, bop_mulL, bop_mulR, blt_int, Bool.not_true, Bool.not_false, cE_eq, cE_ne, cE_lt, cE_le, cE_gt, cE_ge, ei]
    · exact ⟨h1.sz, rfl, k1.sz, Nat.lt_succ_self _, new_at_new, k1.trans Kp.new⟩
end
end Py


set_option Elab.async false
set_option linter.all false
set_option maxRecDepth 100000
set_option maxHeartbeats 4000000
/-! G3: what is lost for good. -/
namespace Py
open PySem (Str PyData)
/-- weight_gone: table, loss, number -/
def F_weight_gone : Fn := ⟨2, 3, (.cons (.ret (.blt "sum" (.cons (.lc (.nm 2) [2] (.seq (.call "gone_of" (.cons (.var 0) (.cons (.var 1) .nil)))) .nil (.idx (.idx (.fld (.var 0) "blocks" ["Table"]) (.var 2)) (.cst (.int 1)))) .nil))) .nil)⟩
/-- worst_by: table, many, found, loss, weight -/
def F_worst_by (g0 : String) : Fn := ⟨2, 5, (.cons (.ex (.call "check_number" (.cons (.var 1) (.cons (.cst (.int 0)) (.cons (.fld (.var 0) "boxes" ["Table"]) .nil))))) (.cons (.ex (.call "check_many" (.cons (.fld (.var 0) "boxes" ["Table"]) (.cons (.gc g0 (.int 14)) .nil)))) (.cons (.asg (.nm 2) (.cst .non)) (.cons (.forr (.nm 3) (.seq (.call "choices_of" (.cons (.itb "list" (.rng (.cons (.fld (.var 0) "boxes" ["Table"]) .nil))) (.cons (.var 1) .nil)))) (.cons (.asg (.nm 4) (.call "weight_gone" (.cons (.var 0) (.cons (.var 3) .nil)))) (.cons (.ifs (.bor (.cmp .iss [] (.var 2) (.cst .non)) (.cmp .gt [] (.var 4) (.idx (.var 2) (.cst (.int 0))))) (.cons (.asg (.nm 2) (.tup (.cons (.var 4) (.cons (.var 3) .nil)))) .nil) .nil) .nil))) (.cons (.ret (.var 2)) .nil)))))⟩
/-- most_gone: table, many -/
def F_most_gone : Fn := ⟨2, 2, (.cons (.ret (.idx (.call "worst_by" (.cons (.var 0) (.cons (.var 1) .nil))) (.cst (.int 0)))) .nil)⟩
/-- worst_gone: table, many -/
def F_worst_gone : Fn := ⟨2, 2, (.cons (.ret (.idx (.call "worst_by" (.cons (.var 0) (.cons (.var 1) .nil))) (.cst (.int 1)))) .nil)⟩
/-- table_of: layout -/
def F_table_of : Fn := ⟨1, 1, (.cons (.ret (.call "table_by" (.cons (.var 0) .nil))) .nil)⟩

theorem nin_tup {Φ : Calls} {fs : List Int} {v : Int} {h : Hd} : cmpE Φ .nin [] (.v (.int v)) (.v (.tup (fs.map .int))) h = some (.ok (!decide (v ∈ fs)) h) := by
  rw [cmpE_of rfl]
  unfold cmpop cmpop.inOp
  simp only [dctOf, seqOf, toP, toPs_ints]
  rw [if_pos ⟨shaped_int v, shaped_ints fs⟩, any_eqv]
  rfl
theorem inn_tup {Φ : Calls} {fs : List Int} {v : Int} {h : Hd} : cmpE Φ .inn [] (.v (.int v)) (.v (.tup (fs.map .int))) h = some (.ok (decide (v ∈ fs)) h) := by
  rw [cmpE_of rfl]
  unfold cmpop cmpop.inOp
  simp only [dctOf, seqOf, toP, toPs_ints]
  rw [if_pos ⟨shaped_int v, shaped_ints fs⟩, any_eqv]
  rfl
theorem fm_ite {α β : Type} (xs : List α) (p : α → Bool) (f : α → β) : (xs.filterMap fun x => if p x then some (f x) else none) = (xs.filter p).map f := by
  induction xs with
  | nil => rfl
  | cons x r ih =>
    rw [List.filterMap_cons, List.filter_cons]
    cases p x
    · simpa using ih
    · simp [ih]
section
variable {P : Prog} {cs es : List String} {g0 g1 g2 : String} {n : Nat} {h : Hd}
def leftL (lot loss : List Int) : List Int := lot.filter fun b => !decide (b ∈ loss)
theorem c_left [q : HF P "left_of" F_left_of] {lot loss : List Int} : callF P (n + 1) "left_of" [.tup (lot.map .int), .tup (loss.map .int)] h = some (.ok (.tup ((leftL lot loss).map .int)) h) := by
  refine call_eq q.look rfl ?_
  show WS (evSs (callF P n) F_left_of.body [some (.tup (lot.map .int)), some (.tup (loss.map .int)), none] h) _ _
  unfold F_left_of
  simp only [↓evS_for, ↓evX_lc, ↓evS_zret, forB, lcB, Py.wipe, WS_ex, WX_ex, evSs, evS, evX, evXs, evI, evIfs, bindT, bindTs, WS_thenS, WS_bndS, WS_bnnS, WX_bnd, WX_bnn, WX_ok, WX_lift, WS_nx, WS_rt, pro_v, pro_l, pros, List.getElem?_cons_zero, List.getElem?_cons_succ, List.set_cons_zero, List.set_cons_succ, Option.map_some, Option.some.injEq, exists_eq_left', bop_add, bop_sub, bop_mulL, bop_mulR, bop_mulm, bop_mod, bop_fdiv, bop_powS, blt_int, Int.reduceLT, Int.reducePow, Int.reduceLE, Int.reduceNeg, cE_eq, cE_ne, cE_lt, cE_le, cE_gt, cE_ge, walk_tup]
  refine wx_fm (fun b => if !decide (b ∈ loss) then some (.int b) else none) (fun b hb => ?_) (by simp) ?_
  · simp only [lcB, evIfs, bindT, bindTs, bnn_ok, bnd_ok, Py.wipe, evX, evXs, List.set_cons_succ, List.set_cons_zero, List.getElem?_cons_succ, List.getElem?_cons_zero, pros, pro_v, pro_l, lift_some, Option.map_some, bop_add, bop_sub, bop_mod, bop_fdiv, bop_mulL, bop_mulR, blt_int, Bool.not_true, Bool.not_false, cE_eq, cE_ne, cE_lt, cE_le, cE_gt, cE_ge, nin_tup]
    cases decide (b ∈ loss) <;> rfl
  · rw [fm_ite]
    simp only [tup_tmp, Option.some.injEq, exists_eq_left', pros, pro_v, ↓evS_for, ↓evX_lc, ↓evS_zret, forB, lcB, Py.wipe, WS_ex, WX_ex, evSs, evS, evX, evXs, evI, evIfs, bindT, bindTs, WS_thenS, WS_bndS, WS_bnnS, WX_bnd, WX_bnn, WX_ok, WX_lift, WS_nx, WS_rt, pro_v, pro_l, pros, List.getElem?_cons_zero, List.getElem?_cons_succ, List.set_cons_zero, List.set_cons_succ, Option.map_some, Option.some.injEq, exists_eq_left', bop_add, bop_sub, bop_mulL, bop_mulR, bop_mulm, bop_mod, bop_fdiv, bop_powS, blt_int, Int.reduceLT, Int.reducePow, Int.reduceLE, Int.reduceNeg, cE_eq, cE_ne, cE_lt, cE_le, cE_gt, cE_ge]
    exact ⟨rfl, trivial⟩
/-- all boxes of a block are lost -/
def goneB (loss : List Int) (p : List Int × Int) : Bool := p.1.all fun b => decide (b ∈ loss)
def goneL (bl : List (List Int × Int)) (loss : List Int) : List Int := ((List.range bl.length).filter fun i => goneB loss (bl.getD i ([], 0))).map fun (i : Nat) => (i : Int)
theorem left_nil {lot loss : List Int} : decide (((leftL lot loss).length : Int) = 0) = lot.all fun b => decide (b ∈ loss) := by
  rw [Bool.eq_iff_iff]
  simp [leftL]
theorem c_gone [HF P "left_of" F_left_of] [q : HF P "gone_of" (F_gone_of es)] {t : Nat} {b : Int} {bl : List (List Int × Int)} {loss : List Int} (et : h.at_ t = some (tabO b bl)) : callF P (n + 2) "gone_of" [.obj t, .tup (loss.map .int)] h = some (.ok (.tup ((goneL bl loss).map .int)) h) := by
  refine call_eq q.look rfl ?_
  show WS (evSs (callF P (n + 1)) (F_gone_of es).body [some (.obj t), some (.tup (loss.map .int)), none, none, none] h) _ _
  unfold F_gone_of
  have ef : fldF ["Table"] "blocks" (.v (.obj t)) h = some (.tup (bl.map bk)) := fld_of et rfl
  simp only [↓evS_for, ↓evX_lc, ↓evS_zret, forB, lcB, Py.wipe, WS_ex, WX_ex, evSs, evS, evX, evXs, evI, evIfs, bindT, bindTs, WS_thenS, WS_bndS, WS_bnnS, WX_bnd, WX_bnn, WX_ok, WX_lift, WS_nx, WS_rt, pro_v, pro_l, pros, List.getElem?_cons_zero, List.getElem?_cons_succ, List.set_cons_zero, List.set_cons_succ, Option.map_some, Option.some.injEq, exists_eq_left', bop_add, bop_sub, bop_mulL, bop_mulR, bop_mulm, bop_mod, bop_fdiv, bop_powS, blt_int, Int.reduceLT, Int.reducePow, Int.reduceLE, Int.reduceNeg, cE_eq, cE_ne, cE_lt, cE_le, cE_gt, cE_ge, ef, seq_tup, gOf_tup, enumL]
  refine wx_fm (fun i => if goneB loss (bl.getD i ([], 0)) then some (.int (i : Int)) else none) (fun i hi => ?_) (by simp) ?_
  · have hi' : i < bl.length := by simpa using hi
    have e1 : (bl.map bk).getD i .non = bk (bl.getD i ([], 0)) := by simp [hi']
    simp only [lcB, evIfs, bindT, bindTs, bnn_ok, bnd_ok, Py.wipe, evX, evXs, List.set_cons_succ, List.set_cons_zero, List.getElem?_cons_succ, List.getElem?_cons_zero, pros, pro_v, pro_l, lift_some, Option.map_some, bop_add, bop_sub, bop_mod, bop_fdiv, bop_mulL, bop_mulR, blt_int, Bool.not_true, Bool.not_false, cE_eq, cE_ne, cE_lt, cE_le, cE_gt, cE_ge, e1, bk, c_left, len_tup, List.length_map, left_nil]
    unfold goneB
    cases (bl.getD i ([], 0)).1.all fun b => decide (b ∈ loss) <;> rfl
  · rw [fm_ite, List.length_map]
    simp only [tup_tmp, Option.some.injEq, exists_eq_left', pros, pro_v, ↓evS_for, ↓evX_lc, ↓evS_zret, forB, lcB, Py.wipe, WS_ex, WX_ex, evSs, evS, evX, evXs, evI, evIfs, bindT, bindTs, WS_thenS, WS_bndS, WS_bnnS, WX_bnd, WX_bnn, WX_ok, WX_lift, WS_nx, WS_rt, pro_v, pro_l, pros, List.getElem?_cons_zero, List.getElem?_cons_succ, List.set_cons_zero, List.set_cons_succ, Option.map_some, Option.some.injEq, exists_eq_left', bop_add, bop_sub, bop_mulL, bop_mulR, bop_mulm, bop_mod, bop_fdiv, bop_powS, blt_int, Int.reduceLT, Int.reducePow, Int.reduceLE, Int.reduceNeg, cE_eq, cE_ne, cE_lt, cE_le, cE_gt, cE_ge]
    unfold goneL
    rw [List.map_map]
    exact ⟨rfl, trivial⟩
def wgone (bl : List (List Int × Int)) (loss : List Int) : Int := ((bl.filter (goneB loss)).map (·.2)).sum
theorem range_fm {α : Type} (d : α) (p : α → Bool) : ∀ l : List α, ((List.range l.length).filter fun i => p (l.getD i d)).map (fun i => l.getD i d) = l.filter p
  | [] => rfl
  | x :: r => by
    rw [List.length_cons, List.range_succ_eq_map, List.filter_cons, List.filter_map, List.filter_cons]
    have e := range_fm d p r
    have e2 : ((fun i => p ((x :: r).getD i d)) ∘ Nat.succ) = fun i => p (r.getD i d) := rfl
    have e3 : ((fun i => (x :: r).getD i d) ∘ Nat.succ) = fun i => r.getD i d := rfl
    rw [e2]
    show List.map _ (if p x = true then _ else _) = if p x = true then _ else _
    cases p x
    · simp only [Bool.false_eq_true, if_false, List.map_map, e3]
      exact e
    · simp only [if_true, List.map_cons, List.map_map, e3]
      rw [e]
      rfl
theorem c_wgone [HF P "left_of" F_left_of] [HF P "gone_of" (F_gone_of es)] [q : HF P "weight_gone" F_weight_gone] {t : Nat} {b : Int} {bl : List (List Int × Int)} {loss : List Int} (et : h.at_ t = some (tabO b bl)) : callF P (n + 3) "weight_gone" [.obj t, .tup (loss.map .int)] h = some (.ok (.int (wgone bl loss)) h) := by
  refine call_eq q.look rfl ?_
  show WS (evSs (callF P (n + 2)) F_weight_gone.body [some (.obj t), some (.tup (loss.map .int)), none] h) _ _
  unfold F_weight_gone
  have ef : fldF ["Table"] "blocks" (.v (.obj t)) h = some (.tup (bl.map bk)) := fld_of et rfl
  simp only [↓evS_for, ↓evX_lc, ↓evS_zret, forB, lcB, Py.wipe, WS_ex, WX_ex, evSs, evS, evX, evXs, evI, evIfs, bindT, bindTs, WS_thenS, WS_bndS, WS_bnnS, WX_bnd, WX_bnn, WX_ok, WX_lift, WS_nx, WS_rt, pro_v, pro_l, pros, List.getElem?_cons_zero, List.getElem?_cons_succ, List.set_cons_zero, List.set_cons_succ, Option.map_some, Option.some.injEq, exists_eq_left', bop_add, bop_sub, bop_mulL, bop_mulR, bop_mulm, bop_mod, bop_fdiv, bop_powS, blt_int, Int.reduceLT, Int.reducePow, Int.reduceLE, Int.reduceNeg, cE_eq, cE_ne, cE_lt, cE_le, cE_gt, cE_ge, c_gone (es := es) (n := n) et, walk_tup, goneL, List.map_map]
  refine wx_map (g := D.int ∘ fun (i : Nat) => (i : Int)) (fun i => .int (bl.getD i ([], 0)).2) (fun i hi => ?_) (by simp) ?_
  · have hi' : i < bl.length := by
      have := (List.mem_filter.mp hi).1
      simpa using this
    have e1 : idxF (.v (.tup (bl.map bk))) (.v (.int (i : Int))) h = some (bk (bl.getD i ([], 0))) := by
      rw [idx_tup, at_nat (i := i) (x := bk (bl.getD i ([], 0))) (by simp [hi'])]
    simp only [lcB, evIfs, bindT, bindTs, bnn_ok, bnd_ok, Py.wipe, evX, evXs, List.set_cons_succ, List.set_cons_zero, List.getElem?_cons_succ, List.getElem?_cons_zero, pros, pro_v, pro_l, lift_some, Option.map_some, bop_add, bop_sub, bop_mod, bop_fdiv, bop_mulL, bop_mulR, blt_int, Bool.not_true, Bool.not_false, cE_eq, cE_ne, cE_lt, cE_le, cE_gt, cE_ge, Function.comp_apply, ef, e1, bk, idx_tup, at1']
  · have e := range_fm (([], 0) : List Int × Int) (goneB loss) bl
    have e2 : (((List.range bl.length).filter fun i => goneB loss (bl.getD i ([], 0))).map fun i => D.int (bl.getD i ([], 0)).2) = ((bl.filter (goneB loss)).map (·.2)).map .int := by
      rw [← e, List.map_map, List.map_map]
      rfl
    rw [e2]
    simp only [sum_tmp, Option.some.injEq, exists_eq_left', pros, pro_v, ↓evS_for, ↓evX_lc, ↓evS_zret, forB, lcB, Py.wipe, WS_ex, WX_ex, evSs, evS, evX, evXs, evI, evIfs, bindT, bindTs, WS_thenS, WS_bndS, WS_bnnS, WX_bnd, WX_bnn, WX_ok, WX_lift, WS_nx, WS_rt, pro_v, pro_l, pros, List.getElem?_cons_zero, List.getElem?_cons_succ, List.set_cons_zero, List.set_cons_succ, Option.map_some, Option.some.injEq, exists_eq_left', bop_add, bop_sub, bop_mulL, bop_mulR, bop_mulm, bop_mod, bop_fdiv, bop_powS, blt_int, Int.reduceLT, Int.reducePow, Int.reduceLE, Int.reduceNeg, cE_eq, cE_ne, cE_lt, cE_le, cE_gt, cE_ge]
    exact ⟨rfl, trivial⟩
/-- the first of the greatest -/
def topW (w : List Int → Int) : List (List Int) → Option (Int × List Int)
  | [] => none
  | l :: ls => some (ls.foldl (fun a m => if a.1 < w m then (w m, m) else a) (w l, l))
def stepW (w : List Int → Int) (o : Option (Int × List Int)) (m : List Int) : Option (Int × List Int) := match o with
  | none => some (w m, m)
  | some a => some (if a.1 < w m then (w m, m) else a)
theorem topW_eq (w : List Int → Int) (ls : List (List Int)) : topW w ls = ls.foldl (stepW w) none := by
  cases ls with
  | nil => rfl
  | cons l ls =>
    show some _ = ls.foldl (stepW w) (some (w l, l))
    generalize (w l, l) = a
    induction ls generalizing a with
    | nil => rfl
    | cons m ls ih => exact ih _
def optW : Option (Int × List Int) → D
  | none => .non
  | some (v, l) => .tup [.int v, tupI l]
theorem iss_non {Φ : Calls} {cs : List String} {h : Hd} : cmpE Φ .iss cs (.v .non) (.v .non) h = some (.ok true h) := by
  rw [cmpE_of rfl]
  rfl
theorem iss_tup {Φ : Calls} {cs : List String} {xs : List D} {h : Hd} : cmpE Φ .iss cs (.v (.tup xs)) (.v .non) h = some (.ok false h) := by
  rw [cmpE_of rfl]
  rfl
def bstp (i : Nat) (o : Option (Int × List Int)) (w : Int) (l : List Int) (ρ : Env) : Env := match o with
  | none => ρ.set i (some (.tup [.int w, tupI l]))
  | some a => if a.1 < w then ρ.set i (some (.tup [.int w, tupI l])) else ρ
/-- if found is None or w > found[0]: found = (w, l) -/
theorem best_step {Φ : Calls} {i j k : Nat} {ρ : Env} {h : Hd} {o : Option (Int × List Int)} {w : Int} {l : List Int} (hi : ρ[i]? = some (some (optW o))) (hj : ρ[j]? = some (some (.int w))) (hk : ρ[k]? = some (some (tupI l))) :
    evS Φ (.ifs (.bor (.cmp .iss [] (.var i) (.cst .non)) (.cmp .gt [] (.var j) (.idx (.var i) (.cst (.int 0))))) (.cons (.asg (.nm i) (.tup (.cons (.var j) (.cons (.var k) .nil)))) .nil) .nil) ρ h = some (.nx (bstp i o w l ρ) h) := by
  unfold bstp
  cases o with
  | none =>
    simp only [evS, evX, hi, Option.map_some, optW, bnd_ok, iss_non, evSs, evXs, hj, hk, bndS, pros, pro_v, lift, bindT, bnnS, thenS]
  | some a =>
    obtain ⟨v, m⟩ := a
    simp only [evS, evX, hi, Option.map_some, optW, bnd_ok, iss_tup, hj, cE_gt, idx_tup, at0, lift_some]
    by_cases hv : v < w
    · rw [decide_eq_true hv, if_pos hv]
      simp only [evSs, evS, evX, evXs, hj, hk, bndS, pros, pro_v, lift, bindT, bnnS, thenS, bnd_ok, Option.map_some, lift_some]
    · rw [decide_eq_false hv, if_neg hv]
      simp only [evSs, bndS]
end
end Py


set_option Elab.async false
set_option linter.all false
set_option maxRecDepth 100000
set_option maxHeartbeats 4000000
/-! G3b: the worst loss. -/
namespace Py
open PySem (Str PyData)
theorem getD_rng {b : Int} {x : Int} (h0 : 0 ≤ x) (h1 : x < b) : ((List.range b.toNat).map fun (i : Nat) => (0 : Int) + (i : Int)).getD x.toNat 0 = x := by
  have h2 : x.toNat < b.toNat := by omega
  rw [List.getD_eq_getElem?_getD, List.getElem?_map, List.getElem?_range h2]
  simp
  omega
theorem map_rng {b : Int} {l : List Int} (hL : IsLot b l) : (l.map fun i => ((List.range b.toNat).map fun (i : Nat) => (0 : Int) + (i : Int)).getD i.toNat 0) = l := by
  have : (l.map fun i => ((List.range b.toNat).map fun (i : Nat) => (0 : Int) + (i : Int)).getD i.toNat 0) = l.map id := List.map_congr_left fun x hx => getD_rng (hL.2 x hx).1 (hL.2 x hx).2
  rw [this, List.map_id]
theorem rngL_map {m : Nat} {lo : Int} : rngL lo m = ((List.range m).map fun (i : Nat) => lo + (i : Int)).map .int := by
  unfold rngL
  rw [List.map_map]
  rfl
section
variable {P : Prog} {cs es : List String} {g0 g1 g2 : String} {n : Nat} {h : Hd}
theorem w_worst [HF P "is_integer" (F_is_integer cs)] [HF P "is_within" F_is_within] [HF P "check_number" F_check_number] [HF P "check_many" F_check_many] [HF P "choices_of" F_choices_of] [HF P "left_of" F_left_of] [HF P "gone_of" (F_gone_of es)] [HF P "weight_gone" F_weight_gone] [q : HF P "worst_by" (F_worst_by g0)]
    {t : Nat} {b : Int} {bl : List (List Int × Int)} {many : Nat} (et : h.at_ t = some (tabO b bl)) (lt : t < h.sz) (b1 : 1 ≤ b) (b2 : b ≤ 14) (hm : (many : Int) ≤ b) :
    WX (callF P (n + 4) "worst_by" [.obj t, .int (many : Int)] h) fun d h' => d = optW (topW (wgone bl) (chB b many)) ∧ Kp [] h h' := by
  refine WX_call q.look rfl ?_
  show WS (evSs (callF P (n + 3)) (F_worst_by g0).body [some (.obj t), some (.int (many : Int)), none, none, none] h) _ _ _
  unfold F_worst_by
  have ef : fldF ["Table"] "boxes" (.v (.obj t)) h = some (.int b) := fld_of et rfl
  have eL : ((List.range b.toNat).map fun (i : Nat) => (0 : Int) + (i : Int)).length = b.toNat := by simp
  have eLi : ((b.toNat : Nat) : Int) = b := by omega
  simp only [↓evS_for, ↓evX_lc, ↓evS_zret, forB, lcB, Py.wipe, WS_ex, WX_ex, evSs, evS, evX, evXs, evI, evIfs, bindT, bindTs, WS_thenS, WS_bndS, WS_bnnS, WX_bnd, WX_bnn, WX_ok, WX_lift, WS_nx, WS_rt, pro_v, pro_l, pros, List.getElem?_cons_zero, List.getElem?_cons_succ, List.set_cons_zero, List.set_cons_succ, Option.map_some, Option.some.injEq, exists_eq_left', bop_add, bop_sub, bop_mulL, bop_mulR, bop_mulm, bop_mod, bop_fdiv, bop_powS, blt_int, Int.reduceLT, Int.reducePow, Int.reduceLE, Int.reduceNeg, cE_eq, cE_ne, cE_lt, cE_le, cE_gt, cE_ge, ef, c_number (n := n) (h := h) (show (0 : Int) ≤ (many : Int) by omega) hm, c_many (n := n + 2) (h := h) b2, walk1 (show 0 ≤ b by omega) (show b ≤ 16777216 by omega), rngL_map]
  have e0 : (h.new (.lst (((List.range b.toNat).map fun (i : Nat) => (0 : Int) + (i : Int)).map .int))).at_ h.sz = some (.lst (((List.range b.toNat).map fun (i : Nat) => (0 : Int) + (i : Int)).map .int)) := new_at_new
  refine (w_choices (n := n + 2) e0 (Nat.lt_succ_self _) (by rw [eL]; omega) (by omega)).monoE ?_ (fun _ _ _ z => z.elim)
  rintro d h1 ⟨r, rfl, r1, r2, er, k1⟩
  rw [eL, eLi] at er
  have eC : ((chB b many).map fun l => tupI (l.map fun i => ((List.range b.toNat).map fun (i : Nat) => (0 : Int) + (i : Int)).getD i.toNat 0)) = (chB b many).map tupI := List.map_congr_left fun l hl => by
    have := (chB_ok (show 0 ≤ b by omega) hl).1
    rw [map_rng this]
  rw [eC] at er
  have k2 : Kp [] h h1 := Kp.new.trans k1
  have et1 : h1.at_ t = some (tabO b bl) := by rw [k2.at_ t lt (by simp)]; exact et
  simp only [↓evS_for, ↓evX_lc, ↓evS_zret, forB, lcB, Py.wipe, WS_ex, WX_ex, evSs, evS, evX, evXs, evI, evIfs, bindT, bindTs, WS_thenS, WS_bndS, WS_bnnS, WX_bnd, WX_bnn, WX_ok, WX_lift, WS_nx, WS_rt, pro_v, pro_l, pros, List.getElem?_cons_zero, List.getElem?_cons_succ, List.set_cons_zero, List.set_cons_succ, Option.map_some, Option.some.injEq, exists_eq_left', bop_add, bop_sub, bop_mulL, bop_mulR, bop_mulm, bop_mod, bop_fdiv, bop_powS, blt_int, Int.reduceLT, Int.reducePow, Int.reduceLE, Int.reduceNeg, cE_eq, cE_ne, cE_lt, cE_le, cE_gt, cE_ge, walk_lst er]
  refine ws_for (I := fun i ρ h2 => h2 = h1 ∧ ∃ o3 o4, ρ = [some (.obj t), some (.int (many : Int)), some (optW (((chB b many).take i).foldl (stepW (wgone bl)) none)), o3, o4]) ⟨rfl, none, none, rfl⟩ (by rintro i ρ h' _ ⟨rfl, _⟩; simp [er]) ?_ ?_
  · rintro i hi ρ h2 ⟨rfl, o3, o4, rfl⟩
    rw [List.length_map] at hi
    have hg : ((chB b many).map tupI)[i]'(by simpa using hi) = .tup ((chB b many)[i].map .int) := by simp [tupI]
    rw [hg]
    simp only [forB, bindT, bnnS_ok, List.set_cons_succ, List.set_cons_zero]
    rw [evSs, WS_thenS, evS]
    simp only [↓evX_lc, ↓evS_zret, forB, lcB, Py.wipe, WS_ex, WX_ex, evX, evXs, evI, evIfs, bindT, bindTs, WS_thenS, WS_bndS, WS_bnnS, WX_bnd, WX_bnn, WX_ok, WX_lift, WS_nx, WS_rt, pro_v, pro_l, pros, List.getElem?_cons_zero, List.getElem?_cons_succ, List.set_cons_zero, List.set_cons_succ, Option.map_some, Option.some.injEq, exists_eq_left', bop_add, bop_sub, bop_mulL, bop_mulR, bop_mulm, bop_mod, bop_fdiv, bop_powS, blt_int, Int.reduceLT, Int.reducePow, Int.reduceLE, Int.reduceNeg, cE_eq, cE_ne, cE_lt, cE_le, cE_gt, cE_ge, c_wgone (es := es) (n := n) et1]
    rw [evSs, WS_thenS, best_step (o := ((chB b many).take i).foldl (stepW (wgone bl)) none) (w := wgone bl (chB b many)[i]) (l := (chB b many)[i]) rfl rfl rfl]
    rw [WS_nx, List.take_succ_eq_append_getElem hi, List.foldl_append]
    refine ⟨rfl, ?_⟩
    cases ((chB b many).take i).foldl (stepW (wgone bl)) none with
    | none => exact ⟨_, _, rfl⟩
    | some a =>
      obtain ⟨v, m⟩ := a
      refine ⟨some (.tup ((chB b many)[i].map .int)), some (.int (wgone bl (chB b many)[i])), ?_⟩
      by_cases hv : v < wgone bl (chB b many)[i]
      · simp only [bstp, hv, if_true, List.foldl_cons, List.foldl_nil, stepW, List.set_cons_succ, List.set_cons_zero, optW]
      · simp only [bstp, hv, if_false, List.foldl_cons, List.foldl_nil, stepW]
  · rintro ρ h2 ⟨rfl, o3, o4, rfl⟩
    rw [List.length_map, List.take_length, ← topW_eq]
    simp only [↓evS_for, ↓evX_lc, ↓evS_zret, forB, lcB, Py.wipe, WS_ex, WX_ex, evSs, evS, evX, evXs, evI, evIfs, bindT, bindTs, WS_thenS, WS_bndS, WS_bnnS, WX_bnd, WX_bnn, WX_ok, WX_lift, WS_nx, WS_rt, pro_v, pro_l, pros, List.getElem?_cons_zero, List.getElem?_cons_succ, List.set_cons_zero, List.set_cons_succ, Option.map_some, Option.some.injEq, exists_eq_left', bop_add, bop_sub, bop_mulL, bop_mulR, bop_mulm, bop_mod, bop_fdiv, bop_powS, blt_int, Int.reduceLT, Int.reducePow, Int.reduceLE, Int.reduceNeg, cE_eq, cE_ne, cE_lt, cE_le, cE_gt, cE_ge]
    exact ⟨trivial, k2⟩
end
/-! ### all lots -/
theorem lot_snoc {N : Int} {l : List Int} {x : Int} (hL : IsLot N (l ++ [x])) : IsLot N l ∧ nxt l ≤ x ∧ 0 ≤ x ∧ x < N := by
  obtain ⟨h1, h2⟩ := hL
  rw [List.pairwise_append] at h1
  refine ⟨⟨h1.1, fun y hy => h2 y (List.mem_append_left _ hy)⟩, ?_, h2 x (by simp)⟩
  rcases l.eq_nil_or_concat with rfl | ⟨m, y, rfl⟩
  · have := (h2 x (by simp)).1
    simpa [nxt] using this
  · rw [List.concat_eq_append, nxt_snoc]
    have := h1.2.2 y (by simp) x (by simp)
    omega
theorem chB_mem {N : Int} : ∀ {k : Nat} {l : List Int}, IsLot N l → l.length = k → l ∈ chB N k
  | 0, l, _, e => by
    have := List.length_eq_zero_iff.mp e
    subst this
    simp [chB]
  | k + 1, l, hL, e => by
    rcases l.eq_nil_or_concat with rfl | ⟨m, x, rfl⟩
    · cases e
    · rw [List.concat_eq_append] at *
      obtain ⟨q1, q2, q3, q4⟩ := lot_snoc hL
      simp only [chB, List.mem_flatMap]
      refine ⟨m, chB_mem q1 (by simpa using e), ?_⟩
      unfold ext1
      refine List.mem_map.mpr ⟨(x - nxt m).toNat, List.mem_range.mpr (by omega), ?_⟩
      have : nxt m + ((x - nxt m).toNat : Int) = x := by omega
      rw [this]
theorem lot_rng {N : Int} {k : Nat} (hk : (k : Int) ≤ N) : IsLot N ((List.range k).map fun (i : Nat) => (i : Int)) := by
  refine ⟨?_, fun x hx => ?_⟩
  · rw [List.pairwise_map]
    exact List.pairwise_lt_range.imp fun {a b} q => by omega
  · obtain ⟨i, hi, rfl⟩ := List.mem_map.mp hx
    have := List.mem_range.mp hi
    omega
theorem topW_spec {w : List Int → Int} {ls : List (List Int)} (hn : ls ≠ []) : ∃ m, topW w ls = some (w m, m) ∧ m ∈ ls ∧ ∀ l ∈ ls, w l ≤ w m := by
  cases ls with
  | nil => exact (hn rfl).elim
  | cons l ls =>
    show ∃ m, some (ls.foldl _ (w l, l)) = _ ∧ _
    have key : ∀ (ls : List (List Int)) (a : List Int), ∃ m, ls.foldl (fun a m => if a.1 < w m then (w m, m) else a) (w a, a) = (w m, m) ∧ (m = a ∨ m ∈ ls) ∧ w a ≤ w m ∧ ∀ l ∈ ls, w l ≤ w m := by
      intro ls
      induction ls with
      | nil => exact fun a => ⟨a, rfl, .inl rfl, Int.le_refl _, by simp⟩
      | cons x ls ih =>
        intro a
        rw [List.foldl_cons]
        by_cases hx : w a < w x
        · simp only [hx, if_true]
          obtain ⟨m, e, h1, h2, h3⟩ := ih x
          refine ⟨m, e, .inr ?_, by omega, fun l hl => ?_⟩
          · rcases h1 with rfl | h1
            · simp
            · exact List.mem_cons_of_mem _ h1
          · rcases List.mem_cons.mp hl with rfl | hl
            · exact h2
            · exact h3 l hl
        · simp only [hx, if_false]
          obtain ⟨m, e, h1, h2, h3⟩ := ih a
          refine ⟨m, e, ?_, h2, fun l hl => ?_⟩
          · rcases h1 with rfl | h1
            · exact .inl rfl
            · exact .inr (List.mem_cons_of_mem _ h1)
          · rcases List.mem_cons.mp hl with rfl | hl
            · omega
            · exact h3 l hl
    obtain ⟨m, e, h1, h2, h3⟩ := key ls l
    refine ⟨m, by rw [e], ?_, fun x hx => ?_⟩
    · rcases h1 with rfl | h1
      · simp
      · exact List.mem_cons_of_mem _ h1
    · rcases List.mem_cons.mp hx with rfl | hx
      · exact h2
      · exact h3 x hx
theorem chB_ne {N : Int} {k : Nat} (hk : (k : Int) ≤ N) : chB N k ≠ [] := by
  intro e
  have := chB_mem (k := k) (lot_rng hk) (by simp)
  rw [e] at this
  simp at this
section
variable {P : Prog} {cs es : List String} {g0 g1 g2 : String} {n : Nat} {h : Hd}
theorem w_most [HF P "is_integer" (F_is_integer cs)] [HF P "is_within" F_is_within] [HF P "check_number" F_check_number] [HF P "check_many" F_check_many] [HF P "choices_of" F_choices_of] [HF P "left_of" F_left_of] [HF P "gone_of" (F_gone_of es)] [HF P "weight_gone" F_weight_gone] [HF P "worst_by" (F_worst_by g0)] [q : HF P "most_gone" F_most_gone]
    {t : Nat} {b : Int} {bl : List (List Int × Int)} {many : Nat} (et : h.at_ t = some (tabO b bl)) (lt : t < h.sz) (b1 : 1 ≤ b) (b2 : b ≤ 14) (hm : (many : Int) ≤ b) {v : Int} {m : List Int} (ew : topW (wgone bl) (chB b many) = some (v, m)) :
    WX (callF P (n + 5) "most_gone" [.obj t, .int (many : Int)] h) fun d h' => d = .int v ∧ Kp [] h h' := by
  refine WX_call q.look rfl ?_
  show WS (evSs (callF P (n + 4)) F_most_gone.body [some (.obj t), some (.int (many : Int))] h) _ _ _
  unfold F_most_gone
  simp only [↓evS_for, ↓evX_lc, ↓evS_zret, forB, lcB, Py.wipe, WS_ex, WX_ex, evSs, evS, evX, evXs, evI, evIfs, bindT, bindTs, WS_thenS, WS_bndS, WS_bnnS, WX_bnd, WX_bnn, WX_ok, WX_lift, WS_nx, WS_rt, pro_v, pro_l, pros, List.getElem?_cons_zero, List.getElem?_cons_succ, List.set_cons_zero, List.set_cons_succ, Option.map_some, Option.some.injEq, exists_eq_left', bop_add, bop_sub, bop_mulL, bop_mulR, bop_mulm, bop_mod, bop_fdiv, bop_powS, blt_int, Int.reduceLT, Int.reducePow, Int.reduceLE, Int.reduceNeg, cE_eq, cE_ne, cE_lt, cE_le, cE_gt, cE_ge]
  refine (w_worst (es := es) (g0 := g0) (cs := cs) (n := n) et lt b1 b2 hm).monoE ?_ (fun _ _ _ z => z.elim)
  rintro d h1 ⟨rfl, k⟩
  rw [ew]
  simp only [optW, ↓evS_for, ↓evX_lc, ↓evS_zret, forB, lcB, Py.wipe, WS_ex, WX_ex, evSs, evS, evX, evXs, evI, evIfs, bindT, bindTs, WS_thenS, WS_bndS, WS_bnnS, WX_bnd, WX_bnn, WX_ok, WX_lift, WS_nx, WS_rt, pro_v, pro_l, pros, List.getElem?_cons_zero, List.getElem?_cons_succ, List.set_cons_zero, List.set_cons_succ, Option.map_some, Option.some.injEq, exists_eq_left', bop_add, bop_sub, bop_mulL, bop_mulR, bop_mulm, bop_mod, bop_fdiv, bop_powS, blt_int, Int.reduceLT, Int.reducePow, Int.reduceLE, Int.reduceNeg, cE_eq, cE_ne, cE_lt, cE_le, cE_gt, cE_ge, idx_tup, at0]
  exact ⟨trivial, k⟩
theorem w_worstg [HF P "is_integer" (F_is_integer cs)] [HF P "is_within" F_is_within] [HF P "check_number" F_check_number] [HF P "check_many" F_check_many] [HF P "choices_of" F_choices_of] [HF P "left_of" F_left_of] [HF P "gone_of" (F_gone_of es)] [HF P "weight_gone" F_weight_gone] [HF P "worst_by" (F_worst_by g0)] [q : HF P "worst_gone" F_worst_gone]
    {t : Nat} {b : Int} {bl : List (List Int × Int)} {many : Nat} (et : h.at_ t = some (tabO b bl)) (lt : t < h.sz) (b1 : 1 ≤ b) (b2 : b ≤ 14) (hm : (many : Int) ≤ b) {v : Int} {m : List Int} (ew : topW (wgone bl) (chB b many) = some (v, m)) :
    WX (callF P (n + 5) "worst_gone" [.obj t, .int (many : Int)] h) fun d h' => d = tupI m ∧ Kp [] h h' := by
  refine WX_call q.look rfl ?_
  show WS (evSs (callF P (n + 4)) F_worst_gone.body [some (.obj t), some (.int (many : Int))] h) _ _ _
  unfold F_worst_gone
  simp only [↓evS_for, ↓evX_lc, ↓evS_zret, forB, lcB, Py.wipe, WS_ex, WX_ex, evSs, evS, evX, evXs, evI, evIfs, bindT, bindTs, WS_thenS, WS_bndS, WS_bnnS, WX_bnd, WX_bnn, WX_ok, WX_lift, WS_nx, WS_rt, pro_v, pro_l, pros, List.getElem?_cons_zero, List.getElem?_cons_succ, List.set_cons_zero, List.set_cons_succ, Option.map_some, Option.some.injEq, exists_eq_left', bop_add, bop_sub, bop_mulL, bop_mulR, bop_mulm, bop_mod, bop_fdiv, bop_powS, blt_int, Int.reduceLT, Int.reducePow, Int.reduceLE, Int.reduceNeg, cE_eq, cE_ne, cE_lt, cE_le, cE_gt, cE_ge]
  refine (w_worst (es := es) (g0 := g0) (cs := cs) (n := n) et lt b1 b2 hm).monoE ?_ (fun _ _ _ z => z.elim)
  rintro d h1 ⟨rfl, k⟩
  rw [ew]
  simp only [optW, ↓evS_for, ↓evX_lc, ↓evS_zret, forB, lcB, Py.wipe, WS_ex, WX_ex, evSs, evS, evX, evXs, evI, evIfs, bindT, bindTs, WS_thenS, WS_bndS, WS_bnnS, WX_bnd, WX_bnn, WX_ok, WX_lift, WS_nx, WS_rt, pro_v, pro_l, pros, List.getElem?_cons_zero, List.getElem?_cons_succ, List.set_cons_zero, List.set_cons_succ, Option.map_some, Option.some.injEq, exists_eq_left', bop_add, bop_sub, bop_mulL, bop_mulR, bop_mulm, bop_mod, bop_fdiv, bop_powS, blt_int, Int.reduceLT, Int.reducePow, Int.reduceLE, Int.reduceNeg, cE_eq, cE_ne, cE_lt, cE_le, cE_gt, cE_ge, idx_tup, at1']
  exact ⟨trivial, k⟩
end
end Py


set_option Elab.async false
set_option linter.all false
set_option maxRecDepth 100000
set_option maxHeartbeats 4000000
/-! G4: places of a sheet, sums, shifts. -/
namespace Py
open PySem (Str PyData)
/-- rests, from the last modulus on -/
def rsR : List Int → Int → List Int
  | [], _ => []
  | m :: ms, p => p % m :: rsR ms (p / m)
def plR : List Int → List Int → Int
  | m :: ms, r :: rs => r % m + m * plR ms rs
  | _, _ => 0
def restsL (ms : List Int) (p : Int) : List Int := (rsR ms.reverse p).reverse
def plL (ms rs : List Int) : Int := (ms.zip rs).foldl (fun a q => a * q.1 + q.2 % q.1) 0
theorem plL_eq' : ∀ (ms rs : List Int), ms.length = rs.length → plL ms.reverse rs.reverse = plR ms rs
  | [], [], _ => rfl
  | m :: ms, r :: rs, e => by
    have e' : ms.length = rs.length := by simpa using e
    unfold plL
    rw [List.reverse_cons, List.reverse_cons, List.zip_append (by simp [e']), List.foldl_append]
    have := plL_eq' ms rs e'
    unfold plL at this
    rw [this]
    show plR ms rs * m + r % m = r % m + m * plR ms rs
    rw [Int.mul_comm, Int.add_comm]
theorem plL_eq {ms rs : List Int} (e : ms.length = rs.length) : plL ms rs = plR ms.reverse rs.reverse := by
  rw [← plL_eq' _ _ (by simp [e]), List.reverse_reverse, List.reverse_reverse]
theorem rsR_len : ∀ (ms : List Int) (p : Int), (rsR ms p).length = ms.length
  | [], _ => rfl
  | m :: ms, p => by simp [rsR, rsR_len ms]
theorem restsL_len {ms : List Int} {p : Int} : (restsL ms p).length = ms.length := by simp [restsL, rsR_len]
def dvR (ms : List Int) (p : Int) : Int := ms.foldl (· / ·) p
theorem rsR_snoc : ∀ (ms : List Int) (m p : Int), rsR (ms ++ [m]) p = rsR ms p ++ [dvR ms p % m]
  | [], m, p => rfl
  | a :: ms, m, p => by
    show p % a :: rsR (ms ++ [m]) (p / a) = p % a :: (rsR ms (p / a) ++ _)
    rw [rsR_snoc ms]
    rfl
theorem dvR_snoc (ms : List Int) (m p : Int) : dvR (ms ++ [m]) p = dvR ms p / m := by simp [dvR]
def prR : List Int → Int
  | [] => 1
  | m :: ms => m * prR ms
theorem prodI_snoc (ms : List Int) (m : Int) : prodI (ms ++ [m]) = prodI ms * m := by simp [prodI]
theorem prodI_eq : ∀ ms : List Int, prodI ms.reverse = prR ms
  | [] => rfl
  | m :: ms => by rw [List.reverse_cons, prodI_snoc, prodI_eq ms, Int.mul_comm]; rfl
theorem prR_pos : ∀ {ms : List Int}, (∀ x ∈ ms, 1 ≤ x) → 1 ≤ prR ms
  | [], _ => by decide
  | m :: ms, h => by
    have h1 := h m (by simp)
    have h2 := prR_pos (ms := ms) fun x hx => h x (by simp [hx])
    show 1 ≤ m * prR ms
    have : 1 * 1 ≤ m * prR ms := Int.mul_le_mul h1 h2 (by decide) (by omega)
    simpa using this
theorem plR_bnd : ∀ {ms rs : List Int}, (∀ x ∈ ms, 1 ≤ x) → ms.length = rs.length → 0 ≤ plR ms rs ∧ plR ms rs < prR ms
  | [], [], _, _ => by decide
  | m :: ms, r :: rs, h, e => by
    have h1 := h m (by simp)
    obtain ⟨h2, h3⟩ := plR_bnd (ms := ms) (rs := rs) (fun x hx => h x (by simp [hx])) (by simpa using e)
    have h4 := Int.emod_nonneg r (show m ≠ 0 by omega)
    have h5 := Int.emod_lt_of_pos r (show 0 < m by omega)
    have h6 : m * plR ms rs ≤ m * (prR ms - 1) := Int.mul_le_mul_of_nonneg_left (by omega) (by omega)
    have h7 : 0 ≤ m * plR ms rs := Int.mul_nonneg (by omega) h2
    have h8 : m * (prR ms - 1) = m * prR ms - m := by rw [Int.mul_sub, Int.mul_one]
    show 0 ≤ r % m + m * plR ms rs ∧ r % m + m * plR ms rs < m * prR ms
    omega
theorem rs_pl : ∀ {ms rs : List Int}, (∀ x ∈ ms, 1 ≤ x) → ms.length = rs.length → rsR ms (plR ms rs) = List.zipWith (fun m r => r % m) ms rs
  | [], [], _, _ => rfl
  | m :: ms, r :: rs, h, e => by
    have h1 := h m (by simp)
    have ih := rs_pl (ms := ms) (rs := rs) (fun x hx => h x (by simp [hx])) (by simpa using e)
    show (r % m + m * plR ms rs) % m :: rsR ms ((r % m + m * plR ms rs) / m) = r % m :: List.zipWith _ ms rs
    rw [Int.add_mul_emod_self_left, Int.emod_emod_of_dvd _ (Int.dvd_refl m), Int.add_mul_ediv_left _ _ (by omega), Int.ediv_eq_zero_of_lt (Int.emod_nonneg r (by omega)) (Int.emod_lt_of_pos r (by omega)), Int.zero_add, ih]
theorem pl_rs : ∀ {ms : List Int} {p : Int}, (∀ x ∈ ms, 1 ≤ x) → 0 ≤ p → p < prR ms → plR ms (rsR ms p) = p
  | [], p, _, h0, h1 => by
    have : prR [] = 1 := rfl
    show 0 = p
    omega
  | m :: ms, p, h, h0, h1 => by
    have h2 := h m (by simp)
    have h3 : p / m < prR ms := Int.ediv_lt_of_lt_mul (by omega) (by rw [Int.mul_comm]; exact h1)
    have ih := pl_rs (ms := ms) (p := p / m) (fun x hx => h x (by simp [hx])) (Int.ediv_nonneg h0 (by omega)) h3
    show p % m % m + m * plR ms (rsR ms (p / m)) = p
    rw [ih, Int.emod_emod_of_dvd _ (Int.dvd_refl m)]
    exact Int.emod_add_mul_ediv p m
def sumP (ms : List Int) (a b : Int) : Int := plL ms ((restsL ms a).zipWith (· + ·) (restsL ms b))
def oppP (ms : List Int) (a : Int) : Int := plL ms ((restsL ms a).map fun r => -r)
/-- a sum, rest by rest -/
def sumR : List Int → Int → Int → Int
  | [], _, _ => 0
  | m :: ms, a, b => (a % m + b % m) % m + m * sumR ms (a / m) (b / m)
theorem sumR_eq : ∀ (ms : List Int) (a b : Int), plR ms ((rsR ms a).zipWith (· + ·) (rsR ms b)) = sumR ms a b
  | [], _, _ => rfl
  | m :: ms, a, b => by
    show (a % m + b % m) % m + m * plR ms _ = _
    rw [sumR_eq ms]
    rfl
theorem sumP_eq {ms : List Int} {a b : Int} : sumP ms a b = sumR ms.reverse a b := by
  unfold sumP
  rw [plL_eq (by simp [restsL_len]), ← sumR_eq]
  unfold restsL
  rw [List.reverse_zipWith (by simp [rsR_len]), List.reverse_reverse, List.reverse_reverse]

theorem sumR_bnd {ms : List Int} {a b : Int} (h : ∀ x ∈ ms, 1 ≤ x) : 0 ≤ sumR ms a b ∧ sumR ms a b < prR ms := by
  rw [← sumR_eq]
  exact plR_bnd h (by simp [rsR_len])
theorem rsR_sum : ∀ {ms : List Int} {a b : Int}, (∀ x ∈ ms, 1 ≤ x) → rsR ms (sumR ms a b) = List.zipWith (fun m r => r % m) ms ((rsR ms a).zipWith (· + ·) (rsR ms b)) := by
  intro ms a b h
  rw [← sumR_eq]
  exact rs_pl h (by simp [rsR_len])
theorem rsR_inj {ms : List Int} {p q : Int} (h : ∀ x ∈ ms, 1 ≤ x) (p0 : 0 ≤ p) (p1 : p < prR ms) (q0 : 0 ≤ q) (q1 : q < prR ms) (e : rsR ms p = rsR ms q) : p = q := by
  rw [← pl_rs h p0 p1, e, pl_rs h q0 q1]
theorem sumR_comm : ∀ {ms : List Int} {a b : Int}, sumR ms a b = sumR ms b a
  | [], _, _ => rfl
  | m :: ms, a, b => by
    show (a % m + b % m) % m + m * sumR ms (a / m) (b / m) = (b % m + a % m) % m + m * sumR ms (b / m) (a / m)
    rw [sumR_comm, Int.add_comm (a % m)]
theorem sumR_cancel : ∀ {ms : List Int} {a b c : Int}, (∀ x ∈ ms, 1 ≤ x) → 0 ≤ b → b < prR ms → 0 ≤ c → c < prR ms → sumR ms a b = sumR ms a c → b = c
  | [], a, b, c, _, b0, b1, c0, c1, _ => by
    have : prR [] = 1 := rfl
    omega
  | m :: ms, a, b, c, h, b0, b1, c0, c1, e => by
    have h1 := h m (by simp)
    have hm : ∀ x ∈ ms, 1 ≤ x := fun x hx => h x (by simp [hx])
    have e1 : (a % m + b % m) % m + m * sumR ms (a / m) (b / m) = (a % m + c % m) % m + m * sumR ms (a / m) (c / m) := e
    have f1 : (a % m + b % m) % m = (a % m + c % m) % m := by
      have := congrArg (· % m) e1
      simpa [Int.add_mul_emod_self_left] using this
    have f2 : sumR ms (a / m) (b / m) = sumR ms (a / m) (c / m) := by
      rw [f1] at e1
      have := Int.add_left_cancel e1
      exact Int.eq_of_mul_eq_mul_left (by omega) this
    have hb := Int.emod_add_mul_ediv b m
    have hc := Int.emod_add_mul_ediv c m
    have d1 : ∀ {x : Int}, 0 ≤ x → x < m * prR ms → 0 ≤ x / m ∧ x / m < prR ms := fun {x} x0 x1 => ⟨Int.ediv_nonneg x0 (by omega), Int.ediv_lt_of_lt_mul (by omega) (by rw [Int.mul_comm]; exact x1)⟩
    have ih := sumR_cancel (a := a / m) hm (d1 b0 b1).1 (d1 b0 b1).2 (d1 c0 c1).1 (d1 c0 c1).2 f2
    have g1 := Int.emod_nonneg a (show m ≠ 0 by omega)
    have g2 := Int.emod_lt_of_pos a (show 0 < m by omega)
    have g3 := Int.emod_nonneg b (show m ≠ 0 by omega)
    have g4 := Int.emod_lt_of_pos b (show 0 < m by omega)
    have g5 := Int.emod_nonneg c (show m ≠ 0 by omega)
    have g6 := Int.emod_lt_of_pos c (show 0 < m by omega)
    have g7 : b % m = c % m := by
      have k : ∀ {x y : Int}, 0 ≤ x → x < m → 0 ≤ y → y < m → (x + y) % m = if x + y < m then x + y else x + y - m := fun {x y} x0 x1 y0 y1 => by
        by_cases q : x + y < m
        · rw [if_pos q, Int.emod_eq_of_lt (by omega) q]
        · rw [if_neg q, ← Int.sub_emod_right, Int.emod_eq_of_lt (by omega) (by omega)]
      rw [k g1 g2 g3 g4, k g1 g2 g5 g6] at f1
      split at f1 <;> split at f1 <;> omega
    rw [← hb, ← hc, g7, ih]
theorem prodR {ms : List Int} : prR ms.reverse = prodI ms := by rw [← prodI_eq, List.reverse_reverse]
theorem sumP_bnd {ms : List Int} {a b : Int} (h : ∀ x ∈ ms, 1 ≤ x) : 0 ≤ sumP ms a b ∧ sumP ms a b < prodI ms := by
  rw [sumP_eq, ← prodR]
  exact sumR_bnd fun x hx => h x (List.mem_reverse.mp hx)
theorem sumP_cancel {ms : List Int} {a b c : Int} (h : ∀ x ∈ ms, 1 ≤ x) (b0 : 0 ≤ b) (b1 : b < prodI ms) (c0 : 0 ≤ c) (c1 : c < prodI ms) (e : sumP ms a b = sumP ms a c) : b = c := by
  rw [sumP_eq, sumP_eq] at e
  rw [← prodR] at b1 c1
  exact sumR_cancel (fun x hx => h x (List.mem_reverse.mp hx)) b0 b1 c0 c1 e
/-- the ascending lot of some numbers -/
def srtL (l : List Int) : List Int := l.mergeSort fun a b => decide (a ≤ b)
def shiftP (ms lot : List Int) (p : Int) : List Int := srtL (lot.map (sumP ms p))
theorem mem_srt {l : List Int} {x : Int} : x ∈ srtL l ↔ x ∈ l := List.mem_mergeSort
theorem shift_lot {ms lot : List Int} {p : Int} (h : ∀ x ∈ ms, 1 ≤ x) (hL : IsLot (prodI ms) lot) : IsLot (prodI ms) (shiftP ms lot p) := by
  refine ⟨sorted_lt ?_, fun x hx => ?_⟩
  · refine List.pairwise_map.mpr (hL.1.imp_of_mem fun {a b} ha hb q e => ?_)
    have := sumP_cancel h (hL.2 a ha).1 (hL.2 a ha).2 (hL.2 b hb).1 (hL.2 b hb).2 e
    omega
  · obtain ⟨y, _, rfl⟩ := List.mem_map.mp (mem_srt.mp hx)
    exact sumP_bnd h
theorem shift_len {ms lot : List Int} {p : Int} : (shiftP ms lot p).length = lot.length := by simp [shiftP, srtL]
end Py


set_option Elab.async false
set_option linter.all false
set_option maxRecDepth 100000
set_option maxHeartbeats 4000000
/-! G5: what the defs of sheets and layouts compute. -/
namespace Py
open PySem (Str PyData)
theorem gOf_ok {x : TV} {h : Hd} : (gOf x h).ok h := by
  intro p hp
  unfold gOf at hp
  split at hp
  · split at hp
    · rename_i o ho
      simp at hp
      subst hp
      exact ho
    · cases hp
  · cases hp
theorem gOf_l {xs : List D} {h : Hd} : gOf (.l xs) h = [] := rfl
theorem revF_tup {xs : List D} {h : Hd} : revF (.v (.tup xs)) h = some (.v (.tup xs.reverse)) := rfl
theorem zipL_map {α β : Type} {f : α → D} {g : β → D} (xs : List α) (ys : List β) : zipL (xs.map f) (ys.map g) = (xs.zip ys).map fun q => .tup [f q.1, g q.2] := by
  unfold zipL
  rw [List.zip_map, List.map_map]
  rfl
/-- a comprehension whose steps lay new things only -/
theorem wx_mapK {α : Type} {xs : List α} {g : α → D} (f : α → D) {G : Gd} {el : D → Hd → Res (Option D)} {h : Hd} {Q : List D → Hd → Prop} {E : XP} (hG : ∀ h', Kp [] h h' → G.ok h') (hs : ∀ x ∈ xs, ∀ h', Kp [] h h' → WX (el (g x) h') fun o h'' => o = some (f x) ∧ Kp [] h' h'') (q : ∀ h', Kp [] h h' → Q (xs.map f) h') : WX (compL G el (xs.map g) h) Q E := by
  refine wx_comp (I := fun i acc h' => acc = (xs.take i).map f ∧ Kp [] h h') ⟨rfl, Kp.refl⟩ (by rintro i acc h' _ ⟨_, k⟩; exact hG _ k) ?_ ?_
  · rintro i hi acc h' ⟨rfl, k⟩
    rw [List.length_map] at hi
    have hg : (xs.map g)[i]'(by simpa using hi) = g xs[i] := by simp
    rw [hg]
    refine (hs _ (List.getElem_mem hi) h' k).mono ?_
    rintro o h'' ⟨rfl, k'⟩
    refine ⟨?_, k.trans k'⟩
    rw [List.take_succ_eq_append_getElem hi, List.map_append]
    rfl
  · rintro acc h' ⟨rfl, k⟩
    rw [List.length_map, List.take_length]
    exact q _ k
section
variable {P : Prog} {cs es : List String} {g0 g1 g2 : String} {n : Nat} {h : Hd}
theorem c_rests [q : HF P "rests_of" F_rests_of] {k : Nat} {ms : List Int} {p : Int} (ek : h.at_ k = some (sheO ms)) (hm : ∀ x ∈ ms, 1 ≤ x ∧ x ≤ 120) (h3 : ms.length ≤ 3) : callF P (n + 1) "rests_of" [.obj k, .int p] h = some (.ok (.tup ((restsL ms p).map .int)) h) := by
  refine call_eq q.look rfl ?_
  show WS (evSs (callF P n) F_rests_of.body [some (.obj k), some (.int p), none, none, none] h) _ _
  unfold F_rests_of
  have ef : fldF ["Sheet"] "moduli" (.v (.obj k)) h = some (.tup (ms.map .int)) := fld_of ek rfl
  have lb := line_big
  simp only [↓evS_for, ↓evX_lc, ↓evS_zret, forB, lcB, Py.wipe, WS_ex, WX_ex, evSs, evS, evX, evXs, evI, evIfs, bindT, bindTs, WS_thenS, WS_bndS, WS_bnnS, WX_bnd, WX_bnn, WX_ok, WX_lift, WS_nx, WS_rt, pro_v, pro_l, pros, List.getElem?_cons_zero, List.getElem?_cons_succ, List.set_cons_zero, List.set_cons_succ, Option.map_some, Option.some.injEq, exists_eq_left', bop_add, bop_sub, bop_mulL, bop_mulR, bop_mulm, bop_mod, bop_fdiv, bop_powS, blt_int, Int.reduceLT, Int.reducePow, Int.reduceLE, Int.reduceNeg, cE_eq, cE_ne, cE_lt, cE_le, cE_gt, cE_ge, ef, revF_tup, walk_tup, ← List.map_reverse]
  refine ws_for (I := fun i ρ h' => h' = h ∧ ∃ o, ρ = [some (.obj k), some (.int p), some (.tup ((rsR (ms.reverse.take i) p).reverse.map .int)), some (.int (dvR (ms.reverse.take i) p)), o]) ⟨rfl, none, rfl⟩ (by intro i ρ h' _ _; simp) ?_ ?_
  · rintro i hi ρ h' ⟨rfl, o, rfl⟩
    have hi2 : i < ms.reverse.length := by simpa using hi
    have hg : (ms.reverse.map D.int)[i] = .int ms.reverse[i] := by simp
    have hb := hm ms.reverse[i] (List.mem_reverse.mp (List.getElem_mem hi2))
    have ha : augF .fdiv (.int (dvR (ms.reverse.take i) p)) (.v (.int ms.reverse[i])) = some (.int (dvR (ms.reverse.take i) p / ms.reverse[i])) := if_pos ⟨by omega, by omega⟩
    have hl : ([D.int (dvR (ms.reverse.take i) p % ms.reverse[i])].length + ((rsR (ms.reverse.take i) p).reverse.map D.int).length) ≤ LINE := by
      rw [List.length_map, List.length_reverse, rsR_len, List.length_take]
      simp only [List.length_reverse, List.length_cons, List.length_nil]
      omega
    simp only [↓evS_for, ↓evX_lc, ↓evS_zret, forB, lcB, Py.wipe, WS_ex, WX_ex, evSs, evS, evX, evXs, evI, evIfs, bindT, bindTs, WS_thenS, WS_bndS, WS_bnnS, WX_bnd, WX_bnn, WX_ok, WX_lift, WS_nx, WS_rt, pro_v, pro_l, pros, List.getElem?_cons_zero, List.getElem?_cons_succ, List.set_cons_zero, List.set_cons_succ, Option.map_some, Option.some.injEq, exists_eq_left', bop_add, bop_sub, bop_mulL, bop_mulR, bop_mulm, bop_mod, bop_fdiv, bop_powS, blt_int, Int.reduceLT, Int.reducePow, Int.reduceLE, Int.reduceNeg, cE_eq, cE_ne, cE_lt, cE_le, cE_gt, cE_ge, hg, bop_mod (show 0 < ms.reverse[i] by omega), bop_addt hl, ha]
    refine ⟨trivial, some (.int ms.reverse[i]), ?_⟩
    rw [List.take_succ_eq_append_getElem hi2, rsR_snoc, dvR_snoc, List.reverse_append]
    rfl
  · rintro ρ h' ⟨rfl, o, rfl⟩
    rw [List.length_map, List.take_length]
    simp only [↓evS_for, ↓evX_lc, ↓evS_zret, forB, lcB, Py.wipe, WS_ex, WX_ex, evSs, evS, evX, evXs, evI, evIfs, bindT, bindTs, WS_thenS, WS_bndS, WS_bnnS, WX_bnd, WX_bnn, WX_ok, WX_lift, WS_nx, WS_rt, pro_v, pro_l, pros, List.getElem?_cons_zero, List.getElem?_cons_succ, List.set_cons_zero, List.set_cons_succ, Option.map_some, Option.some.injEq, exists_eq_left', bop_add, bop_sub, bop_mulL, bop_mulR, bop_mulm, bop_mod, bop_fdiv, bop_powS, blt_int, Int.reduceLT, Int.reducePow, Int.reduceLE, Int.reduceNeg, cE_eq, cE_ne, cE_lt, cE_le, cE_gt, cE_ge]
    exact ⟨rfl, trivial⟩
theorem c_place [q : HF P "place_by" F_place_by] {k : Nat} {ms rs : List Int} {x : D} (ek : h.at_ k = some (sheO ms)) (hm : ∀ x ∈ ms, 1 ≤ x ∧ x ≤ 120) (h3 : ms.length ≤ 3) (hx : seqOf (.v x) h = some (rs.map .int)) : callF P (n + 1) "place_by" [.obj k, x] h = some (.ok (.int (plL ms rs)) h) := by
  refine call_eq q.look rfl ?_
  show WS (evSs (callF P n) F_place_by.body [some (.obj k), some x, none, none, none] h) _ _
  unfold F_place_by
  have ef : fldF ["Sheet"] "moduli" (.v (.obj k)) h = some (.tup (ms.map .int)) := fld_of ek rfl
  have lb := line_big
  have hl : (ms.map D.int).length ≤ LINE := by rw [List.length_map]; omega
  simp only [↓evS_for, ↓evX_lc, ↓evS_zret, forB, lcB, Py.wipe, WS_ex, WX_ex, evSs, evS, evX, evXs, evI, evIfs, bindT, bindTs, WS_thenS, WS_bndS, WS_bnnS, WX_bnd, WX_bnn, WX_ok, WX_lift, WS_nx, WS_rt, pro_v, pro_l, pros, List.getElem?_cons_zero, List.getElem?_cons_succ, List.set_cons_zero, List.set_cons_succ, Option.map_some, Option.some.injEq, exists_eq_left', bop_add, bop_sub, bop_mulL, bop_mulR, bop_mulm, bop_mod, bop_fdiv, bop_powS, blt_int, Int.reduceLT, Int.reducePow, Int.reduceLE, Int.reduceNeg, cE_eq, cE_ne, cE_lt, cE_le, cE_gt, cE_ge, ef, seq_tup, hx, hl, if_true, gOf_tup, List.nil_append, zipL_map]
  refine ws_for (I := fun i ρ h' => h' = h ∧ ∃ o o2, ρ = [some (.obj k), some x, some (.int (((ms.zip rs).take i).foldl (fun a q => a * q.1 + q.2 % q.1) 0)), o, o2]) ⟨rfl, none, none, rfl⟩ (by rintro i ρ h' _ ⟨rfl, _⟩; exact gOf_ok) ?_ ?_
  · rintro i hi ρ h' ⟨rfl, o, o2, rfl⟩
    have hi2 : i < (ms.zip rs).length := by simpa using hi
    have hg : ((ms.zip rs).map fun q => D.tup [.int q.1, .int q.2])[i] = .tup [.int (ms.zip rs)[i].1, .int (ms.zip rs)[i].2] := by simp
    have hb := hm (ms.zip rs)[i].1 (List.of_mem_zip (List.getElem_mem hi2)).1
    simp only [↓evS_for, ↓evX_lc, ↓evS_zret, forB, lcB, Py.wipe, WS_ex, WX_ex, evSs, evS, evX, evXs, evI, evIfs, bindT, bindTs, WS_thenS, WS_bndS, WS_bnnS, WX_bnd, WX_bnn, WX_ok, WX_lift, WS_nx, WS_rt, pro_v, pro_l, pros, List.getElem?_cons_zero, List.getElem?_cons_succ, List.set_cons_zero, List.set_cons_succ, Option.map_some, Option.some.injEq, exists_eq_left', bop_add, bop_sub, bop_mulL, bop_mulR, bop_mulm, bop_mod, bop_fdiv, bop_powS, blt_int, Int.reduceLT, Int.reducePow, Int.reduceLE, Int.reduceNeg, cE_eq, cE_ne, cE_lt, cE_le, cE_gt, cE_ge, hg, bop_mod (show 0 < (ms.zip rs)[i].1 by omega), bop_mulR (show -9223372036854775808 < (ms.zip rs)[i].1 by omega) (show (ms.zip rs)[i].1 < 9223372036854775808 by omega)]
    refine ⟨trivial, some (.int (ms.zip rs)[i].1), some (.int (ms.zip rs)[i].2), ?_⟩
    rw [List.take_succ_eq_append_getElem hi2, List.foldl_append]
    rfl
  · rintro ρ h' ⟨rfl, o, o2, rfl⟩
    rw [List.length_map, List.take_length]
    simp only [↓evS_for, ↓evX_lc, ↓evS_zret, forB, lcB, Py.wipe, WS_ex, WX_ex, evSs, evS, evX, evXs, evI, evIfs, bindT, bindTs, WS_thenS, WS_bndS, WS_bnnS, WX_bnd, WX_bnn, WX_ok, WX_lift, WS_nx, WS_rt, pro_v, pro_l, pros, List.getElem?_cons_zero, List.getElem?_cons_succ, List.set_cons_zero, List.set_cons_succ, Option.map_some, Option.some.injEq, exists_eq_left', bop_add, bop_sub, bop_mulL, bop_mulR, bop_mulm, bop_mod, bop_fdiv, bop_powS, blt_int, Int.reduceLT, Int.reducePow, Int.reduceLE, Int.reduceNeg, cE_eq, cE_ne, cE_lt, cE_le, cE_gt, cE_ge]
    exact ⟨rfl, trivial⟩
theorem w_sum [HF P "rests_of" F_rests_of] [HF P "place_by" F_place_by] [q : HF P "sum_of" F_sum_of] {k : Nat} {ms : List Int} {a b : Int} (ek : h.at_ k = some (sheO ms)) (lk : k < h.sz) (hm : ∀ x ∈ ms, 1 ≤ x ∧ x ≤ 120) (h3 : ms.length ≤ 3) :
    WX (callF P (n + 2) "sum_of" [.obj k, .int a, .int b] h) fun d h' => d = .int (sumP ms a b) ∧ Kp [] h h' := by
  refine WX_call q.look rfl ?_
  show WS (evSs (callF P (n + 1)) F_sum_of.body [some (.obj k), some (.int a), some (.int b), none, none, none] h) _ _ _
  unfold F_sum_of
  have lb := line_big
  have hl : ((restsL ms a).map D.int).length ≤ LINE := by rw [List.length_map, restsL_len]; omega
  simp only [↓evS_for, ↓evX_lc, ↓evS_zret, forB, lcB, Py.wipe, WS_ex, WX_ex, evSs, evS, evX, evXs, evI, evIfs, bindT, bindTs, WS_thenS, WS_bndS, WS_bnnS, WX_bnd, WX_bnn, WX_ok, WX_lift, WS_nx, WS_rt, pro_v, pro_l, pros, List.getElem?_cons_zero, List.getElem?_cons_succ, List.set_cons_zero, List.set_cons_succ, Option.map_some, Option.some.injEq, exists_eq_left', bop_add, bop_sub, bop_mulL, bop_mulR, bop_mulm, bop_mod, bop_fdiv, bop_powS, blt_int, Int.reduceLT, Int.reducePow, Int.reduceLE, Int.reduceNeg, cE_eq, cE_ne, cE_lt, cE_le, cE_gt, cE_ge, c_rests (n := n) ek hm h3, hl, if_true, zipL_map]
  refine wx_map (fun q => .int (q.1 + q.2)) (fun q hq => ?_) (by simp) ?_
  · simp only [lcB, evIfs, bindT, bindTs, bnn_ok, bnd_ok, Py.wipe, evX, evXs, List.set_cons_succ, List.set_cons_zero, List.getElem?_cons_succ, List.getElem?_cons_zero, pros, pro_v, pro_l, lift_some, Option.map_some, bop_add, bop_sub, bop_mod, bop_fdiv, bop_mulL, bop_mulR, blt_int, Bool.not_true, Bool.not_false, cE_eq, cE_ne, cE_lt, cE_le, cE_gt, cE_ge]
  have e : ((restsL ms a).zip (restsL ms b)).map (fun q => D.int (q.1 + q.2)) = ((restsL ms a).zipWith (· + ·) (restsL ms b)).map .int := by
    rw [List.zip_eq_zipWith, List.map_zipWith, List.map_zipWith]
  rw [e]
  have ek2 : (h.new (.lst (((restsL ms a).zipWith (· + ·) (restsL ms b)).map .int))).at_ k = some (sheO ms) := by rw [new_at_old lk]; exact ek
  have hx : seqOf (.v (.obj h.sz)) (h.new (.lst (((restsL ms a).zipWith (· + ·) (restsL ms b)).map .int))) = some (((restsL ms a).zipWith (· + ·) (restsL ms b)).map .int) := by
    simp only [seqOf, lstOf, new_at_new]
  simp only [c_place (n := n) ek2 hm h3 hx, ↓evS_for, ↓evX_lc, ↓evS_zret, forB, lcB, Py.wipe, WS_ex, WX_ex, evSs, evS, evX, evXs, evI, evIfs, bindT, bindTs, WS_thenS, WS_bndS, WS_bnnS, WX_bnd, WX_bnn, WX_ok, WX_lift, WS_nx, WS_rt, pro_v, pro_l, pros, List.getElem?_cons_zero, List.getElem?_cons_succ, List.set_cons_zero, List.set_cons_succ, Option.map_some, Option.some.injEq, exists_eq_left', bop_add, bop_sub, bop_mulL, bop_mulR, bop_mulm, bop_mod, bop_fdiv, bop_powS, blt_int, Int.reduceLT, Int.reducePow, Int.reduceLE, Int.reduceNeg, cE_eq, cE_ne, cE_lt, cE_le, cE_gt, cE_ge]
  exact ⟨rfl, Kp.new⟩
theorem w_opp [HF P "rests_of" F_rests_of] [HF P "place_by" F_place_by] [q : HF P "opposite_of" F_opposite_of] {k : Nat} {ms : List Int} {a : Int} (ek : h.at_ k = some (sheO ms)) (lk : k < h.sz) (hm : ∀ x ∈ ms, 1 ≤ x ∧ x ≤ 120) (h3 : ms.length ≤ 3) :
    WX (callF P (n + 2) "opposite_of" [.obj k, .int a] h) fun d h' => d = .int (oppP ms a) ∧ Kp [] h h' := by
  refine WX_call q.look rfl ?_
  show WS (evSs (callF P (n + 1)) F_opposite_of.body [some (.obj k), some (.int a), none] h) _ _ _
  unfold F_opposite_of
  simp only [↓evS_for, ↓evX_lc, ↓evS_zret, forB, lcB, Py.wipe, WS_ex, WX_ex, evSs, evS, evX, evXs, evI, evIfs, bindT, bindTs, WS_thenS, WS_bndS, WS_bnnS, WX_bnd, WX_bnn, WX_ok, WX_lift, WS_nx, WS_rt, pro_v, pro_l, pros, List.getElem?_cons_zero, List.getElem?_cons_succ, List.set_cons_zero, List.set_cons_succ, Option.map_some, Option.some.injEq, exists_eq_left', bop_add, bop_sub, bop_mulL, bop_mulR, bop_mulm, bop_mod, bop_fdiv, bop_powS, blt_int, Int.reduceLT, Int.reducePow, Int.reduceLE, Int.reduceNeg, cE_eq, cE_ne, cE_lt, cE_le, cE_gt, cE_ge, c_rests (n := n) ek hm h3, walk_tup]
  refine wx_map (fun r => .int (-r)) (fun r hr => ?_) (by simp) ?_
  · simp only [lcB, evIfs, bindT, bindTs, bnn_ok, bnd_ok, Py.wipe, evX, evXs, List.set_cons_succ, List.set_cons_zero, List.getElem?_cons_succ, List.getElem?_cons_zero, pros, pro_v, pro_l, lift_some, Option.map_some, bop_add, bop_sub, bop_mod, bop_fdiv, bop_mulL, bop_mulR, blt_int, Bool.not_true, Bool.not_false, cE_eq, cE_ne, cE_lt, cE_le, cE_gt, cE_ge]
  have e : (restsL ms a).map (fun r => D.int (-r)) = ((restsL ms a).map fun r => -r).map .int := by rw [List.map_map]; rfl
  rw [e]
  have ek2 : (h.new (.lst (((restsL ms a).map fun r => -r).map .int))).at_ k = some (sheO ms) := by rw [new_at_old lk]; exact ek
  have hx : seqOf (.v (.obj h.sz)) (h.new (.lst (((restsL ms a).map fun r => -r).map .int))) = some (((restsL ms a).map fun r => -r).map .int) := by
    simp only [seqOf, lstOf, new_at_new]
  simp only [c_place (n := n) ek2 hm h3 hx, ↓evS_for, ↓evX_lc, ↓evS_zret, forB, lcB, Py.wipe, WS_ex, WX_ex, evSs, evS, evX, evXs, evI, evIfs, bindT, bindTs, WS_thenS, WS_bndS, WS_bnnS, WX_bnd, WX_bnn, WX_ok, WX_lift, WS_nx, WS_rt, pro_v, pro_l, pros, List.getElem?_cons_zero, List.getElem?_cons_succ, List.set_cons_zero, List.set_cons_succ, Option.map_some, Option.some.injEq, exists_eq_left', bop_add, bop_sub, bop_mulL, bop_mulR, bop_mulm, bop_mod, bop_fdiv, bop_powS, blt_int, Int.reduceLT, Int.reducePow, Int.reduceLE, Int.reduceNeg, cE_eq, cE_ne, cE_lt, cE_le, cE_gt, cE_ge]
  exact ⟨rfl, Kp.new⟩
theorem w_shift [HF P "rests_of" F_rests_of] [HF P "place_by" F_place_by] [HF P "sum_of" F_sum_of] [q : HF P "shift_of" F_shift_of] {k : Nat} {ms lot : List Int} {p : Int} (ek : h.at_ k = some (sheO ms)) (lk : k < h.sz) (hm : ∀ x ∈ ms, 1 ≤ x ∧ x ≤ 120) (h3 : ms.length ≤ 3) :
    WX (callF P (n + 3) "shift_of" [.obj k, .tup (lot.map .int), .int p] h) fun d h' => d = .tup ((shiftP ms lot p).map .int) ∧ Kp [] h h' := by
  refine WX_call q.look rfl ?_
  show WS (evSs (callF P (n + 2)) F_shift_of.body [some (.obj k), some (.tup (lot.map .int)), some (.int p), none] h) _ _ _
  unfold F_shift_of
  simp only [↓evS_for, ↓evX_lc, ↓evS_zret, forB, lcB, Py.wipe, WS_ex, WX_ex, evSs, evS, evX, evXs, evI, evIfs, bindT, bindTs, WS_thenS, WS_bndS, WS_bnnS, WX_bnd, WX_bnn, WX_ok, WX_lift, WS_nx, WS_rt, pro_v, pro_l, pros, List.getElem?_cons_zero, List.getElem?_cons_succ, List.set_cons_zero, List.set_cons_succ, Option.map_some, Option.some.injEq, exists_eq_left', bop_add, bop_sub, bop_mulL, bop_mulR, bop_mulm, bop_mod, bop_fdiv, bop_powS, blt_int, Int.reduceLT, Int.reducePow, Int.reduceLE, Int.reduceNeg, cE_eq, cE_ne, cE_lt, cE_le, cE_gt, cE_ge, walk_tup]
  refine wx_mapK (fun x => .int (sumP ms p x)) (by simp) (fun x hx h' kp => ?_) ?_
  · have ek2 : h'.at_ k = some (sheO ms) := by rw [kp.at_ k lk (by simp)]; exact ek
    simp only [↓evS_for, ↓evX_lc, ↓evS_zret, forB, lcB, Py.wipe, WS_ex, WX_ex, evSs, evS, evX, evXs, evI, evIfs, bindT, bindTs, WS_thenS, WS_bndS, WS_bnnS, WX_bnd, WX_bnn, WX_ok, WX_lift, WS_nx, WS_rt, pro_v, pro_l, pros, List.getElem?_cons_zero, List.getElem?_cons_succ, List.set_cons_zero, List.set_cons_succ, Option.map_some, Option.some.injEq, exists_eq_left', bop_add, bop_sub, bop_mulL, bop_mulR, bop_mulm, bop_mod, bop_fdiv, bop_powS, blt_int, Int.reduceLT, Int.reducePow, Int.reduceLE, Int.reduceNeg, cE_eq, cE_ne, cE_lt, cE_le, cE_gt, cE_ge]
    refine (w_sum (n := n) ek2 (Nat.lt_of_lt_of_le lk kp.sz) hm h3).mono ?_
    rintro d h'' ⟨rfl, k2⟩
    exact ⟨rfl, k2⟩
  · intro h' kp
    have e : lot.map (fun x => D.int (sumP ms p x)) = (lot.map (sumP ms p)).map .int := by rw [List.map_map]; rfl
    rw [e]
    simp only [↓evS_for, ↓evX_lc, ↓evS_zret, forB, lcB, Py.wipe, WS_ex, WX_ex, evSs, evS, evX, evXs, evI, evIfs, bindT, bindTs, WS_thenS, WS_bndS, WS_bnnS, WX_bnd, WX_bnn, WX_ok, WX_lift, WS_nx, WS_rt, pro_v, pro_l, pros, List.getElem?_cons_zero, List.getElem?_cons_succ, List.set_cons_zero, List.set_cons_succ, Option.map_some, Option.some.injEq, exists_eq_left', bop_add, bop_sub, bop_mulL, bop_mulR, bop_mulm, bop_mod, bop_fdiv, bop_powS, blt_int, Int.reduceLT, Int.reducePow, Int.reduceLE, Int.reduceNeg, cE_eq, cE_ne, cE_lt, cE_le, cE_gt, cE_ge, srt_tmp, tup_tmp]
    exact ⟨rfl, kp⟩
end
end Py


set_option Elab.async false
set_option linter.all false
set_option maxRecDepth 100000
set_option maxHeartbeats 4000000
/-! G6: layouts made, their tables. -/
namespace Py
open PySem (Str PyData)
theorem Kp.old {S : List Nat} {h h' : Hd} (a : Kp S h h') (hs : ∀ x ∈ S, h.sz ≤ x) : Kp [] h h' := ⟨a.sz, fun m hm _ => a.at_ m hm fun z => by have := hs m z; omega⟩
theorem Kp.cut {S : List Nat} {h h1 h2 : Hd} (a : Kp [] h h1) (b : Kp S h1 h2) (hs : ∀ x ∈ S, h.sz ≤ x) : Kp [] h h2 := ((a.mono fun _ z => by cases z).trans b).old hs
def IsKnd (N : Int) (p : List Int × Int) : Prop := IsLot N p.1 ∧ 1 ≤ p.1.length ∧ p.1.length ≤ 8 ∧ 1 ≤ p.2 ∧ p.2 ≤ 1000000
def blocksP (ms : List Int) (kd : List Int × Int) : List (List Int × Int) := (List.range (prodI ms).toNat).map fun (i : Nat) => (shiftP ms kd.1 (i : Int), kd.2)
section
variable {P : Prog} {cs es : List String} {g0 g1 g2 g3 g4 g5 : String} {n : Nat} {h : Hd}
theorem c_kind [HF P "is_integer" (F_is_integer cs)] [HF P "is_within" F_is_within] [HF P "is_lot" (F_is_lot cs)] [HF P "is_pair" (F_is_pair cs es)] [k : HF P "is_kind" (F_is_kind g0 g1)] {s : Nat} {ms : List Int} {p : List Int × Int} (ek : h.at_ s = some (sheO ms)) (hB : IsKnd (prodI ms) p) : callF P (n + 4) "is_kind" [.obj s, bk p] h = some (.ok (.bl true) h) := by
  refine call_eq k.look rfl ?_
  show WS (evSs (callF P (n + 3)) (F_is_kind g0 g1).body [some (.obj s), some (bk p)] h) _ _
  unfold F_is_kind
  obtain ⟨hL, l1, l2, w1, w2⟩ := hB
  have ef : fldF ["Sheet"] "places" (.v (.obj s)) h = some (.int (prodI ms)) := fld_of ek rfl
  have k1 : (1 : Int) ≤ ((p.1.map D.int).length : Int) := by rw [List.length_map]; omega
  have k2 : ((p.1.map D.int).length : Int) ≤ 8 := by rw [List.length_map]; omega
  simp only [↓evS_for, ↓evX_lc, ↓evS_zret, forB, lcB, Py.wipe, WS_ex, WX_ex, evSs, evS, evX, evXs, evI, evIfs, bindT, bindTs, WS_thenS, WS_bndS, WS_bnnS, WX_bnd, WX_bnn, WX_ok, WX_lift, WS_nx, WS_rt, pro_v, pro_l, pros, List.getElem?_cons_zero, List.getElem?_cons_succ, List.set_cons_zero, List.set_cons_succ, Option.map_some, Option.some.injEq, exists_eq_left', bop_add, bop_sub, bop_mulL, bop_mulR, bop_mulm, bop_mod, bop_fdiv, bop_powS, blt_int, Int.reduceLT, Int.reducePow, Int.reduceLE, Int.reduceNeg, cE_eq, cE_ne, cE_lt, cE_le, cE_gt, cE_ge, bk, c_pair2 (n := n + 2), Bool.not_true, idx_tup, at0, at1', ef, c_lot (n := n) hL, len_tup, chk_le k1, chk_le k2, c_within (n := n + 1), decide_eq_true (show (1 : Int) ≤ p.2 ∧ p.2 ≤ 1000000 from ⟨w1, w2⟩)]
  exact ⟨trivial, trivial⟩
theorem w_layi [HF P "is_integer" (F_is_integer cs)] [HF P "is_within" F_is_within] [HF P "is_lot" (F_is_lot cs)] [HF P "is_pair" (F_is_pair cs es)] [HF P "is_kind" (F_is_kind g0 g1)] [q : HF P "Layout.__init__" (F_Layout__init__ cs g2)] {k s : Nat} {ms : List Int} {kl : List (List Int × Int)} (e : h.at_ k = some (.ins "Layout" [])) (ek : h.at_ s = some (sheO ms)) (hc : cs.contains "Sheet" = true)
    (l1 : 1 ≤ kl.length) (l2 : kl.length ≤ 3) (hB : ∀ p ∈ kl, IsKnd (prodI ms) p) :
    WX (callF P (n + 5) "Layout.__init__" [.obj k, .obj s, .tup (kl.map bk)] h) fun d h' => d = .non ∧ h'.at_ k = some (layO s kl) ∧ h'.sz = h.sz ∧ Kp [k] h h' := by
  refine WX_call q.look rfl ?_
  show WS (evSs (callF P (n + 4)) (F_Layout__init__ cs g2).body [some (.obj k), some (.obj s), some (.tup (kl.map bk)), none, none] h) _ _ _
  unfold F_Layout__init__
  have k1 : (1 : Int) ≤ ((kl.map bk).length : Int) := by rw [List.length_map]; omega
  have k2 : ((kl.map bk).length : Int) ≤ 3 := by rw [List.length_map]; omega
  have is1 : isiF cs ["Sheet"] (.v (.obj s)) h = some (.v (.bl true)) := isi_ins ek hc
  simp only [↓evS_for, ↓evX_lc, ↓evS_zret, forB, lcB, Py.wipe, WS_ex, WX_ex, evSs, evS, evX, evXs, evI, evIfs, bindT, bindTs, WS_thenS, WS_bndS, WS_bnnS, WX_bnd, WX_bnn, WX_ok, WX_lift, WS_nx, WS_rt, pro_v, pro_l, pros, List.getElem?_cons_zero, List.getElem?_cons_succ, List.set_cons_zero, List.set_cons_succ, Option.map_some, Option.some.injEq, exists_eq_left', bop_add, bop_sub, bop_mulL, bop_mulR, bop_mulm, bop_mod, bop_fdiv, bop_powS, blt_int, Int.reduceLT, Int.reducePow, Int.reduceLE, Int.reduceNeg, cE_eq, cE_ne, cE_lt, cE_le, cE_gt, cE_ge, is1, Bool.not_true, isi_tup, len_tup, chk_le k1, chk_le k2, seq_tup, gOf_tup]
  refine ws_for (I := fun i ρ h2 => ∃ o p : Option D, ρ = [some (.obj k), some (.obj s), some (.tup (kl.map bk)), o, p] ∧ h2 = h) ⟨none, none, rfl, rfl⟩ (by intro i ρ h' _ _; simp) ?_ ?_
  · rintro i hi ρ h2 ⟨o, p, rfl, rfl⟩
    rw [enum_get hi]
    rw [enum_len, List.length_map] at hi
    simp only [↓evS_for, ↓evX_lc, ↓evS_zret, forB, lcB, Py.wipe, WS_ex, WX_ex, evSs, evS, evX, evXs, evI, evIfs, bindT, bindTs, WS_thenS, WS_bndS, WS_bnnS, WX_bnd, WX_bnn, WX_ok, WX_lift, WS_nx, WS_rt, pro_v, pro_l, pros, List.getElem?_cons_zero, List.getElem?_cons_succ, List.set_cons_zero, List.set_cons_succ, Option.map_some, Option.some.injEq, exists_eq_left', bop_add, bop_sub, bop_mulL, bop_mulR, bop_mulm, bop_mod, bop_fdiv, bop_powS, blt_int, Int.reduceLT, Int.reducePow, Int.reduceLE, Int.reduceNeg, cE_eq, cE_ne, cE_lt, cE_le, cE_gt, cE_ge, getD_bk hi, c_kind (n := n) ek (hB kl[i] (List.getElem_mem hi)), Bool.not_true]
    exact ⟨_, _, rfl, trivial⟩
  · rintro ρ h2 ⟨o, p, rfl, rfl⟩
    simp only [↓evS_for, ↓evX_lc, ↓evS_zret, forB, lcB, Py.wipe, WS_ex, WX_ex, evSs, evS, evX, evXs, evI, evIfs, bindT, bindTs, WS_thenS, WS_bndS, WS_bnnS, WX_bnd, WX_bnn, WX_ok, WX_lift, WS_nx, WS_rt, pro_v, pro_l, pros, List.getElem?_cons_zero, List.getElem?_cons_succ, List.set_cons_zero, List.set_cons_succ, Option.map_some, Option.some.injEq, exists_eq_left', bop_add, bop_sub, bop_mulL, bop_mulR, bop_mulm, bop_mod, bop_fdiv, bop_powS, blt_int, Int.reduceLT, Int.reducePow, Int.reduceLE, Int.reduceNeg, cE_eq, cE_ne, cE_lt, cE_le, cE_gt, cE_ge, e, contains1, and_self, if_true, setF, put_at_same]
    rw [if_pos ⟨trivial, by simp⟩]
    simp only [↓evS_for, ↓evX_lc, ↓evS_zret, forB, lcB, Py.wipe, WS_ex, WX_ex, evSs, evS, evX, evXs, evI, evIfs, bindT, bindTs, WS_thenS, WS_bndS, WS_bnnS, WX_bnd, WX_bnn, WX_ok, WX_lift, WS_nx, WS_rt, pro_v, pro_l, pros, List.getElem?_cons_zero, List.getElem?_cons_succ, List.set_cons_zero, List.set_cons_succ, Option.map_some, Option.some.injEq, exists_eq_left', bop_add, bop_sub, bop_mulL, bop_mulR, bop_mulm, bop_mod, bop_fdiv, bop_powS, blt_int, Int.reduceLT, Int.reducePow, Int.reduceLE, Int.reduceNeg, cE_eq, cE_ne, cE_lt, cE_le, cE_gt, cE_ge, put_at_same, contains1, setF]
    rw [if_pos ⟨trivial, by simp⟩, if_neg (by decide)]
    exact ⟨trivial, by rw [put_at_same]; rfl, rfl, (Kp.put (by simp)).trans (Kp.put (by simp))⟩
theorem w_blocks [HF P "rests_of" F_rests_of] [HF P "place_by" F_place_by] [HF P "sum_of" F_sum_of] [HF P "shift_of" F_shift_of] [q : HF P "blocks_of" F_blocks_of] {s : Nat} {ms : List Int} {kd : List Int × Int} (ek : h.at_ s = some (sheO ms)) (lk : s < h.sz) (hm : IsMod ms) :
    WX (callF P (n + 4) "blocks_of" [.obj s, bk kd] h) fun d h' => ∃ r, d = .obj r ∧ h.sz ≤ r ∧ r < h'.sz ∧ h'.at_ r = some (.lst ((blocksP ms kd).map bk)) ∧ Kp [] h h' := by
  refine WX_call q.look rfl ?_
  show WS (evSs (callF P (n + 3)) F_blocks_of.body [some (.obj s), some (bk kd), none, none, none] h) _ _ _
  unfold F_blocks_of
  obtain ⟨m1, m2, m3, m5⟩ := hm
  have ef : fldF ["Sheet"] "places" (.v (.obj s)) h = some (.int (prodI ms)) := fld_of ek rfl
  have p0 : 1 ≤ prodI ms := by rw [← prodR]; exact prR_pos fun x hx => (m3 x (List.mem_reverse.mp hx)).1
  simp only [↓evS_for, ↓evX_lc, ↓evS_zret, forB, lcB, Py.wipe, WS_ex, WX_ex, evSs, evS, evX, evXs, evI, evIfs, bindT, bindTs, WS_thenS, WS_bndS, WS_bnnS, WX_bnd, WX_bnn, WX_ok, WX_lift, WS_nx, WS_rt, pro_v, pro_l, pros, List.getElem?_cons_zero, List.getElem?_cons_succ, List.set_cons_zero, List.set_cons_succ, Option.map_some, Option.some.injEq, exists_eq_left', bop_add, bop_sub, bop_mulL, bop_mulR, bop_mulm, bop_mod, bop_fdiv, bop_powS, blt_int, Int.reduceLT, Int.reducePow, Int.reduceLE, Int.reduceNeg, cE_eq, cE_ne, cE_lt, cE_le, cE_gt, cE_ge, bk, ef, walk1 (show 0 ≤ prodI ms by omega) (show prodI ms ≤ 16777216 by omega)]
  unfold rngL
  refine wx_mapK (fun (i : Nat) => bk (shiftP ms kd.1 (i : Int), kd.2)) (by simp) (fun i hi h' kp => ?_) ?_
  · have ek2 : h'.at_ s = some (sheO ms) := by rw [kp.at_ s lk (by simp)]; exact ek
    simp only [↓evS_for, ↓evX_lc, ↓evS_zret, forB, lcB, Py.wipe, WS_ex, WX_ex, evSs, evS, evX, evXs, evI, evIfs, bindT, bindTs, WS_thenS, WS_bndS, WS_bnnS, WX_bnd, WX_bnn, WX_ok, WX_lift, WS_nx, WS_rt, pro_v, pro_l, pros, List.getElem?_cons_zero, List.getElem?_cons_succ, List.set_cons_zero, List.set_cons_succ, Option.map_some, Option.some.injEq, exists_eq_left', bop_add, bop_sub, bop_mulL, bop_mulR, bop_mulm, bop_mod, bop_fdiv, bop_powS, blt_int, Int.reduceLT, Int.reducePow, Int.reduceLE, Int.reduceNeg, cE_eq, cE_ne, cE_lt, cE_le, cE_gt, cE_ge, Int.zero_add]
    refine (w_shift (n := n) ek2 (Nat.lt_of_lt_of_le lk kp.sz) m3 m2).mono ?_
    rintro d h'' ⟨rfl, k2⟩
    exact ⟨rfl, k2⟩
  · intro h' kp
    refine ⟨_, rfl, kp.sz, Nat.lt_succ_self _, ?_, kp.trans Kp.new⟩
    rw [new_at_new]
    unfold blocksP
    rw [List.map_map]
    rfl
theorem blocks_ok {ms : List Int} {kd : List Int × Int} (hm : IsMod ms) (hK : IsKnd (prodI ms) kd) : ∀ p ∈ blocksP ms kd, IsBlk (prodI ms) p := by
  intro p hp
  obtain ⟨i, hi, rfl⟩ := List.mem_map.mp hp
  refine ⟨shift_lot (fun x hx => (hm.2.2.1 x hx).1) hK.1, ?_, hK.2.2.2.1, hK.2.2.2.2⟩
  intro e
  have h1 := shift_len (ms := ms) (lot := kd.1) (p := (i : Int))
  have h2 := hK.2.1
  have e2 : shiftP ms kd.1 (i : Int) = [] := e
  rw [e2] at h1
  simp at h1
  omega
theorem w_tableby [HF P "is_integer" (F_is_integer cs)] [HF P "is_within" F_is_within] [HF P "is_lot" (F_is_lot cs)] [HF P "is_pair" (F_is_pair cs es)] [HF P "is_block" (F_is_block es g0)] [HF P "Table.__init__" (F_Table__init__ cs g1 g2)]
    [HF P "rests_of" F_rests_of] [HF P "place_by" F_place_by] [HF P "sum_of" F_sum_of] [HF P "shift_of" F_shift_of] [HF P "blocks_of" F_blocks_of] [q : HF P "table_by" F_table_by] {L s : Nat} {ms : List Int} {kl : List (List Int × Int)}
    (eL : h.at_ L = some (layO s kl)) (ek : h.at_ s = some (sheO ms)) (lL : L < h.sz) (lk : s < h.sz) (hm : IsMod ms) (l1 : 1 ≤ kl.length) (l2 : kl.length ≤ 3) (hB : ∀ p ∈ kl, IsKnd (prodI ms) p) :
    WX (callF P (n + 6) "table_by" [.obj L] h) fun d h' => ∃ r, d = .obj r ∧ h.sz ≤ r ∧ r < h'.sz ∧ h'.at_ r = some (tabO (prodI ms) (kl.flatMap (blocksP ms))) ∧ Kp [] h h' := by
  refine WX_call q.look rfl ?_
  show WS (evSs (callF P (n + 5)) F_table_by.body [some (.obj L), none, none] h) _ _ _
  unfold F_table_by
  have hm' := hm
  obtain ⟨m1, m2, m3, m5⟩ := hm
  have lb := line_big
  have p0 : 1 ≤ prodI ms := by rw [← prodR]; exact prR_pos fun x hx => (m3 x (List.mem_reverse.mp hx)).1
  have eL1 : (h.new (.lst [])).at_ L = some (layO s kl) := by rw [new_at_old lL]; exact eL
  have ef : fldF ["Layout"] "kinds" (.v (.obj L)) (h.new (.lst [])) = some (.tup (kl.map bk)) := fld_of eL1 rfl
  have bl1 : ∀ kd, (blocksP ms kd).length ≤ 120 := fun kd => by unfold blocksP; simp; omega
  have fl : ∀ i, ((kl.take i).flatMap (blocksP ms)).length ≤ 120 * (kl.take i).length := fun i => by
    generalize kl.take i = l
    induction l with
    | nil => simp
    | cons x r ih =>
      rw [List.flatMap_cons, List.length_append, List.length_cons]
      have := bl1 x
      omega
  have k0 : Kp [] h (h.new (.lst [])) := Kp.new
  have e1 : (h.new (.lst [])).at_ h.sz = some (.lst []) := new_at_new
  have s1 : (h.new (.lst [])).sz = h.sz + 1 := rfl
  simp only [↓evS_for, ↓evX_lc, ↓evS_zret, forB, lcB, Py.wipe, WS_ex, WX_ex, evSs, evS, evX, evXs, evI, evIfs, bindT, bindTs, WS_thenS, WS_bndS, WS_bnnS, WX_bnd, WX_bnn, WX_ok, WX_lift, WS_nx, WS_rt, pro_v, pro_l, pros, List.getElem?_cons_zero, List.getElem?_cons_succ, List.set_cons_zero, List.set_cons_succ, Option.map_some, Option.some.injEq, exists_eq_left', bop_add, bop_sub, bop_mulL, bop_mulR, bop_mulm, bop_mod, bop_fdiv, bop_powS, blt_int, Int.reduceLT, Int.reducePow, Int.reduceLE, Int.reduceNeg, cE_eq, cE_ne, cE_lt, cE_le, cE_gt, cE_ge, ef, walk_tup]
  refine ws_for (I := fun i ρ h2 => ∃ o, ρ = [some (.obj L), some (.obj h.sz), o] ∧ Kp [h.sz] (h.new (.lst [])) h2 ∧ h2.at_ h.sz = some (.lst (((kl.take i).flatMap (blocksP ms)).map bk))) ⟨none, rfl, Kp.refl, by simp⟩ (by intro i ρ h' _ _; simp) ?_ ?_
  · rintro i hi ρ h2 ⟨o, rfl, k1, e2⟩
    rw [List.length_map] at hi
    have hg : (kl.map bk)[i]'(by simpa using hi) = bk kl[i] := by simp
    have k2 : Kp [] h h2 := k0.cut k1 (by simp)
    have eL2 : h2.at_ L = some (layO s kl) := by rw [k2.at_ L lL (by simp)]; exact eL
    have ek2 : h2.at_ s = some (sheO ms) := by rw [k2.at_ s lk (by simp)]; exact ek
    have lk2 : s < h2.sz := Nat.lt_of_lt_of_le lk k2.sz
    have ef2 : fldF ["Layout"] "sheet" (.v (.obj L)) h2 = some (.obj s) := fld_of eL2 rfl
    have ty := ty_lst e2
    simp only [↓evS_for, ↓evX_lc, ↓evS_zret, forB, lcB, Py.wipe, WS_ex, WX_ex, evSs, evS, evX, evXs, evI, evIfs, bindT, bindTs, WS_thenS, WS_bndS, WS_bnnS, WX_bnd, WX_bnn, WX_ok, WX_lift, WS_nx, WS_rt, pro_v, pro_l, pros, List.getElem?_cons_zero, List.getElem?_cons_succ, List.set_cons_zero, List.set_cons_succ, Option.map_some, Option.some.injEq, exists_eq_left', bop_add, bop_sub, bop_mulL, bop_mulR, bop_mulm, bop_mod, bop_fdiv, bop_powS, blt_int, Int.reduceLT, Int.reducePow, Int.reduceLE, Int.reduceNeg, cE_eq, cE_ne, cE_lt, cE_le, cE_gt, cE_ge, hg, ty, and_self, if_true, ef2]
    refine (w_blocks (n := n + 1) (kd := kl[i]) ek2 lk2 hm').monoE ?_ (fun _ _ _ z => z.elim)
    rintro d h3 ⟨r, rfl, r1, r2, er, k3⟩
    have e3 : h3.at_ h.sz = some (.lst (((kl.take i).flatMap (blocksP ms)).map bk)) := by rw [k3.at_ _ (by have := k1.sz; omega) (by simp)]; exact e2
    have hl : (((kl.take i).flatMap (blocksP ms)).map bk).length + ((blocksP ms kl[i]).map bk).length ≤ LINE := by
      have h1 := fl i
      have h2 := bl1 kl[i]
      have h3 : (kl.take i).length ≤ 3 := by rw [List.length_take]; omega
      rw [List.length_map, List.length_map]
      omega
    have em : methF "extend" (.v (.obj h.sz)) [.v (.obj r)] h3 = some (.v .non, h3.put h.sz (.lst (((kl.take i).flatMap (blocksP ms)).map bk ++ (blocksP ms kl[i]).map bk))) := by
      unfold methF
      simp only [e3, mlst, er]
      rw [if_pos hl]
    simp only [↓evS_for, ↓evX_lc, ↓evS_zret, forB, lcB, Py.wipe, WS_ex, WX_ex, evSs, evS, evX, evXs, evI, evIfs, bindT, bindTs, WS_thenS, WS_bndS, WS_bnnS, WX_bnd, WX_bnn, WX_ok, WX_lift, WS_nx, WS_rt, pro_v, pro_l, pros, List.getElem?_cons_zero, List.getElem?_cons_succ, List.set_cons_zero, List.set_cons_succ, Option.map_some, Option.some.injEq, exists_eq_left', bop_add, bop_sub, bop_mulL, bop_mulR, bop_mulm, bop_mod, bop_fdiv, bop_powS, blt_int, Int.reduceLT, Int.reducePow, Int.reduceLE, Int.reduceNeg, cE_eq, cE_ne, cE_lt, cE_le, cE_gt, cE_ge, em]
    refine ⟨_, rfl, ?_, ?_⟩
    · exact k1.trans ((k3.mono fun _ z => by cases z).trans (Kp.put (by simp)))
    · rw [put_at_same, List.take_succ_eq_append_getElem hi, List.flatMap_append, List.map_append]
      simp
  · rintro ρ h2 ⟨o, rfl, k1, e2⟩
    rw [List.length_map, List.take_length] at e2
    have k2 : Kp [] h h2 := k0.cut k1 (by simp)
    have eL2 : h2.at_ L = some (layO s kl) := by rw [k2.at_ L lL (by simp)]; exact eL
    have ek2 : h2.at_ s = some (sheO ms) := by rw [k2.at_ s lk (by simp)]; exact ek
    have ef2 : fldF ["Layout"] "sheet" (.v (.obj L)) h2 = some (.obj s) := fld_of eL2 rfl
    have ef3 : fldF ["Sheet"] "places" (.v (.obj s)) h2 = some (.int (prodI ms)) := fld_of ek2 rfl
    have ne : kl.flatMap (blocksP ms) ≠ [] := by
      intro e
      cases kl with
      | nil => simp at l1
      | cons x r =>
        rw [List.flatMap_cons, List.append_eq_nil_iff] at e
        have := congrArg List.length e.1
        unfold blocksP at this
        simp at this
        omega
    have le : (kl.flatMap (blocksP ms)).length ≤ 360 := by
      have := fl kl.length
      rw [List.take_length] at this
      omega
    simp only [↓evS_for, ↓evX_lc, ↓evS_zret, forB, lcB, Py.wipe, WS_ex, WX_ex, evSs, evS, evX, evXs, evI, evIfs, bindT, bindTs, WS_thenS, WS_bndS, WS_bnnS, WX_bnd, WX_bnn, WX_ok, WX_lift, WS_nx, WS_rt, pro_v, pro_l, pros, List.getElem?_cons_zero, List.getElem?_cons_succ, List.set_cons_zero, List.set_cons_succ, Option.map_some, Option.some.injEq, exists_eq_left', bop_add, bop_sub, bop_mulL, bop_mulR, bop_mulm, bop_mod, bop_fdiv, bop_powS, blt_int, Int.reduceLT, Int.reducePow, Int.reduceLE, Int.reduceNeg, cE_eq, cE_ne, cE_lt, cE_le, cE_gt, cE_ge, ef2, ef3, tup_lst e2]
    refine (w_tabi (cs := cs) (es := es) (g0 := g0) (g1 := g1) (g2 := g2) (n := n) (k := h2.sz) new_at_new p0 m5 ne le ?_).monoE ?_ (fun _ _ _ z => z.elim)
    · intro p hp
      obtain ⟨kd, hkd, hp⟩ := List.mem_flatMap.mp hp
      exact blocks_ok hm' (hB kd hkd) p hp
    · rintro d h3 ⟨rfl, e3, z3, k3⟩
      simp only [↓evS_for, ↓evX_lc, ↓evS_zret, forB, lcB, Py.wipe, WS_ex, WX_ex, evSs, evS, evX, evXs, evI, evIfs, bindT, bindTs, WS_thenS, WS_bndS, WS_bnnS, WX_bnd, WX_bnn, WX_ok, WX_lift, WS_nx, WS_rt, pro_v, pro_l, pros, List.getElem?_cons_zero, List.getElem?_cons_succ, List.set_cons_zero, List.set_cons_succ, Option.map_some, Option.some.injEq, exists_eq_left', bop_add, bop_sub, bop_mulL, bop_mulR, bop_mulm, bop_mod, bop_fdiv, bop_powS, blt_int, Int.reduceLT, Int.reducePow, Int.reduceLE, Int.reduceNeg, cE_eq, cE_ne, cE_lt, cE_le, cE_gt, cE_ge]
      exact ⟨_, rfl, k2.sz, by rw [z3]; exact Nat.lt_succ_self _, e3, (k2.trans Kp.new).cut k3 (by simp; exact k2.sz)⟩
theorem w_tableof [HF P "is_integer" (F_is_integer cs)] [HF P "is_within" F_is_within] [HF P "is_lot" (F_is_lot cs)] [HF P "is_pair" (F_is_pair cs es)] [HF P "is_block" (F_is_block es g0)] [HF P "Table.__init__" (F_Table__init__ cs g1 g2)]
    [HF P "rests_of" F_rests_of] [HF P "place_by" F_place_by] [HF P "sum_of" F_sum_of] [HF P "shift_of" F_shift_of] [HF P "blocks_of" F_blocks_of] [HF P "table_by" F_table_by] [q : HF P "table_of" F_table_of] {L s : Nat} {ms : List Int} {kl : List (List Int × Int)}
    (eL : h.at_ L = some (layO s kl)) (ek : h.at_ s = some (sheO ms)) (lL : L < h.sz) (lk : s < h.sz) (hm : IsMod ms) (l1 : 1 ≤ kl.length) (l2 : kl.length ≤ 3) (hB : ∀ p ∈ kl, IsKnd (prodI ms) p) :
    WX (callF P (n + 7) "table_of" [.obj L] h) fun d h' => ∃ r, d = .obj r ∧ h.sz ≤ r ∧ r < h'.sz ∧ h'.at_ r = some (tabO (prodI ms) (kl.flatMap (blocksP ms))) ∧ Kp [] h h' := by
  refine WX_call q.look rfl ?_
  show WS (evSs (callF P (n + 6)) F_table_of.body [some (.obj L)] h) _ _ _
  unfold F_table_of
  simp only [↓evS_for, ↓evX_lc, ↓evS_zret, forB, lcB, Py.wipe, WS_ex, WX_ex, evSs, evS, evX, evXs, evI, evIfs, bindT, bindTs, WS_thenS, WS_bndS, WS_bnnS, WX_bnd, WX_bnn, WX_ok, WX_lift, WS_nx, WS_rt, pro_v, pro_l, pros, List.getElem?_cons_zero, List.getElem?_cons_succ, List.set_cons_zero, List.set_cons_succ, Option.map_some, Option.some.injEq, exists_eq_left', bop_add, bop_sub, bop_mulL, bop_mulR, bop_mulm, bop_mod, bop_fdiv, bop_powS, blt_int, Int.reduceLT, Int.reducePow, Int.reduceLE, Int.reduceNeg, cE_eq, cE_ne, cE_lt, cE_le, cE_gt, cE_ge]
  refine (w_tableby (cs := cs) (es := es) (g0 := g0) (g1 := g1) (g2 := g2) (n := n) eL ek lL lk hm l1 l2 hB).monoE ?_ (fun _ _ _ z => z.elim)
  intro d h' q
  exact q
end
end Py


set_option Elab.async false
set_option linter.all false
set_option maxRecDepth 100000
set_option maxHeartbeats 4000000
/-! G7: the tape of draws (as k03 k04 k05 k09 have it). -/
namespace Py
open PySem (Str PyData)
/-- _law_tape: _law_script -/
def F__law_tape : Fn := ⟨1, 1, (.cons (.ret (.lst (.cons (.blt "list" (.cons (.var 0) .nil)) (.cons (.cst (.int 0)) (.cons (.cst (.int 0)) (.cons (.cst (.int 1)) (.cons (.cst (.int 0)) .nil))))))) .nil)⟩
/-- _law_pick: _law_tape_here, _law_many, _law_cell, _law_mixed, _law_digit -/
def F__law_pick : Fn := ⟨2, 5, (.cons (.ifs (.cmp .gt [] (.idx (.var 0) (.cst (.int 2))) (.cst (.int 1))) (.cons (.asg (.nm 4) (.bin .mod (.blt "int" (.cons (.idx (.var 0) (.cst (.int 2))) .nil)) (.var 1))) (.cons (.asg (.ix (.var 0) (.cst (.int 2))) (.bin .fdiv (.idx (.var 0) (.cst (.int 2))) (.var 1))) (.cons (.ret (.var 4)) .nil))) .nil) (.cons (.asg (.ix (.var 0) (.cst (.int 4))) (.bin .add (.idx (.var 0) (.cst (.int 4))) (.cst (.int 1)))) (.cons (.asg (.nm 2) (.cst (.int 0))) (.cons (.ifs (.cmp .lt [] (.idx (.var 0) (.cst (.int 1))) (.blt "len" (.cons (.idx (.var 0) (.cst (.int 0))) .nil))) (.cons (.asg (.nm 2) (.idx (.idx (.var 0) (.cst (.int 0))) (.idx (.var 0) (.cst (.int 1))))) (.cons (.asg (.ix (.var 0) (.cst (.int 1))) (.bin .add (.idx (.var 0) (.cst (.int 1))) (.cst (.int 1)))) .nil)) .nil) (.cons (.ifs (.cmp .ge [] (.var 2) (.bin .pow (.cst (.int 10)) (.cst (.int 18)))) (.cons (.asg (.ix (.var 0) (.cst (.int 2))) (.bin .fdiv (.var 2) (.var 1))) (.cons (.ret (.bin .mod (.blt "int" (.cons (.var 2) .nil)) (.var 1))) .nil)) .nil) (.cons (.asg (.nm 3) (.blt "int" (.cons (.bin .add (.bin .mul (.idx (.var 0) (.cst (.int 3))) (.cst (.int 48271))) (.bin .mul (.idx (.var 0) (.cst (.int 4))) (.cst (.int 69621)))) .nil))) (.cons (.asg (.nm 3) (.bin .mod (.blt "int" (.cons (.bin .add (.var 3) (.bin .mod (.blt "int" (.cons (.var 2) .nil)) (.cst (.int 2147483629)))) .nil)) (.cst (.int 2147483647)))) (.cons (.asg (.nm 3) (.bin .mod (.blt "int" (.cons (.bin .mul (.var 3) (.bin .add (.bin .fdiv (.var 3) (.cst (.int 1009))) (.cst (.int 40692)))) .nil)) (.cst (.int 2147483399)))) (.cons (.asg (.ix (.var 0) (.cst (.int 3))) (.var 3)) (.cons (.ret (.bin .mod (.blt "int" (.cons (.bin .fdiv (.var 3) (.cst (.int 16))) .nil)) (.var 1))) .nil))))))))))⟩
/-- _law_any: _law_tape_here, _law_some -/
def F__law_any : Fn := ⟨2, 2, (.cons (.ret (.idx (.var 1) (.call "_law_pick" (.cons (.var 0) (.cons (.blt "len" (.cons (.var 1) .nil)) .nil))))) .nil)⟩

/-- the tape: cells, place, great number, mixed, count -/
structure Tape (t s : Nat) (cs : List Int) (p : Nat) (c m k : Int) (h : Hd) : Prop where
  at0 : h.at_ t = some (.lst [.obj s, .int (p : Int), .int c, .int m, .int k])
  at1 : h.at_ s = some (.lst (cs.map .int))
  ne : t ≠ s
  l0 : t < h.sz
  l1 : s < h.sz
def TapeE (t s : Nat) (cs : List Int) (h : Hd) : Prop := ∃ p c m k, Tape t s cs p c m k h
theorem TapeE.kp {t s : Nat} {cs : List Int} {h h' : Hd} (H : TapeE t s cs h) (k : Kp [] h h') : TapeE t s cs h' := by
  obtain ⟨p, c, m, j, H⟩ := H
  exact ⟨p, c, m, j, by rw [k.at_ _ H.l0 (by simp)]; exact H.at0, by rw [k.at_ _ H.l1 (by simp)]; exact H.at1, H.ne, Nat.lt_of_lt_of_le H.l0 k.sz, Nat.lt_of_lt_of_le H.l1 k.sz⟩
theorem TapeE.new {t s : Nat} {cs : List Int} {h : Hd} {o : O} (H : TapeE t s cs h) : TapeE t s cs (h.new o) := H.kp Kp.new
theorem TapeE.put {t s : Nat} {cs : List Int} {h : Hd} {o : O} {n : Nat} (H : TapeE t s cs h) (h0 : n ≠ t) (h1 : n ≠ s) : TapeE t s cs (h.put n o) := by
  obtain ⟨p, c, m, j, H⟩ := H
  exact ⟨p, c, m, j, by rw [put_at_ne h0.symm]; exact H.at0, by rw [put_at_ne h1.symm]; exact H.at1, H.ne, H.l0, H.l1⟩
theorem TapeE.lt {t s : Nat} {cs : List Int} {h : Hd} (H : TapeE t s cs h) : t < h.sz ∧ s < h.sz := by
  obtain ⟨p, c, m, j, H⟩ := H
  exact ⟨H.l0, H.l1⟩
theorem Tape.set {t s : Nat} {cs : List Int} {p p' : Nat} {c m k c' m' k' : Int} {h : Hd} (H : Tape t s cs p c m k h) : Tape t s cs p' c' m' k' (h.put t (.lst [.obj s, .int (p' : Int), .int c', .int m', .int k'])) :=
  ⟨put_at_same, by rw [put_at_ne H.ne.symm]; exact H.at1, H.ne, H.l0, H.l1⟩
theorem Tape.i0 {t s : Nat} {cs : List Int} {p : Nat} {c m k : Int} {h : Hd} (H : Tape t s cs p c m k h) : idxF (.v (.obj t)) (.v (.int 0)) h = some (.obj s) := by rw [idx_lst H.at0]; rfl
theorem Tape.i1 {t s : Nat} {cs : List Int} {p : Nat} {c m k : Int} {h : Hd} (H : Tape t s cs p c m k h) : idxF (.v (.obj t)) (.v (.int 1)) h = some (.int (p : Int)) := by rw [idx_lst H.at0]; rfl
theorem Tape.i2 {t s : Nat} {cs : List Int} {p : Nat} {c m k : Int} {h : Hd} (H : Tape t s cs p c m k h) : idxF (.v (.obj t)) (.v (.int 2)) h = some (.int c) := by rw [idx_lst H.at0]; rfl
theorem Tape.i3 {t s : Nat} {cs : List Int} {p : Nat} {c m k : Int} {h : Hd} (H : Tape t s cs p c m k h) : idxF (.v (.obj t)) (.v (.int 3)) h = some (.int m) := by rw [idx_lst H.at0]; rfl
theorem Tape.i4 {t s : Nat} {cs : List Int} {p : Nat} {c m k : Int} {h : Hd} (H : Tape t s cs p c m k h) : idxF (.v (.obj t)) (.v (.int 4)) h = some (.int k) := by rw [idx_lst H.at0]; rfl
theorem Tape.s1 {t s : Nat} {cs : List Int} {p : Nat} {c m k : Int} {h : Hd} (H : Tape t s cs p c m k h) : setX (.v (.obj t)) (.v (.int 1)) (.int ((p : Int) + 1)) h = some (.ok () (h.put t (.lst [.obj s, .int ((p + 1 : Nat) : Int), .int c, .int m, .int k]))) := by
  rw [show ((p + 1 : Nat) : Int) = (p : Int) + 1 from by omega]
  exact set_lst (i := 1) H.at0 (by simp)
theorem Tape.s2 {t s : Nat} {cs : List Int} {p : Nat} {c m k : Int} {h : Hd} {x : Int} (H : Tape t s cs p c m k h) : setX (.v (.obj t)) (.v (.int 2)) (.int x) h = some (.ok () (h.put t (.lst [.obj s, .int (p : Int), .int x, .int m, .int k]))) := set_lst (i := 2) H.at0 (by simp)
theorem Tape.s3 {t s : Nat} {cs : List Int} {p : Nat} {c m k : Int} {h : Hd} {x : Int} (H : Tape t s cs p c m k h) : setX (.v (.obj t)) (.v (.int 3)) (.int x) h = some (.ok () (h.put t (.lst [.obj s, .int (p : Int), .int c, .int x, .int k]))) := set_lst (i := 3) H.at0 (by simp)
theorem Tape.s4 {t s : Nat} {cs : List Int} {p : Nat} {c m k : Int} {h : Hd} {x : Int} (H : Tape t s cs p c m k h) : setX (.v (.obj t)) (.v (.int 4)) (.int x) h = some (.ok () (h.put t (.lst [.obj s, .int (p : Int), .int c, .int m, .int x]))) := set_lst (i := 4) H.at0 (by simp)
section
variable {P : Prog} {cs es : List String} {n : Nat} {h : Hd}
theorem w_tape [q : HF P "_law_tape" F__law_tape] {ns : List Int} : WX (callF P (n + 1) "_law_tape" [.rol (ns.map .int)] h) fun d h' => d = .obj (h.sz + 1) ∧ TapeE (h.sz + 1) h.sz ns h' ∧ Kp [] h h' := by
  refine WX_call q.look rfl ?_
  show WS (evSs (callF P n) F__law_tape.body [some (.rol (ns.map .int))] h) _ _ _
  unfold F__law_tape
  have e : bltF "list" [.v (.rol (ns.map .int))] h = some (.l (ns.map .int)) := rfl
  simp only [↓evS_for, ↓evX_lc, ↓evS_zret, forB, lcB, Py.wipe, WS_ex, WX_ex, evSs, evS, evX, evXs, evI, evIfs, bindT, bindTs, WS_thenS, WS_bndS, WS_bnnS, WX_bnd, WX_bnn, WX_ok, WX_lift, WS_nx, WS_rt, pro_v, pro_l, pros, List.getElem?_cons_zero, List.getElem?_cons_succ, List.set_cons_zero, List.set_cons_succ, Option.map_some, Option.some.injEq, exists_eq_left', bop_add, bop_sub, bop_mulL, bop_mulR, bop_mulm, bop_mod, bop_fdiv, bop_powS, blt_int, Int.reduceLT, Int.reducePow, Int.reduceLE, Int.reduceNeg, cE_eq, cE_ne, cE_lt, cE_le, cE_gt, cE_ge, e]
  exact ⟨rfl, ⟨0, 0, 1, 0, new_at_new, by rw [new_at_old (Nat.lt_succ_self _)]; exact new_at_new, by omega, by simp, by simp; omega⟩, Kp.new.trans Kp.new⟩
theorem w_pick [q : HF P "_law_pick" F__law_pick] {t s : Nat} {ns : List Int} {m : Int} (H : TapeE t s ns h) (hm : 0 < m) (hm2 : m < 2 ^ 200) : WX (callF P (n + 1) "_law_pick" [.obj t, .int m] h) fun d h' => ∃ v, d = .int v ∧ 0 ≤ v ∧ v < m ∧ TapeE t s ns h' ∧ Kp [t] h h' ∧ h'.sz = h.sz := by
  refine WX_call q.look rfl ?_
  show WS (evSs (callF P n) F__law_pick.body [some (.obj t), some (.int m), none, none, none] h) _ _ _
  unfold F__law_pick
  obtain ⟨p, c, mi, k, H⟩ := H
  by_cases hc : 1 < c
  · simp only [↓evS_for, ↓evX_lc, ↓evS_zret, forB, lcB, Py.wipe, WS_ex, WX_ex, evSs, evS, evX, evXs, evI, evIfs, bindT, bindTs, WS_thenS, WS_bndS, WS_bnnS, WX_bnd, WX_bnn, WX_ok, WX_lift, WS_nx, WS_rt, pro_v, pro_l, pros, List.getElem?_cons_zero, List.getElem?_cons_succ, List.set_cons_zero, List.set_cons_succ, Option.map_some, Option.some.injEq, exists_eq_left', bop_add, bop_sub, bop_mulL, bop_mulR, bop_mulm, bop_mod, bop_fdiv, bop_powS, blt_int, Int.reduceLT, Int.reducePow, Int.reduceLE, Int.reduceNeg, cE_eq, cE_ne, cE_lt, cE_le, cE_gt, cE_ge, H.i2, decide_eq_true hc, H.s2, bop_mod hm, bop_fdiv hm hm2]
    exact ⟨_, rfl, Int.emod_nonneg _ (by omega), Int.emod_lt_of_pos _ hm, ⟨_, _, _, _, H.set⟩, Kp.put (by simp), rfl⟩
  · rw [evSs, WS_thenS]
    simp only [evS, ↓evX_lc, ↓evS_zret, forB, lcB, Py.wipe, WS_ex, WX_ex, evX, evXs, evI, evIfs, bindT, bindTs, WS_thenS, WS_bndS, WS_bnnS, WX_bnd, WX_bnn, WX_ok, WX_lift, WS_nx, WS_rt, pro_v, pro_l, pros, List.getElem?_cons_zero, List.getElem?_cons_succ, List.set_cons_zero, List.set_cons_succ, Option.map_some, Option.some.injEq, exists_eq_left', bop_add, bop_sub, bop_mulL, bop_mulR, bop_mulm, bop_mod, bop_fdiv, bop_powS, blt_int, Int.reduceLT, Int.reducePow, Int.reduceLE, Int.reduceNeg, cE_eq, cE_ne, cE_lt, cE_le, cE_gt, cE_ge, H.i2, decide_eq_false hc]
    rw [evSs, WS_nx]
    rw [evSs, WS_thenS]
    simp only [evS, ↓evX_lc, ↓evS_zret, forB, lcB, Py.wipe, WS_ex, WX_ex, evX, evXs, evI, evIfs, bindT, bindTs, WS_thenS, WS_bndS, WS_bnnS, WX_bnd, WX_bnn, WX_ok, WX_lift, WS_nx, WS_rt, pro_v, pro_l, pros, List.getElem?_cons_zero, List.getElem?_cons_succ, List.set_cons_zero, List.set_cons_succ, Option.map_some, Option.some.injEq, exists_eq_left', bop_add, bop_sub, bop_mulL, bop_mulR, bop_mulm, bop_mod, bop_fdiv, bop_powS, blt_int, Int.reduceLT, Int.reducePow, Int.reduceLE, Int.reduceNeg, cE_eq, cE_ne, cE_lt, cE_le, cE_gt, cE_ge, H.i4, H.s4]
    have H1 : Tape t s ns p c mi (k + 1) (h.put t (.lst [.obj s, .int (p : Int), .int c, .int mi, .int (k + 1)])) := H.set
    have k1 : Kp [t] h (h.put t (.lst [.obj s, .int (p : Int), .int c, .int mi, .int (k + 1)])) := Kp.put (by simp)
    have z1 : (h.put t (.lst [.obj s, .int (p : Int), .int c, .int mi, .int (k + 1)])).sz = h.sz := rfl
    generalize h.put t (.lst [.obj s, .int (p : Int), .int c, .int mi, .int (k + 1)]) = h1 at H1 k1 z1
    rw [evSs, WS_thenS]
    simp only [evS, ↓evX_lc, ↓evS_zret, forB, lcB, Py.wipe, WS_ex, WX_ex, evX, evXs, evI, evIfs, bindT, bindTs, WS_thenS, WS_bndS, WS_bnnS, WX_bnd, WX_bnn, WX_ok, WX_lift, WS_nx, WS_rt, pro_v, pro_l, pros, List.getElem?_cons_zero, List.getElem?_cons_succ, List.set_cons_zero, List.set_cons_succ, Option.map_some, Option.some.injEq, exists_eq_left', bop_add, bop_sub, bop_mulL, bop_mulR, bop_mulm, bop_mod, bop_fdiv, bop_powS, blt_int, Int.reduceLT, Int.reducePow, Int.reduceLE, Int.reduceNeg, cE_eq, cE_ne, cE_lt, cE_le, cE_gt, cE_ge]
    rw [evSs, WS_thenS]
    refine WS.mono (N := fun ρ h2 => ∃ (cell : Int) (p2 : Nat), ρ = [some (.obj t), some (.int m), some (.int cell), none, none] ∧ Tape t s ns p2 c mi (k + 1) h2 ∧ Kp [t] h h2 ∧ h2.sz = h.sz) (T := fun _ _ => False) ?_ ?_ (fun _ _ z => z.elim)
    · by_cases hp : p < ns.length
      · have d0 : decide ((p : Int) < ((ns.map D.int).length : Int)) = true := decide_eq_true (by simp; exact hp)
        have e0 : idxF (.v (.obj s)) (.v (.int (p : Int))) h1 = some (.int ns[p]) := by rw [idx_lst H1.at1]; exact at_nat (map_get ns p hp)
        simp only [↓evS_for, ↓evX_lc, ↓evS_zret, forB, lcB, Py.wipe, WS_ex, WX_ex, evSs, evS, evX, evXs, evI, evIfs, bindT, bindTs, WS_thenS, WS_bndS, WS_bnnS, WX_bnd, WX_bnn, WX_ok, WX_lift, WS_nx, WS_rt, pro_v, pro_l, pros, List.getElem?_cons_zero, List.getElem?_cons_succ, List.set_cons_zero, List.set_cons_succ, Option.map_some, Option.some.injEq, exists_eq_left', bop_add, bop_sub, bop_mulL, bop_mulR, bop_mulm, bop_mod, bop_fdiv, bop_powS, blt_int, Int.reduceLT, Int.reducePow, Int.reduceLE, Int.reduceNeg, cE_eq, cE_ne, cE_lt, cE_le, cE_gt, cE_ge, H1.i0, H1.i1, len_lst H1.at1, d0, e0, H1.s1]
        exact ⟨_, _, rfl, H1.set, k1.trans (Kp.put (by simp)), z1⟩
      · have d0 : decide ((p : Int) < ((ns.map D.int).length : Int)) = false := decide_eq_false (by simp; omega)
        simp only [↓evS_for, ↓evX_lc, ↓evS_zret, forB, lcB, Py.wipe, WS_ex, WX_ex, evSs, evS, evX, evXs, evI, evIfs, bindT, bindTs, WS_thenS, WS_bndS, WS_bnnS, WX_bnd, WX_bnn, WX_ok, WX_lift, WS_nx, WS_rt, pro_v, pro_l, pros, List.getElem?_cons_zero, List.getElem?_cons_succ, List.set_cons_zero, List.set_cons_succ, Option.map_some, Option.some.injEq, exists_eq_left', bop_add, bop_sub, bop_mulL, bop_mulR, bop_mulm, bop_mod, bop_fdiv, bop_powS, blt_int, Int.reduceLT, Int.reducePow, Int.reduceLE, Int.reduceNeg, cE_eq, cE_ne, cE_lt, cE_le, cE_gt, cE_ge, H1.i0, H1.i1, len_lst H1.at1, d0]
        exact ⟨_, _, rfl, H1, k1, z1⟩
    · rintro ρ h2 ⟨cell, p2, rfl, H2, k2, z2⟩
      have ep : (10 : Int) ^ (18 : Int).toNat = 1000000000000000000 := by decide
      by_cases hb : (1000000000000000000 : Int) ≤ cell
      · have d0 : decide ((10 : Int) ^ (18 : Int).toNat ≤ cell) = true := decide_eq_true (by rw [ep]; exact hb)
        have d0' : decide ((1000000000000000000 : Int) ≤ cell) = true := decide_eq_true hb
        simp only [↓evS_for, ↓evX_lc, ↓evS_zret, forB, lcB, Py.wipe, WS_ex, WX_ex, evSs, evS, evX, evXs, evI, evIfs, bindT, bindTs, WS_thenS, WS_bndS, WS_bnnS, WX_bnd, WX_bnn, WX_ok, WX_lift, WS_nx, WS_rt, pro_v, pro_l, pros, List.getElem?_cons_zero, List.getElem?_cons_succ, List.set_cons_zero, List.set_cons_succ, Option.map_some, Option.some.injEq, exists_eq_left', bop_add, bop_sub, bop_mulL, bop_mulR, bop_mulm, bop_mod, bop_fdiv, bop_powS, blt_int, Int.reduceLT, Int.reducePow, Int.reduceLE, Int.reduceNeg, cE_eq, cE_ne, cE_lt, cE_le, cE_gt, cE_ge, d0, d0', H2.s2, bop_mod hm, bop_fdiv hm hm2]
        exact ⟨_, rfl, Int.emod_nonneg _ (by omega), Int.emod_lt_of_pos _ hm, ⟨_, _, _, _, H2.set⟩, k2.trans (Kp.put (by simp)), z2⟩
      · have d0 : decide ((10 : Int) ^ (18 : Int).toNat ≤ cell) = false := decide_eq_false (by rw [ep]; exact hb)
        have d0' : decide ((1000000000000000000 : Int) ≤ cell) = false := decide_eq_false hb
        simp only [↓evS_for, ↓evX_lc, ↓evS_zret, forB, lcB, Py.wipe, WS_ex, WX_ex, evSs, evS, evX, evXs, evI, evIfs, bindT, bindTs, WS_thenS, WS_bndS, WS_bnnS, WX_bnd, WX_bnn, WX_ok, WX_lift, WS_nx, WS_rt, pro_v, pro_l, pros, List.getElem?_cons_zero, List.getElem?_cons_succ, List.set_cons_zero, List.set_cons_succ, Option.map_some, Option.some.injEq, exists_eq_left', bop_add, bop_sub, bop_mulL, bop_mulR, bop_mulm, bop_mod, bop_fdiv, bop_powS, blt_int, Int.reduceLT, Int.reducePow, Int.reduceLE, Int.reduceNeg, cE_eq, cE_ne, cE_lt, cE_le, cE_gt, cE_ge, d0, d0', H2.i3, H2.i4, H2.s3, hm, hm2]
        exact ⟨_, rfl, Int.emod_nonneg _ (by omega), Int.emod_lt_of_pos _ hm, ⟨_, _, _, _, H2.set⟩, k2.trans (Kp.put (by simp)), z2⟩
end
end Py


set_option Elab.async false
set_option linter.all false
set_option maxRecDepth 100000
set_option maxHeartbeats 4000000
/-! K09a: the law's own likeness, its losses, its worst. -/
namespace Py
open PySem (Str PyData)
/-- _law_same: _law_told, _law_due, _law_at, _law_one -/
def F__law_same (cs es : List String) : Fn := ⟨2, 4, (.cons (.ifs (.isi (.var 1) ["tuple", "list"] cs) (.cons (.ifs (.bor (.cmp .ne es (.isi (.var 1) ["list"] cs) (.isi (.var 0) ["list"] cs)) (.cmp .ne es (.isi (.var 1) ["tuple"] cs) (.isi (.var 0) ["tuple"] cs))) (.cons (.ret (.cst (.bl false))) .nil) .nil) (.cons (.ret (.band (.cmp .eq es (.blt "len" (.cons (.var 0) .nil)) (.blt "len" (.cons (.var 1) .nil))) (.blt "all" (.cons (.lc (.tp (.cons (.nm 2) (.cons (.nm 3) .nil))) [2, 3] (.enm (.var 1)) .nil (.call "_law_same" (.cons (.idx (.var 0) (.var 2)) (.cons (.var 3) .nil)))) .nil)))) .nil)) .nil) (.cons (.ifs (.bor (.isi (.var 1) ["bool"] cs) (.isi (.var 0) ["bool"] cs)) (.cons (.ret (.band (.isi (.var 1) ["bool"] cs) (.band (.isi (.var 0) ["bool"] cs) (.cmp .eq es (.var 0) (.var 1))))) .nil) .nil) (.cons (.ret (.band (.cmp .eq es (.var 0) (.var 1)) (.bor (.cmp .iss [] (.var 1) (.cst .non)) (.isi (.var 0) ["int", "str"] cs)))) .nil)))⟩
/-- _law_losses: _law_many, _law_size, _law_got, _law_turn, _law_later, _law_lot, _law_one -/
def F__law_losses : Fn := ⟨2, 7, (.cons (.asg (.nm 2) (.lst (.cons (.tup .nil) .nil))) (.cons (.forr (.nm 3) (.rng (.cons (.var 1) .nil)) (.cons (.asg (.nm 4) (.lst .nil)) (.cons (.forr (.nm 5) (.seq (.var 2)) (.cons (.ex (.bm "list" "extend" (.var 4) (.cons (.lc (.nm 6) [6] (.rng (.cons (.ite (.cmp .gt [] (.blt "len" (.cons (.var 5) .nil)) (.cst (.int 0))) (.bin .add (.idx (.var 5) (.neg (.cst (.int 1)))) (.cst (.int 1))) (.cst (.int 0))) (.cons (.var 0) .nil))) .nil (.bin .add (.var 5) (.tup (.cons (.var 6) .nil)))) .nil))) .nil)) (.cons (.asg (.nm 2) (.var 4)) .nil)))) (.cons (.ret (.var 2)) .nil)))⟩
/-- _law_worst: _law_blocks, _law_boxes, _law_many, _law_masks, _law_got, _law_loss, _law_lost, _law_own, _law_lot, _law_weight, _law_box, _law_mask -/
def F__law_worst (es : List String) : Fn := ⟨3, 12, (.cons (.asg (.nm 3) (.lc (.tp (.cons (.nm 8) (.cons (.nm 9) .nil))) [8, 9] (.seq (.var 0)) .nil (.tup (.cons (.blt "sum" (.cons (.lc (.nm 10) [10] (.seq (.var 8)) .nil (.bin .shl (.cst (.int 1)) (.var 10))) .nil)) (.cons (.var 9) .nil))))) (.cons (.asg (.nm 4) (.cst .non)) (.cons (.forr (.nm 5) (.seq (.call "_law_losses" (.cons (.var 1) (.cons (.var 2) .nil)))) (.cons (.asg (.nm 6) (.blt "sum" (.cons (.lc (.nm 10) [10] (.seq (.var 5)) .nil (.bin .shl (.cst (.int 1)) (.var 10))) .nil))) (.cons (.asg (.nm 7) (.blt "sum" (.cons (.lc (.tp (.cons (.nm 11) (.cons (.nm 9) .nil))) [11, 9] (.seq (.var 3)) (.cons (.cmp .eq es (.bin .band (.var 11) (.var 6)) (.var 11)) .nil) (.var 9)) .nil))) (.cons (.ifs (.bor (.cmp .iss [] (.var 4) (.cst .non)) (.cmp .gt [] (.var 7) (.idx (.var 4) (.cst (.int 0))))) (.cons (.asg (.nm 4) (.tup (.cons (.var 7) (.cons (.var 5) .nil)))) .nil) .nil) .nil)))) (.cons (.ret (.var 4)) .nil))))⟩

theorem cE_neB {Φ : Calls} {cs : List String} {p : Bool} {h : Hd} : cmpE Φ .ne cs (.v (.bl p)) (.v (.bl p)) h = some (.ok false h) := by
  rw [cmpE_of rfl]
  unfold cmpop
  simp only [dat, toP]
  rw [if_pos (show PySem.SeqAt.shaped (.bool p) = true ∧ PySem.SeqAt.shaped (.bool p) = true from ⟨rfl, rfl⟩)]
  cases p <;> rfl
theorem iss_int {Φ : Calls} {cs : List String} {i : Int} {h : Hd} : cmpE Φ .iss cs (.v (.int i)) (.v .non) h = some (.ok false h) := by
  rw [cmpE_of rfl]
  rfl
theorem isi_int2 {cs : List String} {i : Int} {h : Hd} : isiF cs ["tuple", "list"] (.v (.int i)) h = some (.v (.bl false)) := rfl
theorem isi_int3 {cs : List String} {i : Int} {h : Hd} : isiF cs ["int", "str"] (.v (.int i)) h = some (.v (.bl true)) := rfl
theorem isi_tup2 {cs : List String} {xs : List D} {h : Hd} : isiF cs ["tuple", "list"] (.v (.tup xs)) h = some (.v (.bl true)) := rfl
theorem isi_tupl {cs : List String} {xs : List D} {h : Hd} : isiF cs ["list"] (.v (.tup xs)) h = some (.v (.bl false)) := rfl
theorem isi_lst {cs : List String} {k : Nat} {xs : List D} {h : Hd} (e : h.at_ k = some (.lst xs)) : isiF cs ["list"] (.v (.obj k)) h = some (.v (.bl true)) := by
  unfold isiF insOf
  simp only [e, (ty_lst e).2]
  simp [isTy, e]
theorem isi_lstt {cs : List String} {k : Nat} {xs : List D} {h : Hd} (e : h.at_ k = some (.lst xs)) : isiF cs ["tuple"] (.v (.obj k)) h = some (.v (.bl false)) := by
  unfold isiF insOf
  simp only [e, (ty_lst e).2]
  simp [isTy, e]
theorem isi_lst2 {cs : List String} {k : Nat} {xs : List D} {h : Hd} (e : h.at_ k = some (.lst xs)) : isiF cs ["tuple", "list"] (.v (.obj k)) h = some (.v (.bl true)) := by
  unfold isiF insOf
  simp only [e, (ty_lst e).2]
  simp [isTy, e]
theorem wk_enumD {x : TV} {xs : List D} {h : Hd} (e : seqOf x h = some xs) : lift ((seqOf x h).map fun xs => (⟨enumL xs, gOf x h⟩ : Wk)) h = some (.ok ⟨enumL xs, gOf x h⟩ h) := by
  rw [e]
  rfl
section
variable {P : Prog} {cs es : List String} {n : Nat} {h : Hd}
theorem c_same_int [q : HF P "_law_same" (F__law_same cs es)] {i : Int} : callF P (n + 1) "_law_same" [.int i, .int i] h = some (.ok (.bl true) h) := by
  refine call_eq q.look rfl ?_
  show WS (evSs (callF P n) (F__law_same cs es).body [some (.int i), some (.int i), none, none] h) _ _
  unfold F__law_same
  simp only [↓evS_for, ↓evX_lc, ↓evS_zret, forB, lcB, Py.wipe, WS_ex, WX_ex, evSs, evS, evX, evXs, evI, evIfs, bindT, bindTs, WS_thenS, WS_bndS, WS_bnnS, WX_bnd, WX_bnn, WX_ok, WX_lift, WS_nx, WS_rt, pro_v, pro_l, pros, List.getElem?_cons_zero, List.getElem?_cons_succ, List.set_cons_zero, List.set_cons_succ, Option.map_some, Option.some.injEq, exists_eq_left', bop_add, bop_sub, bop_mulL, bop_mulR, bop_mulm, bop_mod, bop_fdiv, bop_powS, blt_int, Int.reduceLT, Int.reducePow, Int.reduceLE, Int.reduceNeg, cE_eq, cE_ne, cE_lt, cE_le, cE_gt, cE_ge, isi_int2, isi_int_b, iss_int, isi_int3, decide_true]
  exact ⟨trivial, trivial⟩
theorem seq_lst {k : Nat} {xs : List D} {h : Hd} (e : h.at_ k = some (.lst xs)) : seqOf (.v (.obj k)) h = some xs := by simp only [seqOf, lstOf, e]
theorem reps {n : Nat} : ((List.range n).map fun _ => D.bl true) = List.replicate n (.bl true) := by simp [List.map_const']
theorem c_same_tup [q : HF P "_law_same" (F__law_same cs es)] {xs : List D} (hi : ∀ x ∈ xs, callF P n "_law_same" [x, x] h = some (.ok (.bl true) h)) : callF P (n + 1) "_law_same" [.tup xs, .tup xs] h = some (.ok (.bl true) h) := by
  refine call_eq q.look rfl ?_
  show WS (evSs (callF P n) (F__law_same cs es).body [some (.tup xs), some (.tup xs), none, none] h) _ _
  unfold F__law_same
  simp only [↓evS_for, ↓evX_lc, ↓evS_zret, forB, lcB, Py.wipe, WS_ex, WX_ex, evSs, evS, evX, evXs, evI, evIfs, bindT, bindTs, WS_thenS, WS_bndS, WS_bnnS, WX_bnd, WX_bnn, WX_ok, WX_lift, WS_nx, WS_rt, pro_v, pro_l, pros, List.getElem?_cons_zero, List.getElem?_cons_succ, List.set_cons_zero, List.set_cons_succ, Option.map_some, Option.some.injEq, exists_eq_left', bop_add, bop_sub, bop_mulL, bop_mulR, bop_mulm, bop_mod, bop_fdiv, bop_powS, blt_int, Int.reduceLT, Int.reducePow, Int.reduceLE, Int.reduceNeg, cE_eq, cE_ne, cE_lt, cE_le, cE_gt, cE_ge, isi_tup2, isi_tup, isi_tupl, cE_neB, len_tup, decide_true, seq_tup, gOf_tup]
  unfold enumL
  refine wx_map (fun _ => D.bl true) (fun i hi' => ?_) (by simp) ?_
  · have hl : i < xs.length := by simpa using hi'
    have e1 : idxF (.v (.tup xs)) (.v (.int (i : Int))) h = some xs[i] := by rw [idx_tup, at_nat (i := i) (x := xs[i]) (by simp [hl])]
    have e2 : xs.getD i .non = xs[i] := by simp [hl]
    simp only [lcB, evIfs, bindT, bindTs, bnn_ok, bnd_ok, Py.wipe, evX, evXs, List.set_cons_succ, List.set_cons_zero, List.getElem?_cons_succ, List.getElem?_cons_zero, pros, pro_v, pro_l, lift_some, Option.map_some, bop_add, bop_sub, bop_mod, bop_fdiv, bop_mulL, bop_mulR, blt_int, Bool.not_true, Bool.not_false, cE_eq, cE_ne, cE_lt, cE_le, cE_gt, cE_ge, e1, e2, hi xs[i] (List.getElem_mem hl)]
  · simp only [reps, all_yes, ↓evS_for, ↓evX_lc, ↓evS_zret, forB, lcB, Py.wipe, WS_ex, WX_ex, evSs, evS, evX, evXs, evI, evIfs, bindT, bindTs, WS_thenS, WS_bndS, WS_bnnS, WX_bnd, WX_bnn, WX_ok, WX_lift, WS_nx, WS_rt, pro_v, pro_l, pros, List.getElem?_cons_zero, List.getElem?_cons_succ, List.set_cons_zero, List.set_cons_succ, Option.map_some, Option.some.injEq, exists_eq_left', bop_add, bop_sub, bop_mulL, bop_mulR, bop_mulm, bop_mod, bop_fdiv, bop_powS, blt_int, Int.reduceLT, Int.reducePow, Int.reduceLE, Int.reduceNeg, cE_eq, cE_ne, cE_lt, cE_le, cE_gt, cE_ge]
    exact ⟨trivial, trivial⟩
theorem c_same_lst [q : HF P "_law_same" (F__law_same cs es)] {i j : Nat} {xs : List D} (ei : h.at_ i = some (.lst xs)) (ej : h.at_ j = some (.lst xs)) (hi : ∀ x ∈ xs, callF P n "_law_same" [x, x] h = some (.ok (.bl true) h)) : callF P (n + 1) "_law_same" [.obj i, .obj j] h = some (.ok (.bl true) h) := by
  refine call_eq q.look rfl ?_
  show WS (evSs (callF P n) (F__law_same cs es).body [some (.obj i), some (.obj j), none, none] h) _ _
  unfold F__law_same
  simp only [↓evS_for, ↓evX_lc, ↓evS_zret, forB, lcB, Py.wipe, WS_ex, WX_ex, evSs, evS, evX, evXs, evI, evIfs, bindT, bindTs, WS_thenS, WS_bndS, WS_bnnS, WX_bnd, WX_bnn, WX_ok, WX_lift, WS_nx, WS_rt, pro_v, pro_l, pros, List.getElem?_cons_zero, List.getElem?_cons_succ, List.set_cons_zero, List.set_cons_succ, Option.map_some, Option.some.injEq, exists_eq_left', bop_add, bop_sub, bop_mulL, bop_mulR, bop_mulm, bop_mod, bop_fdiv, bop_powS, blt_int, Int.reduceLT, Int.reducePow, Int.reduceLE, Int.reduceNeg, cE_eq, cE_ne, cE_lt, cE_le, cE_gt, cE_ge, isi_lst2 ei, isi_lst2 ej, isi_lst ei, isi_lst ej, isi_lstt ei, isi_lstt ej, cE_neB, len_lst ei, len_lst ej, decide_true, seq_lst ej]
  unfold enumL
  refine wx_map (fun _ => D.bl true) (fun k hi' => ?_) gOf_ok ?_
  · have hl : k < xs.length := by simpa using hi'
    have e1 : idxF (.v (.obj i)) (.v (.int (k : Int))) h = some xs[k] := by rw [idx_lst ei, at_nat (i := k) (x := xs[k]) (by simp [hl])]
    have e2 : xs.getD k .non = xs[k] := by simp [hl]
    simp only [lcB, evIfs, bindT, bindTs, bnn_ok, bnd_ok, Py.wipe, evX, evXs, List.set_cons_succ, List.set_cons_zero, List.getElem?_cons_succ, List.getElem?_cons_zero, pros, pro_v, pro_l, lift_some, Option.map_some, bop_add, bop_sub, bop_mod, bop_fdiv, bop_mulL, bop_mulR, blt_int, Bool.not_true, Bool.not_false, cE_eq, cE_ne, cE_lt, cE_le, cE_gt, cE_ge, e1, e2, hi xs[k] (List.getElem_mem hl)]
  · simp only [reps, all_yes, ↓evS_for, ↓evX_lc, ↓evS_zret, forB, lcB, Py.wipe, WS_ex, WX_ex, evSs, evS, evX, evXs, evI, evIfs, bindT, bindTs, WS_thenS, WS_bndS, WS_bnnS, WX_bnd, WX_bnn, WX_ok, WX_lift, WS_nx, WS_rt, pro_v, pro_l, pros, List.getElem?_cons_zero, List.getElem?_cons_succ, List.set_cons_zero, List.set_cons_succ, Option.map_some, Option.some.injEq, exists_eq_left', bop_add, bop_sub, bop_mulL, bop_mulR, bop_mulm, bop_mod, bop_fdiv, bop_powS, blt_int, Int.reduceLT, Int.reducePow, Int.reduceLE, Int.reduceNeg, cE_eq, cE_ne, cE_lt, cE_le, cE_gt, cE_ge]
    exact ⟨trivial, trivial⟩
theorem c_same_ints [q : HF P "_law_same" (F__law_same cs es)] {l : List Int} : callF P (n + 2) "_law_same" [tupI l, tupI l] h = some (.ok (.bl true) h) := by
  refine c_same_tup fun x hx => ?_
  obtain ⟨i, _, rfl⟩ := List.mem_map.mp hx
  exact c_same_int
end
end Py


set_option Elab.async false
set_option linter.all false
set_option maxRecDepth 100000
set_option maxHeartbeats 4000000
/-! K09b: the law's own losses and worst. -/
namespace Py
open PySem (Str PyData)
theorem ev_nxt5 {Φ : Calls} {l : List Int} {ρ : Env} {h : Hd} (h5 : ρ[5]? = some (some (tupI l))) : evX Φ (.ite (.cmp .gt [] (.blt "len" (.cons (.var 5) .nil)) (.cst (.int 0))) (.bin .add (.idx (.var 5) (.neg (.cst (.int 1)))) (.cst (.int 1))) (.cst (.int 0))) ρ h = some (.ok (.v (.int (nxt l))) h) := by
  rcases l.eq_nil_or_concat with rfl | ⟨m, x, rfl⟩
  · simp only [evX, evXs, bnd_ok, h5, tupI, List.map_nil, len_tup, lift_some, cE_gt]
    rfl
  · have hg : decide ((0 : Int) < (((m ++ [x]).map D.int).length : Int)) = true := decide_eq_true (by simp)
    simp only [evX, evXs, bnd_ok, h5, tupI, List.concat_eq_append, len_tup, lift_some, cE_gt, hg, idx_tup, at_last, Option.map_some, bop_add, nxt_snoc]
section
variable {P : Prog} {cs es : List String} {g0 g1 g2 : String} {n : Nat} {h : Hd}
theorem w_losses [q : HF P "_law_losses" F__law_losses] {N : Int} {many : Nat} (N0 : 0 ≤ N) (N1 : N ≤ 16) (hm : many ≤ 1000) :
    WX (callF P (n + 1) "_law_losses" [.int N, .int (many : Int)] h) fun d h' => ∃ r, d = .obj r ∧ h.sz ≤ r ∧ r < h'.sz ∧ h'.at_ r = some (.lst ((chB N many).map tupI)) ∧ Kp [] h h' := by
  refine WX_call q.look rfl ?_
  show WS (evSs (callF P n) F__law_losses.body [some (.int N), some (.int (many : Int)), none, none, none, none, none] h) _ _ _
  unfold F__law_losses
  have hL : ∀ k, (chB N k).length ≤ 65536 := fun k => by
    have h1 := chB_len (N := N) k
    have h2 : 2 ^ N.toNat ≤ 2 ^ 16 := Nat.pow_le_pow_right (by decide) (by omega)
    have : (2 : Nat) ^ 16 = 65536 := by decide
    omega
  have lb := line_big
  have hok : ∀ {k : Nat} {l : List Int}, l ∈ chB N k → IsLot N l ∧ l.length = k ∧ 0 ≤ nxt l ∧ nxt l ≤ N ∧ ∀ x ∈ l, x < nxt l := fun {k l} => chB_ok N0
  simp only [↓evS_for, ↓evX_lc, ↓evS_zret, forB, lcB, Py.wipe, WS_ex, WX_ex, evSs, evS, evX, evXs, evI, evIfs, bindT, bindTs, WS_thenS, WS_bndS, WS_bnnS, WX_bnd, WX_bnn, WX_ok, WX_lift, WS_nx, WS_rt, pro_v, pro_l, pros, List.getElem?_cons_zero, List.getElem?_cons_succ, List.set_cons_zero, List.set_cons_succ, Option.map_some, Option.some.injEq, exists_eq_left', bop_add, bop_sub, bop_mulL, bop_mulR, bop_mulm, bop_mod, bop_fdiv, bop_powS, blt_int, Int.reduceLT, Int.reducePow, Int.reduceLE, Int.reduceNeg, cE_eq, cE_ne, cE_lt, cE_le, cE_gt, cE_ge, walk1 (j := (many : Int)) (by omega) (by omega)]
  refine ws_for (I := fun k ρ h' => ∃ r o3 o4 o5 o6, ρ = [some (.int N), some (.int (many : Int)), some (.obj r), o3, o4, o5, o6] ∧ h.sz ≤ r ∧ r < h'.sz ∧ h'.at_ r = some (.lst ((chB N k).map tupI)) ∧ Kp [] h h') ?_ (by intro i ρ h' _ _; simp) ?_ ?_
  · exact ⟨h.sz, none, none, none, none, rfl, Nat.le_refl _, by simp, by simp [chB, tupI], Kp.new⟩
  · rintro k hk ρ h1 ⟨r, o3, o4, o5, o6, rfl, r1, r2, er, k1⟩
    rw [rngL_get hk]
    rw [rngL_len] at hk
    have er2 : (h1.new (.lst [])).at_ r = some (.lst ((chB N k).map tupI)) := by rw [new_at_old r2]; exact er
    simp only [↓evS_for, ↓evX_lc, ↓evS_zret, forB, lcB, Py.wipe, WS_ex, WX_ex, evSs, evS, evX, evXs, evI, evIfs, bindT, bindTs, WS_thenS, WS_bndS, WS_bnnS, WX_bnd, WX_bnn, WX_ok, WX_lift, WS_nx, WS_rt, pro_v, pro_l, pros, List.getElem?_cons_zero, List.getElem?_cons_succ, List.set_cons_zero, List.set_cons_succ, Option.map_some, Option.some.injEq, exists_eq_left', bop_add, bop_sub, bop_mulL, bop_mulR, bop_mulm, bop_mod, bop_fdiv, bop_powS, blt_int, Int.reduceLT, Int.reducePow, Int.reduceLE, Int.reduceNeg, cE_eq, cE_ne, cE_lt, cE_le, cE_gt, cE_ge, walk_lst er2]
    refine ws_for (I := fun i ρ h2 => ∃ o5 o6, ρ = [some (.int N), some (.int (many : Int)), some (.obj r), some (.int (0 + (k : Int))), some (.obj h1.sz), o5, o6] ∧ h1.sz < h2.sz ∧ h2.at_ h1.sz = some (.lst ((((chB N k).take i).flatMap (ext1 N)).map tupI)) ∧ h2.at_ r = some (.lst ((chB N k).map tupI)) ∧ Kp [] h h2) ?_ ?_ ?_ ?_
    · exact ⟨_, _, rfl, by simp, by simp, er2, k1.trans Kp.new⟩
    · rintro i ρ h2 _ ⟨o5, o6, rfl, s1, s2, s3, s5⟩
      simp [s3]
    · rintro i hi ρ h2 ⟨o5, o6, rfl, s1, s2, s3, s5⟩
      rw [List.length_map] at hi
      have hg : ((chB N k).map tupI)[i]'(by simpa using hi) = tupI (chB N k)[i] := by simp
      obtain ⟨q1, q2, q3, q4, q5⟩ := hok (List.getElem_mem hi)
      have qc := fun (el : D → Hd → Res (Option D)) => comp_rng (el := el) (lo := nxt (chB N k)[i]) (m := (N - nxt (chB N k)[i]).toNat) (f := fun v => tupI ((chB N k)[i] ++ [v])) (h := h2)
      have q6 : (((((chB N k).take i).flatMap (ext1 N)).map tupI).length + ((ext1 N (chB N k)[i]).map tupI).length ≤ LINE) := by
        have z1 := flat_take_len (N := N) (ls := chB N k) (i + 1)
        rw [List.take_succ_eq_append_getElem hi, List.flatMap_append, List.length_append] at z1
        have z2 := hL (k + 1)
        simp only [chB] at z2
        simp only [List.flatMap_cons, List.flatMap_nil, List.append_nil] at z1
        rw [List.length_map, List.length_map]
        omega
      have q7 : (List.range (N - nxt (chB N k)[i]).toNat).map (fun (j : Nat) => tupI ((chB N k)[i] ++ [nxt (chB N k)[i] + (j : Int)])) = (ext1 N (chB N k)[i]).map tupI := by
        unfold ext1
        rw [List.map_map]
        rfl
      rw [q7] at qc
      have ty := ty_lst s2
      rw [hg]
      have stp : ∀ j : Nat, j < (N - nxt (chB N k)[i]).toNat → (((chB N k)[i].map D.int).length + [D.int (nxt (chB N k)[i] + (j : Int))].length) ≤ LINE := by
        intro j hj
        simp
        omega
      have wk := walk2 (i := nxt (chB N k)[i]) (j := N) q3 (by omega) (by omega) (by omega)
      generalize hs : (chB N k)[i] = s at *
      rcases s.eq_nil_or_concat with rfl | ⟨m, x, rfl⟩
      · have d0 : decide ((0 : Int) < ((([] : List D)).length : Int)) = false := by decide
        simp only [↓evS_for, ↓evX_lc, ↓evS_zret, forB, lcB, Py.wipe, WS_ex, WX_ex, evSs, evS, evX, evXs, evI, evIfs, bindT, bindTs, WS_thenS, WS_bndS, WS_bnnS, WX_bnd, WX_bnn, WX_ok, WX_lift, WS_nx, WS_rt, pro_v, pro_l, pros, List.getElem?_cons_zero, List.getElem?_cons_succ, List.set_cons_zero, List.set_cons_succ, Option.map_some, Option.some.injEq, exists_eq_left', bop_add, bop_sub, bop_mulL, bop_mulR, bop_mulm, bop_mod, bop_fdiv, bop_powS, blt_int, Int.reduceLT, Int.reducePow, Int.reduceLE, Int.reduceNeg, cE_eq, cE_ne, cE_lt, cE_le, cE_gt, cE_ge, ty, and_self, if_true, tupI, List.map_nil, len_tup, d0, show nxt [] = 0 from rfl] at wk qc stp ⊢
        simp only [↓evS_for, ↓evX_lc, ↓evS_zret, forB, lcB, Py.wipe, WS_ex, WX_ex, evSs, evS, evX, evXs, evI, evIfs, bindT, bindTs, WS_thenS, WS_bndS, WS_bnnS, WX_bnd, WX_bnn, WX_ok, WX_lift, WS_nx, WS_rt, pro_v, pro_l, pros, List.getElem?_cons_zero, List.getElem?_cons_succ, List.set_cons_zero, List.set_cons_succ, Option.map_some, Option.some.injEq, exists_eq_left', bop_add, bop_sub, bop_mulL, bop_mulR, bop_mulm, bop_mod, bop_fdiv, bop_powS, blt_int, Int.reduceLT, Int.reducePow, Int.reduceLE, Int.reduceNeg, cE_eq, cE_ne, cE_lt, cE_le, cE_gt, cE_ge, wk]
        rw [qc _ ?_]
        · simp only [↓evS_for, ↓evX_lc, ↓evS_zret, forB, lcB, Py.wipe, WS_ex, WX_ex, evSs, evS, evX, evXs, evI, evIfs, bindT, bindTs, WS_thenS, WS_bndS, WS_bnnS, WX_bnd, WX_bnn, WX_ok, WX_lift, WS_nx, WS_rt, pro_v, pro_l, pros, List.getElem?_cons_zero, List.getElem?_cons_succ, List.set_cons_zero, List.set_cons_succ, Option.map_some, Option.some.injEq, exists_eq_left', bop_add, bop_sub, bop_mulL, bop_mulR, bop_mulm, bop_mod, bop_fdiv, bop_powS, blt_int, Int.reduceLT, Int.reducePow, Int.reduceLE, Int.reduceNeg, cE_eq, cE_ne, cE_lt, cE_le, cE_gt, cE_ge, ext_lst s2 q6]
          refine ⟨_, _, rfl, s1, ?_, ?_, s5.putn k1.sz⟩
          · rw [put_at_same, List.take_succ_eq_append_getElem hi, List.flatMap_append, List.map_append, hs]
            simp
          · rw [put_at_ne (by omega)]; exact s3
        · intro j hj
          simp only [lcB, evIfs, bindT, bindTs, bnn_ok, bnd_ok, Py.wipe, evX, evXs, List.set_cons_succ, List.set_cons_zero, List.getElem?_cons_succ, List.getElem?_cons_zero, pros, pro_v, pro_l, lift_some, Option.map_some, bop_add, bop_sub, bop_mod, bop_fdiv, bop_mulL, bop_mulR, blt_int, Bool.not_true, Bool.not_false, cE_eq, cE_ne, cE_lt, cE_le, cE_gt, cE_ge, List.map_nil, bop_addt (stp j hj), List.nil_append, List.map_cons]
      · rw [List.concat_eq_append] at *
        have d0 : decide ((0 : Int) < (((m ++ [x]).map D.int).length : Int)) = true := decide_eq_true (by simp)
        simp only [nxt_snoc] at wk qc stp
        simp only [↓evS_for, ↓evX_lc, ↓evS_zret, forB, lcB, Py.wipe, WS_ex, WX_ex, evSs, evS, evX, evXs, evI, evIfs, bindT, bindTs, WS_thenS, WS_bndS, WS_bnnS, WX_bnd, WX_bnn, WX_ok, WX_lift, WS_nx, WS_rt, pro_v, pro_l, pros, List.getElem?_cons_zero, List.getElem?_cons_succ, List.set_cons_zero, List.set_cons_succ, Option.map_some, Option.some.injEq, exists_eq_left', bop_add, bop_sub, bop_mulL, bop_mulR, bop_mulm, bop_mod, bop_fdiv, bop_powS, blt_int, Int.reduceLT, Int.reducePow, Int.reduceLE, Int.reduceNeg, cE_eq, cE_ne, cE_lt, cE_le, cE_gt, cE_ge, ty, and_self, if_true, tupI, len_tup, d0, idx_tup, at_last, wk]
        rw [qc _ ?_]
        · simp only [↓evS_for, ↓evX_lc, ↓evS_zret, forB, lcB, Py.wipe, WS_ex, WX_ex, evSs, evS, evX, evXs, evI, evIfs, bindT, bindTs, WS_thenS, WS_bndS, WS_bnnS, WX_bnd, WX_bnn, WX_ok, WX_lift, WS_nx, WS_rt, pro_v, pro_l, pros, List.getElem?_cons_zero, List.getElem?_cons_succ, List.set_cons_zero, List.set_cons_succ, Option.map_some, Option.some.injEq, exists_eq_left', bop_add, bop_sub, bop_mulL, bop_mulR, bop_mulm, bop_mod, bop_fdiv, bop_powS, blt_int, Int.reduceLT, Int.reducePow, Int.reduceLE, Int.reduceNeg, cE_eq, cE_ne, cE_lt, cE_le, cE_gt, cE_ge, ext_lst s2 q6]
          refine ⟨_, _, rfl, s1, ?_, ?_, s5.putn k1.sz⟩
          · rw [put_at_same, List.take_succ_eq_append_getElem hi, List.flatMap_append, List.map_append, hs]
            simp
          · rw [put_at_ne (by omega)]; exact s3
        · intro j hj
          have hl := stp j hj
          simp only [List.map_append, List.map_cons, List.map_nil] at hl
          simp only [lcB, evIfs, bindT, bindTs, bnn_ok, bnd_ok, Py.wipe, evX, evXs, List.set_cons_succ, List.set_cons_zero, List.getElem?_cons_succ, List.getElem?_cons_zero, pros, pro_v, pro_l, lift_some, Option.map_some, bop_add, bop_sub, bop_mod, bop_fdiv, bop_mulL, bop_mulR, blt_int, Bool.not_true, Bool.not_false, cE_eq, cE_ne, cE_lt, cE_le, cE_gt, cE_ge, tupI, bop_addt hl, List.map_append, List.map_cons, List.map_nil]
    · rintro ρ h2 ⟨o5, o6, rfl, s1, s2, s3, s5⟩
      simp only [↓evS_for, ↓evX_lc, ↓evS_zret, forB, lcB, Py.wipe, WS_ex, WX_ex, evSs, evS, evX, evXs, evI, evIfs, bindT, bindTs, WS_thenS, WS_bndS, WS_bnnS, WX_bnd, WX_bnn, WX_ok, WX_lift, WS_nx, WS_rt, pro_v, pro_l, pros, List.getElem?_cons_zero, List.getElem?_cons_succ, List.set_cons_zero, List.set_cons_succ, Option.map_some, Option.some.injEq, exists_eq_left', bop_add, bop_sub, bop_mulL, bop_mulR, bop_mulm, bop_mod, bop_fdiv, bop_powS, blt_int, Int.reduceLT, Int.reducePow, Int.reduceLE, Int.reduceNeg, cE_eq, cE_ne, cE_lt, cE_le, cE_gt, cE_ge]
      rw [List.length_map, List.take_length] at s2
      exact ⟨_, _, _, _, _, rfl, by have := k1.sz; omega, s1, s2, s5⟩
  · rintro ρ h1 ⟨r, o3, o4, o5, o6, rfl, r1, r2, er, k1⟩
    rw [rngL_len, Int.toNat_natCast] at er
    simp only [↓evS_for, ↓evX_lc, ↓evS_zret, forB, lcB, Py.wipe, WS_ex, WX_ex, evSs, evS, evX, evXs, evI, evIfs, bindT, bindTs, WS_thenS, WS_bndS, WS_bnnS, WX_bnd, WX_bnn, WX_ok, WX_lift, WS_nx, WS_rt, pro_v, pro_l, pros, List.getElem?_cons_zero, List.getElem?_cons_succ, List.set_cons_zero, List.set_cons_succ, Option.map_some, Option.some.injEq, exists_eq_left', bop_add, bop_sub, bop_mulL, bop_mulR, bop_mulm, bop_mod, bop_fdiv, bop_powS, blt_int, Int.reduceLT, Int.reducePow, Int.reduceLE, Int.reduceNeg, cE_eq, cE_ne, cE_lt, cE_le, cE_gt, cE_ge]
    exact ⟨_, rfl, r1, r2, er, k1⟩
end
/-! ### masks -/
def maskN (l : List Nat) : Nat := (l.map fun b => 2 ^ b).sum
theorem mask_bit : ∀ {l : List Nat}, l.Pairwise (· < ·) → (∀ x, (∀ y ∈ l, y < x) → maskN l < 2 ^ x) ∧ ∀ i, (maskN l).testBit i = decide (i ∈ l) := by
  intro l
  generalize hn : l.length = n
  induction n generalizing l with
  | zero =>
    intro hp
    have := List.length_eq_zero_iff.mp hn
    subst this
    exact ⟨fun x _ => Nat.pow_pos (by decide), fun i => by simp [maskN]⟩
  | succ n ih =>
    intro hp
    rcases l.eq_nil_or_concat with rfl | ⟨m, b, rfl⟩
    · cases hn
    · rw [List.concat_eq_append] at *
      rw [List.pairwise_append] at hp
      obtain ⟨i1, i2⟩ := ih (by simpa using hn) hp.1
      have hb : ∀ y ∈ m, y < b := fun y hy => hp.2.2 y hy b (by simp)
      have lt := i1 b hb
      have e : maskN (m ++ [b]) = 2 ^ b + maskN m := by simp [maskN, Nat.add_comm]
      rw [e]
      refine ⟨fun x hx => ?_, fun i => ?_⟩
      · have h1 : b < x := hx b (by simp)
        have h2 : 2 ^ (b + 1) ≤ 2 ^ x := Nat.pow_le_pow_right (by decide) h1
        rw [Nat.pow_succ] at h2
        omega
      · rcases Nat.lt_trichotomy i b with hi | hi | hi
        · rw [Nat.testBit_two_pow_add_gt hi, i2]
          simp [Nat.ne_of_lt hi]
        · subst hi
          rw [Nat.testBit_two_pow_add_eq, Nat.testBit_lt_two_pow lt]
          simp
        · rw [Nat.testBit_lt_two_pow]
          · have h1 : i ∉ m := fun z => by have := hb i z; omega
            simp [h1, Nat.ne_of_gt hi]
          · have h2 : 2 ^ (b + 1) ≤ 2 ^ i := Nat.pow_le_pow_right (by decide) hi
            rw [Nat.pow_succ] at h2
            omega
theorem mask_sub {l k : List Nat} (hl : l.Pairwise (· < ·)) (hk : k.Pairwise (· < ·)) : decide (maskN l &&& maskN k = maskN l) = l.all fun b => decide (b ∈ k) := by
  rw [Bool.eq_iff_iff]
  simp only [decide_eq_true_eq, List.all_eq_true]
  have h1 := (mask_bit hl).2
  have h2 := (mask_bit hk).2
  constructor
  · intro e b hb
    have := congrArg (fun x => x.testBit b) e
    simp only [Nat.testBit_and, h1, h2, hb, decide_true, Bool.true_and] at this
    simpa using this
  · intro e
    refine Nat.eq_of_testBit_eq fun i => ?_
    rw [Nat.testBit_and, h1, h2]
    by_cases hi : i ∈ l
    · simp [hi, e i hi]
    · simp [hi]
def maskI (l : List Int) : Int := ((l.map Int.toNat).map fun b => (2 : Int) ^ b).sum
theorem maskI_eq (l : List Int) : maskI l = ((maskN (l.map Int.toNat) : Nat) : Int) := by
  unfold maskI maskN
  generalize l.map Int.toNat = k
  induction k with
  | nil => rfl
  | cons x r ih =>
    rw [List.map_cons, List.sum_cons, ih, List.map_cons, List.sum_cons]
    push_cast
    rfl
theorem toNat_lot {N : Int} {l : List Int} (h : IsLot N l) : (l.map Int.toNat).Pairwise (· < ·) := by
  rw [List.pairwise_map]
  exact h.1.imp_of_mem fun {a b} ha hb q => by
    have := (h.2 a ha).1
    have := (h.2 b hb).1
    omega
theorem mask_and {N : Int} {l k : List Int} (hl : IsLot N l) (hk : IsLot N k) : decide (PySem.Builtin.bitAnd (maskI l) (maskI k) = maskI l) = l.all fun b => decide (b ∈ k) := by
  have e : PySem.Builtin.bitAnd (maskI l) (maskI k) = ((maskN (l.map Int.toNat) &&& maskN (k.map Int.toNat) : Nat) : Int) := by
    unfold PySem.Builtin.bitAnd
    rw [maskI_eq, maskI_eq, decide_eq_true (by omega), decide_eq_true (by omega)]
    simp
  rw [e, maskI_eq]
  have e2 : decide (((maskN (l.map Int.toNat) &&& maskN (k.map Int.toNat) : Nat) : Int) = ((maskN (l.map Int.toNat) : Nat) : Int)) = decide (maskN (l.map Int.toNat) &&& maskN (k.map Int.toNat) = maskN (l.map Int.toNat)) := by
    rw [Bool.eq_iff_iff]
    simp only [decide_eq_true_eq]
    omega
  rw [e2, mask_sub (toNat_lot hl) (toNat_lot hk), List.all_map, Bool.eq_iff_iff, List.all_eq_true, List.all_eq_true]
  have key : ∀ b ∈ l, ((fun b => decide (b ∈ k.map Int.toNat)) ∘ Int.toNat) b = decide (b ∈ k) := fun b hb => by
    have h0 := (hl.2 b hb).1
    show decide (b.toNat ∈ k.map Int.toNat) = decide (b ∈ k)
    rw [Bool.eq_iff_iff]
    simp only [decide_eq_true_eq, List.mem_map]
    constructor
    · rintro ⟨c, hc, e⟩
      have := (hk.2 c hc).1
      have : c = b := by omega
      rwa [← this]
    · intro hb
      exact ⟨b, hb, rfl⟩
  exact ⟨fun q b hb => by rw [← key b hb]; exact q b hb, fun q b hb => by rw [key b hb]; exact q b hb⟩
end Py


set_option Elab.async false
set_option linter.all false
set_option maxRecDepth 100000
set_option maxHeartbeats 4000000
/-! K09c: the law's own worst. -/
namespace Py
open PySem (Str PyData)
theorem bop_shl {b : Int} {h : Hd} (h0 : 0 ≤ b) (h1 : b ≤ 1000000) : binop .shl (.v (.int 1)) (.v (.int b)) h = some (.v (.int (2 ^ b.toNat))) := by
  unfold binop
  simp only []
  rw [if_pos ⟨h0, h1, by decide⟩, Int.one_mul]
theorem bop_band {i j : Int} {h : Hd} : binop .band (.v (.int i)) (.v (.int j)) h = some (.v (.int (PySem.Builtin.bitAnd i j))) := rfl
/-- the masks of a list of ints -/
theorem comp_mask {N : Int} {l : List Int} (hL : IsLot N l) (hN : N ≤ 1000) {el : D → Hd → Res (Option D)} {h : Hd} (hs : ∀ x : Int, 0 ≤ x → x ≤ 1000000 → el (.int x) h = some (.ok (some (.int (2 ^ x.toNat))) h)) : compL [] el (l.map D.int) h = some (.ok (((l.map Int.toNat).map fun b => (2 : Int) ^ b).map .int) h) := by
  rw [comp_map (g := D.int) (f := fun x => .int (2 ^ x.toNat)) (fun x hx => hs x (hL.2 x hx).1 (by have := (hL.2 x hx).2; omega))]
  rw [List.map_map, List.map_map]
  rfl
section
variable {P : Prog} {cs es : List String} {g0 g1 g2 : String} {n : Nat} {h : Hd}
theorem w_lworst [HF P "_law_losses" F__law_losses] [q : HF P "_law_worst" (F__law_worst es)] {N : Int} {bl : List (List Int × Int)} {many : Nat} (N0 : 0 ≤ N) (N1 : N ≤ 16) (hm : many ≤ 1000) (hB : ∀ p ∈ bl, IsLot N p.1) :
    WX (callF P (n + 2) "_law_worst" [.tup (bl.map bk), .int N, .int (many : Int)] h) fun d h' => d = optW (topW (wgone bl) (chB N many)) ∧ Kp [] h h' := by
  refine WX_call q.look rfl ?_
  show WS (evSs (callF P (n + 1)) (F__law_worst es).body [some (.tup (bl.map bk)), some (.int N), some (.int (many : Int)), none, none, none, none, none, none, none, none, none] h) _ _ _
  unfold F__law_worst
  rw [evSs, WS_thenS]
  refine WS.mono0 (N := fun ρ h1 => ρ = [some (.tup (bl.map bk)), some (.int N), some (.int (many : Int)), some (.obj h.sz), none, none, none, none, none, none, none, none] ∧ h1 = h.new (.lst (bl.map fun p => .tup [.int (maskI p.1), .int p.2]))) (T := fun _ _ => False) ?_ ?_ (fun _ _ z => z.elim)
  · simp only [↓evS_for, ↓evX_lc, ↓evS_zret, forB, lcB, Py.wipe, WS_ex, WX_ex, evSs, evS, evX, evXs, evI, evIfs, bindT, bindTs, WS_thenS, WS_bndS, WS_bnnS, WX_bnd, WX_bnn, WX_ok, WX_lift, WS_nx, WS_rt, pro_v, pro_l, pros, List.getElem?_cons_zero, List.getElem?_cons_succ, List.set_cons_zero, List.set_cons_succ, Option.map_some, Option.some.injEq, exists_eq_left', bop_add, bop_sub, bop_mulL, bop_mulR, bop_mulm, bop_mod, bop_fdiv, bop_powS, blt_int, Int.reduceLT, Int.reducePow, Int.reduceLE, Int.reduceNeg, cE_eq, cE_ne, cE_lt, cE_le, cE_gt, cE_ge, walk_tup]
    refine wx_map (fun p => .tup [.int (maskI p.1), .int p.2]) (fun p hp => ?_) (by simp) ?_
    · simp only [lcB, evIfs, bindT, bindTs, bnn_ok, bnd_ok, Py.wipe, evX, evXs, List.set_cons_succ, List.set_cons_zero, List.getElem?_cons_succ, List.getElem?_cons_zero, pros, pro_v, pro_l, lift_some, Option.map_some, bop_add, bop_sub, bop_mod, bop_fdiv, bop_mulL, bop_mulR, blt_int, Bool.not_true, Bool.not_false, cE_eq, cE_ne, cE_lt, cE_le, cE_gt, cE_ge, evX_lc, evI, bk, walk_tup]
      rw [comp_mask (hB p hp) (by omega) ?_]
      · simp only [bnn_ok, bnd_ok, sum_tmp, lift_some, pros, pro_v]
        rfl
      · intro x x0 x1
        simp only [lcB, evIfs, bindT, bindTs, bnn_ok, bnd_ok, Py.wipe, evX, evXs, List.set_cons_succ, List.set_cons_zero, List.getElem?_cons_succ, List.getElem?_cons_zero, pros, pro_v, pro_l, lift_some, Option.map_some, bop_add, bop_sub, bop_mod, bop_fdiv, bop_mulL, bop_mulR, blt_int, Bool.not_true, Bool.not_false, cE_eq, cE_ne, cE_lt, cE_le, cE_gt, cE_ge, bop_shl x0 x1]
    · exact ⟨rfl, rfl⟩
  · rintro ρ h1 ⟨rfl, eh1⟩
    have em : h1.at_ h.sz = some (.lst (bl.map fun p => .tup [.int (maskI p.1), .int p.2])) := by rw [eh1]; exact new_at_new
    have k1 : Kp [] h h1 := by rw [eh1]; exact Kp.new
    have z1 : h.sz < h1.sz := by rw [eh1]; exact Nat.lt_succ_self _
    clear eh1
    simp only [↓evS_for, ↓evX_lc, ↓evS_zret, forB, lcB, Py.wipe, WS_ex, WX_ex, evSs, evS, evX, evXs, evI, evIfs, bindT, bindTs, WS_thenS, WS_bndS, WS_bnnS, WX_bnd, WX_bnn, WX_ok, WX_lift, WS_nx, WS_rt, pro_v, pro_l, pros, List.getElem?_cons_zero, List.getElem?_cons_succ, List.set_cons_zero, List.set_cons_succ, Option.map_some, Option.some.injEq, exists_eq_left', bop_add, bop_sub, bop_mulL, bop_mulR, bop_mulm, bop_mod, bop_fdiv, bop_powS, blt_int, Int.reduceLT, Int.reducePow, Int.reduceLE, Int.reduceNeg, cE_eq, cE_ne, cE_lt, cE_le, cE_gt, cE_ge]
    refine (w_losses (n := n) N0 N1 hm).monoE ?_ (fun _ _ _ z => z.elim)
    rintro d h2 ⟨r, rfl, r1, r2, er, k2⟩
    have em2 : h2.at_ h.sz = some (.lst (bl.map fun p => .tup [.int (maskI p.1), .int p.2])) := by rw [k2.at_ _ z1 (by simp)]; exact em
    simp only [↓evS_for, ↓evX_lc, ↓evS_zret, forB, lcB, Py.wipe, WS_ex, WX_ex, evSs, evS, evX, evXs, evI, evIfs, bindT, bindTs, WS_thenS, WS_bndS, WS_bnnS, WX_bnd, WX_bnn, WX_ok, WX_lift, WS_nx, WS_rt, pro_v, pro_l, pros, List.getElem?_cons_zero, List.getElem?_cons_succ, List.set_cons_zero, List.set_cons_succ, Option.map_some, Option.some.injEq, exists_eq_left', bop_add, bop_sub, bop_mulL, bop_mulR, bop_mulm, bop_mod, bop_fdiv, bop_powS, blt_int, Int.reduceLT, Int.reducePow, Int.reduceLE, Int.reduceNeg, cE_eq, cE_ne, cE_lt, cE_le, cE_gt, cE_ge, walk_lst er]
    refine ws_for (I := fun i ρ h3 => h3 = h2 ∧ ∃ o5 o6 o7, ρ = [some (.tup (bl.map bk)), some (.int N), some (.int (many : Int)), some (.obj h.sz), some (optW (((chB N many).take i).foldl (stepW (wgone bl)) none)), o5, o6, o7, none, none, none, none]) ⟨rfl, none, none, none, rfl⟩ (by rintro i ρ h' _ ⟨rfl, _⟩; simp [er]) ?_ ?_
    · rintro i hi ρ h3 ⟨rfl, o5, o6, o7, rfl⟩
      rw [List.length_map] at hi
      have hg : ((chB N many).map tupI)[i]'(by simpa using hi) = .tup ((chB N many)[i].map .int) := by simp [tupI]
      have hL := (chB_ok N0 (List.getElem_mem hi)).1
      rw [hg]
      simp only [forB, bindT, bnnS_ok, List.set_cons_succ, List.set_cons_zero]
      rw [evSs, WS_thenS, evS]
      simp only [↓evX_lc, ↓evS_zret, forB, lcB, Py.wipe, WS_ex, WX_ex, evX, evXs, evI, evIfs, bindT, bindTs, WS_thenS, WS_bndS, WS_bnnS, WX_bnd, WX_bnn, WX_ok, WX_lift, WS_nx, WS_rt, pro_v, pro_l, pros, List.getElem?_cons_zero, List.getElem?_cons_succ, List.set_cons_zero, List.set_cons_succ, Option.map_some, Option.some.injEq, exists_eq_left', bop_add, bop_sub, bop_mulL, bop_mulR, bop_mulm, bop_mod, bop_fdiv, bop_powS, blt_int, Int.reduceLT, Int.reducePow, Int.reduceLE, Int.reduceNeg, cE_eq, cE_ne, cE_lt, cE_le, cE_gt, cE_ge, evX_lc, walk_tup]
      rw [comp_mask hL (by omega) ?_]
      · simp only [WX_ok, ↓evX_lc, ↓evS_zret, forB, lcB, Py.wipe, WS_ex, WX_ex, evX, evXs, evI, evIfs, bindT, bindTs, WS_thenS, WS_bndS, WS_bnnS, WX_bnd, WX_bnn, WX_ok, WX_lift, WS_nx, WS_rt, pro_v, pro_l, pros, List.getElem?_cons_zero, List.getElem?_cons_succ, List.set_cons_zero, List.set_cons_succ, Option.map_some, Option.some.injEq, exists_eq_left', bop_add, bop_sub, bop_mulL, bop_mulR, bop_mulm, bop_mod, bop_fdiv, bop_powS, blt_int, Int.reduceLT, Int.reducePow, Int.reduceLE, Int.reduceNeg, cE_eq, cE_ne, cE_lt, cE_le, cE_gt, cE_ge, sum_tmp]
        have es1 : ((((chB N many)[i]).map Int.toNat).map fun b => (2 : Int) ^ b).sum = maskI (chB N many)[i] := rfl
        rw [es1]
        rw [evSs, WS_thenS, evS]
        simp only [↓evX_lc, ↓evS_zret, forB, lcB, Py.wipe, WS_ex, WX_ex, evX, evXs, evI, evIfs, bindT, bindTs, WS_thenS, WS_bndS, WS_bnnS, WX_bnd, WX_bnn, WX_ok, WX_lift, WS_nx, WS_rt, pro_v, pro_l, pros, List.getElem?_cons_zero, List.getElem?_cons_succ, List.set_cons_zero, List.set_cons_succ, Option.map_some, Option.some.injEq, exists_eq_left', bop_add, bop_sub, bop_mulL, bop_mulR, bop_mulm, bop_mod, bop_fdiv, bop_powS, blt_int, Int.reduceLT, Int.reducePow, Int.reduceLE, Int.reduceNeg, cE_eq, cE_ne, cE_lt, cE_le, cE_gt, cE_ge, evX_lc, walk_lst em2]
        rw [comp_fm (xs := bl) (g := fun p => .tup [.int (maskI p.1), .int p.2]) (f := fun p => if goneB (chB N many)[i] p then some (.int p.2) else none) (fun p hp => ?_) (by simp [em2])]
        · rw [fm_ite]
          have e2 : (bl.filter (goneB (chB N many)[i])).map (fun p => D.int p.2) = ((bl.filter (goneB (chB N many)[i])).map (·.2)).map .int := by rw [List.map_map]; rfl
          rw [e2]
          simp only [WX_ok, ↓evX_lc, ↓evS_zret, forB, lcB, Py.wipe, WS_ex, WX_ex, evX, evXs, evI, evIfs, bindT, bindTs, WS_thenS, WS_bndS, WS_bnnS, WX_bnd, WX_bnn, WX_ok, WX_lift, WS_nx, WS_rt, pro_v, pro_l, pros, List.getElem?_cons_zero, List.getElem?_cons_succ, List.set_cons_zero, List.set_cons_succ, Option.map_some, Option.some.injEq, exists_eq_left', bop_add, bop_sub, bop_mulL, bop_mulR, bop_mulm, bop_mod, bop_fdiv, bop_powS, blt_int, Int.reduceLT, Int.reducePow, Int.reduceLE, Int.reduceNeg, cE_eq, cE_ne, cE_lt, cE_le, cE_gt, cE_ge, sum_tmp]
          rw [evSs, WS_thenS, best_step (o := ((chB N many).take i).foldl (stepW (wgone bl)) none) (w := wgone bl (chB N many)[i]) (l := (chB N many)[i]) rfl rfl rfl]
          rw [WS_nx, List.take_succ_eq_append_getElem hi, List.foldl_append]
          refine ⟨rfl, ?_⟩
          cases ((chB N many).take i).foldl (stepW (wgone bl)) none with
          | none => exact ⟨_, _, _, rfl⟩
          | some a =>
            obtain ⟨v, m⟩ := a
            refine ⟨some (.tup ((chB N many)[i].map .int)), some (.int (maskI (chB N many)[i])), some (.int (wgone bl (chB N many)[i])), ?_⟩
            by_cases hv : v < wgone bl (chB N many)[i]
            · simp only [bstp, hv, if_true, List.foldl_cons, List.foldl_nil, stepW, List.set_cons_succ, List.set_cons_zero, optW]
              rfl
            · simp only [bstp, hv, if_false, List.foldl_cons, List.foldl_nil, stepW]
              rfl
        · have e3 := mask_and (hB p hp) hL
          simp only [lcB, evIfs, bindT, bindTs, bnn_ok, bnd_ok, Py.wipe, evX, evXs, List.set_cons_succ, List.set_cons_zero, List.getElem?_cons_succ, List.getElem?_cons_zero, pros, pro_v, pro_l, lift_some, Option.map_some, bop_add, bop_sub, bop_mod, bop_fdiv, bop_mulL, bop_mulR, blt_int, Bool.not_true, Bool.not_false, cE_eq, cE_ne, cE_lt, cE_le, cE_gt, cE_ge, bop_band, e3]
          unfold goneB
          cases p.1.all fun b => decide (b ∈ (chB N many)[i]) <;> rfl
      · intro x x0 x1
        simp only [lcB, evIfs, bindT, bindTs, bnn_ok, bnd_ok, Py.wipe, evX, evXs, List.set_cons_succ, List.set_cons_zero, List.getElem?_cons_succ, List.getElem?_cons_zero, pros, pro_v, pro_l, lift_some, Option.map_some, bop_add, bop_sub, bop_mod, bop_fdiv, bop_mulL, bop_mulR, blt_int, Bool.not_true, Bool.not_false, cE_eq, cE_ne, cE_lt, cE_le, cE_gt, cE_ge, bop_shl x0 x1]
    · rintro ρ h3 ⟨rfl, o5, o6, o7, rfl⟩
      rw [List.length_map, List.take_length, ← topW_eq]
      simp only [↓evS_for, ↓evX_lc, ↓evS_zret, forB, lcB, Py.wipe, WS_ex, WX_ex, evSs, evS, evX, evXs, evI, evIfs, bindT, bindTs, WS_thenS, WS_bndS, WS_bnnS, WX_bnd, WX_bnn, WX_ok, WX_lift, WS_nx, WS_rt, pro_v, pro_l, pros, List.getElem?_cons_zero, List.getElem?_cons_succ, List.set_cons_zero, List.set_cons_succ, Option.map_some, Option.some.injEq, exists_eq_left', bop_add, bop_sub, bop_mulL, bop_mulR, bop_mulm, bop_mod, bop_fdiv, bop_powS, blt_int, Int.reduceLT, Int.reducePow, Int.reduceLE, Int.reduceNeg, cE_eq, cE_ne, cE_lt, cE_le, cE_gt, cE_ge]
      exact ⟨trivial, k1.trans k2⟩
end
end Py


set_option Elab.async false
set_option linter.all false
set_option maxRecDepth 100000
set_option maxHeartbeats 4000000
/-! K09d: the drawn table. -/
namespace Py
open PySem (Str PyData)
/-- _law_table: _law_tape_here, _law_boxes, _law_blocks, _law_most, _law_got, _law_great, _law_turn, _law_lot, _law_again -/
def F__law_table (es : List String) : Fn := ⟨4, 9, (.cons (.asg (.nm 4) (.lst .nil)) (.cons (.asg (.nm 5) (.cmp .eq es (.call "_law_pick" (.cons (.var 0) (.cons (.cst (.int 8)) .nil))) (.cst (.int 0)))) (.cons (.forr (.nm 6) (.rng (.cons (.bin .add (.cst (.int 1)) (.call "_law_pick" (.cons (.var 0) (.cons (.var 2) .nil)))) .nil)) (.cons (.asg (.nm 7) (.sset (.lc (.nm 8) [8] (.rng (.cons (.bin .add (.cst (.int 1)) (.call "_law_pick" (.cons (.var 0) (.cons (.cst (.int 4)) .nil)))) .nil)) .nil (.call "_law_pick" (.cons (.var 0) (.cons (.var 1) .nil)))))) (.cons (.ex (.bm "list" "append" (.var 4) (.cons (.tup (.cons (.blt "tuple" (.cons (.var 7) .nil)) (.cons (.bin .add (.cst (.int 1)) (.call "_law_pick" (.cons (.var 0) (.cons (.ite (.var 5) (.bin .pow (.cst (.int 10)) (.cst (.int 6))) (.var 3)) .nil)))) .nil))) .nil))) .nil))) (.cons (.ret (.tup (.cons (.var 1) (.cons (.blt "tuple" (.cons (.var 4) .nil)) .nil)))) .nil))))⟩
/-- _law_rows_right: _law_tape_here, _law_many, _law_steps, _law_place, _law_shown, _law_table_here, _law_lost, _law_due, _law_step -/
def F__law_rows_right (es : List String) : Fn := ⟨1, 9, (.cons (.asg (.nm 1) (.bin .add (.cst (.int 1)) (.call "_law_pick" (.cons (.var 0) (.cons (.ite (.cmp .eq es (.call "_law_pick" (.cons (.var 0) (.cons (.cst (.int 12)) .nil))) (.cst (.int 0))) (.cst (.int 14)) (.cst (.int 8))) .nil))))) (.cons (.asg (.nm 2) (.bin .add (.cst (.int 1)) (.call "_law_pick" (.cons (.var 0) (.cons (.blt "min" (.cons (.var 1) (.cons (.cst (.int 8)) .nil))) .nil))))) (.cons (.asg (.nm 3) (.call "_law_pick" (.cons (.var 0) (.cons (.var 1) .nil)))) (.cons (.asg (.nm 4) (.blt "tuple" (.cons (.blt "sorted" (.cons (.lc (.nm 8) [8] (.rng (.cons (.var 2) .nil)) .nil (.bin .mod (.blt "int" (.cons (.bin .add (.var 3) (.var 8)) .nil)) (.var 1))) .nil)) .nil))) (.cons (.asg (.nm 5) (.call "table_of" (.cons (.mk "Layout" (.cons (.mk "Sheet" (.cons (.tup (.cons (.var 1) .nil)) .nil)) (.cons (.tup (.cons (.tup (.cons (.var 4) (.cons (.cst (.int 1)) .nil))) .nil)) .nil))) .nil))) (.cons (.forr (.nm 6) (.seq (.lst (.cons (.call "_law_pick" (.cons (.var 0) (.cons (.bin .add (.var 1) (.cst (.int 1))) .nil))) (.cons (.var 2) (.cons (.bin .sub (.var 2) (.cst (.int 1))) (.cons (.var 1) (.cons (.blt "min" (.cons (.var 1) (.cons (.bin .add (.var 2) (.cst (.int 1))) .nil))) .nil))))))) (.cons (.asg (.nm 7) (.ite (.cmp .eq es (.var 6) (.var 1)) (.var 1) (.blt "max" (.cons (.cst (.int 0)) (.cons (.bin .add (.bin .sub (.var 6) (.var 2)) (.cst (.int 1))) .nil))))) (.cons (.ifs (.nt (.call "_law_same" (.cons (.call "most_gone" (.cons (.var 5) (.cons (.var 6) .nil))) (.cons (.var 7) .nil)))) (.cons (.ret (.cst (.bl false))) .nil) .nil) .nil))) (.cons (.ret (.cst (.bl true))) .nil)))))))⟩
/-- law: _law_script, _law_tape_here, _law_turn, _law_wide, _law_numbers, _law_many, _law_boxes, _law_blocks, _law_table_here, _law_last, _law_due -/
def F_law (es : List String) : Fn := ⟨1, 11, (.cons (.asg (.nm 1) (.call "_law_tape" (.cons (.var 0) .nil))) (.cons (.forr (.nm 2) (.rng (.cons (.cst (.int 2)) .nil)) (.cons (.asg (.nm 3) (.cmp .eq es (.call "_law_pick" (.cons (.var 1) (.cons (.cst (.int 12)) .nil))) (.cst (.int 0)))) (.cons (.asg (.tp (.cons (.nm 6) (.cons (.nm 7) .nil))) (.call "_law_table" (.cons (.var 1) (.cons (.ite (.var 3) (.cst (.int 14)) (.cst (.int 8))) (.cons (.cst (.int 12)) (.cons (.cst (.int 9)) .nil)))))) (.cons (.par [8, 9] (.cons (.mk "Table" (.cons (.var 6) (.cons (.var 7) .nil))) (.cons (.neg (.cst (.int 1))) .nil))) (.cons (.asg (.nm 4) (.ite (.var 3) (.lst (.cons (.cst (.int 0)) (.cons (.cst (.int 1)) (.cons (.var 6) (.cons (.blt "max" (.cons (.cst (.int 0)) (.cons (.bin .sub (.var 6) (.cst (.int 1))) .nil))) (.cons (.call "_law_pick" (.cons (.var 1) (.cons (.bin .add (.var 6) (.cst (.int 1))) .nil))) .nil)))))) (.itb "list" (.rng (.cons (.bin .add (.var 6) (.cst (.int 1))) .nil))))) (.cons (.forr (.nm 5) (.seq (.sset (.var 4))) (.cons (.asg (.nm 10) (.call "_law_worst" (.cons (.var 7) (.cons (.var 6) (.cons (.var 5) .nil))))) (.cons (.ifs (.bor (.nt (.call "_law_same" (.cons (.lst (.cons (.call "most_gone" (.cons (.var 8) (.cons (.var 5) .nil))) (.cons (.call "worst_gone" (.cons (.var 8) (.cons (.var 5) .nil))) .nil))) (.cons (.lst (.cons (.idx (.var 10) (.cst (.int 0))) (.cons (.idx (.var 10) (.cst (.int 1))) .nil))) .nil)))) (.cmp .lt [] (.idx (.var 10) (.cst (.int 0))) (.var 9))) (.cons (.ret (.cst (.bl false))) .nil) .nil) (.cons (.asg (.nm 9) (.idx (.var 10) (.cst (.int 0)))) .nil)))) .nil)))))) (.cons (.ret (.call "_law_rows_right" (.cons (.var 1) .nil))) .nil)))⟩

theorem Kp.sub {S S' : List Nat} {h h' : Hd} (a : Kp S h h') (hs : ∀ x ∈ S, x ∈ S' ∨ h.sz ≤ x) : Kp S' h h' := ⟨a.sz, fun m hm hn => a.at_ m hm fun z => by
  rcases hs m z with q | q
  · exact hn q
  · omega⟩
theorem Kp.any {S : List Nat} {h h' : Hd} (a : Kp [] h h') : Kp S h h' := a.mono fun _ z => by cases z
theorem sset_tmp {is : List Int} {h : Hd} (hl : is.length < 1000) : ssetF (.l (is.map .int)) h = some (.l ((ssI is).map .int)) := by
  unfold ssetF
  simp only [seqOf, lstOf, intsD_map]
  rw [if_pos hl]
theorem sset_lst {k : Nat} {is : List Int} {h : Hd} (e : h.at_ k = some (.lst (is.map .int))) (hl : is.length < 1000) : ssetF (.v (.obj k)) h = some (.l ((ssI is).map .int)) := by
  unfold ssetF
  simp only [seqOf, lstOf, e, intsD_map]
  rw [if_pos hl]
theorem ss_lot {N : Int} {is : List Int} (h : ∀ x ∈ is, 0 ≤ x ∧ x < N) : IsLot N (ssI is) := ⟨ssI_up is, fun x hx => h x (ssI_mem.mp hx)⟩
theorem ss_ne {is : List Int} (h : is ≠ []) : ssI is ≠ [] := by
  cases is with
  | nil => exact (h rfl).elim
  | cons x r =>
    intro e
    have : x ∈ ssI (x :: r) := ssI_mem.mpr (by simp)
    rw [e] at this
    cases this
section
variable {P : Prog} {cs es : List String} {g0 g1 g2 : String} {n : Nat} {h : Hd}
/-- a list of so many drawn numbers -/
theorem wx_draws {t s : Nat} {ns : List Int} {N lo : Int} {m : Nat} {G : Gd} {el : D → Hd → Res (Option D)} {Q : List D → Hd → Prop} {E : XP} (H : TapeE t s ns h) (hG : G = [])
    (hs : ∀ d h', TapeE t s ns h' → WX (el d h') fun o h'' => ∃ v, o = some (.int v) ∧ 0 ≤ v ∧ v < N ∧ TapeE t s ns h'' ∧ Kp [t] h' h'')
    (q : ∀ (is : List Int) h', is.length = m → (∀ x ∈ is, 0 ≤ x ∧ x < N) → TapeE t s ns h' → Kp [t] h h' → Q (is.map .int) h') : WX (compL G el (rngL lo m) h) Q E := by
  subst hG
  refine wx_comp (I := fun i acc h' => ∃ is : List Int, acc = is.map .int ∧ is.length = i ∧ (∀ x ∈ is, 0 ≤ x ∧ x < N) ∧ TapeE t s ns h' ∧ Kp [t] h h') ⟨[], rfl, rfl, by simp, H, Kp.refl⟩ (by simp) ?_ ?_
  · rintro i hi acc h' ⟨is, rfl, l1, b1, H1, k1⟩
    refine (hs _ _ H1).mono ?_
    rintro o h'' ⟨v, rfl, v0, v1, H2, k2⟩
    refine ⟨is ++ [v], by simp, by simp [l1], fun x hx => ?_, H2, k1.trans k2⟩
    rcases List.mem_append.mp hx with hx | hx
    · exact b1 x hx
    · simp at hx
      subst hx
      exact ⟨v0, v1⟩
  · rintro acc h' ⟨is, rfl, l1, b1, H1, k1⟩
    rw [rngL_len] at l1
    exact q is h' l1 b1 H1 k1
theorem w_ltable [HF P "_law_pick" F__law_pick] [q : HF P "_law_table" (F__law_table es)] {t s : Nat} {ns : List Int} {N K M : Int} (H : TapeE t s ns h) (N0 : 1 ≤ N) (N1 : N ≤ 1000) (K0 : 1 ≤ K) (K1 : K ≤ 1000) (M0 : 1 ≤ M) (M1 : M ≤ 1000000) :
    WX (callF P (n + 2) "_law_table" [.obj t, .int N, .int K, .int M] h) fun d h' => ∃ bl : List (List Int × Int), d = .tup [.int N, .tup (bl.map bk)] ∧ bl ≠ [] ∧ (bl.length : Int) ≤ K ∧ (∀ p ∈ bl, IsBlk N p) ∧ TapeE t s ns h' ∧ Kp [t] h h' := by
  refine WX_call q.look rfl ?_
  show WS (evSs (callF P (n + 1)) (F__law_table es).body [some (.obj t), some (.int N), some (.int K), some (.int M), none, none, none, none, none] h) _ _ _
  unfold F__law_table
  have ep : (10 : Int) ^ (6 : Int).toNat = 1000000 := by decide
  have lb := line_big
  simp only [↓evS_for, ↓evX_lc, ↓evS_zret, forB, lcB, Py.wipe, WS_ex, WX_ex, evSs, evS, evX, evXs, evI, evIfs, bindT, bindTs, WS_thenS, WS_bndS, WS_bnnS, WX_bnd, WX_bnn, WX_ok, WX_lift, WS_nx, WS_rt, pro_v, pro_l, pros, List.getElem?_cons_zero, List.getElem?_cons_succ, List.set_cons_zero, List.set_cons_succ, Option.map_some, Option.some.injEq, exists_eq_left', bop_add, bop_sub, bop_mulL, bop_mulR, bop_mulm, bop_mod, bop_fdiv, bop_powS, blt_int, Int.reduceLT, Int.reducePow, Int.reduceLE, Int.reduceNeg, cE_eq, cE_ne, cE_lt, cE_le, cE_gt, cE_ge]
  refine (w_pick (n := n) (m := 8) H.new (by decide) (by decide)).monoE ?_ (fun _ _ _ z => z.elim)
  rintro d h1 ⟨v, rfl, v0, v1, H1, k1, z1⟩
  simp only [↓evS_for, ↓evX_lc, ↓evS_zret, forB, lcB, Py.wipe, WS_ex, WX_ex, evSs, evS, evX, evXs, evI, evIfs, bindT, bindTs, WS_thenS, WS_bndS, WS_bnnS, WX_bnd, WX_bnn, WX_ok, WX_lift, WS_nx, WS_rt, pro_v, pro_l, pros, List.getElem?_cons_zero, List.getElem?_cons_succ, List.set_cons_zero, List.set_cons_succ, Option.map_some, Option.some.injEq, exists_eq_left', bop_add, bop_sub, bop_mulL, bop_mulR, bop_mulm, bop_mod, bop_fdiv, bop_powS, blt_int, Int.reduceLT, Int.reducePow, Int.reduceLE, Int.reduceNeg, cE_eq, cE_ne, cE_lt, cE_le, cE_gt, cE_ge]
  refine (w_pick (n := n) (m := K) H1 (by omega) (by omega)).monoE ?_ (fun _ _ _ z => z.elim)
  rintro d h2 ⟨u, rfl, u0, u1, H2, k2, z2⟩
  have lt : t < h.sz ∧ s < h.sz := H.lt
  have e2 : h2.at_ h.sz = some (.lst []) := by
    rw [k2.at_ h.sz (by rw [z1]; exact Nat.lt_succ_self _) (by simp; omega), k1.at_ h.sz (Nat.lt_succ_self _) (by simp; omega)]
    exact new_at_new
  have z3 : h.sz < h2.sz := by rw [z2, z1]; exact Nat.lt_succ_self _
  have kk : Kp [t] h h2 := Kp.new.trans (k1.trans k2)
  simp only [↓evS_for, ↓evX_lc, ↓evS_zret, forB, lcB, Py.wipe, WS_ex, WX_ex, evSs, evS, evX, evXs, evI, evIfs, bindT, bindTs, WS_thenS, WS_bndS, WS_bnnS, WX_bnd, WX_bnn, WX_ok, WX_lift, WS_nx, WS_rt, pro_v, pro_l, pros, List.getElem?_cons_zero, List.getElem?_cons_succ, List.set_cons_zero, List.set_cons_succ, Option.map_some, Option.some.injEq, exists_eq_left', bop_add, bop_sub, bop_mulL, bop_mulR, bop_mulm, bop_mod, bop_fdiv, bop_powS, blt_int, Int.reduceLT, Int.reducePow, Int.reduceLE, Int.reduceNeg, cE_eq, cE_ne, cE_lt, cE_le, cE_gt, cE_ge, walk1 (show 0 ≤ 1 + u by omega) (show 1 + u ≤ 16777216 by omega)]
  refine ws_for (I := fun i ρ h' => ∃ (bl : List (List Int × Int)) (o6 o7 o8 : Option D), ρ = [some (.obj t), some (.int N), some (.int K), some (.int M), some (.obj h.sz), some (.bl (decide (v = 0))), o6, o7, o8] ∧ bl.length = i ∧ (∀ p ∈ bl, IsBlk N p) ∧ h'.at_ h.sz = some (.lst (bl.map bk)) ∧ TapeE t s ns h' ∧ Kp [t] h h' ∧ h.sz < h'.sz) ⟨[], none, none, none, rfl, rfl, by simp, e2, H2, kk, z3⟩ (by intro i ρ h' _ _; simp) ?_ ?_
  · rintro i hi ρ h3 ⟨bl, o6, o7, o8, rfl, l3, b3, e3, H3, k3, z3⟩
    rw [rngL_get hi]
    rw [rngL_len] at hi
    simp only [↓evS_for, ↓evX_lc, ↓evS_zret, forB, lcB, Py.wipe, WS_ex, WX_ex, evSs, evS, evX, evXs, evI, evIfs, bindT, bindTs, WS_thenS, WS_bndS, WS_bnnS, WX_bnd, WX_bnn, WX_ok, WX_lift, WS_nx, WS_rt, pro_v, pro_l, pros, List.getElem?_cons_zero, List.getElem?_cons_succ, List.set_cons_zero, List.set_cons_succ, Option.map_some, Option.some.injEq, exists_eq_left', bop_add, bop_sub, bop_mulL, bop_mulR, bop_mulm, bop_mod, bop_fdiv, bop_powS, blt_int, Int.reduceLT, Int.reducePow, Int.reduceLE, Int.reduceNeg, cE_eq, cE_ne, cE_lt, cE_le, cE_gt, cE_ge]
    refine (w_pick (n := n) (m := 4) H3 (by decide) (by decide)).monoE ?_ (fun _ _ _ z => z.elim)
    rintro d h4 ⟨w, rfl, w0, w1, H4, k4, z4⟩
    simp only [↓evS_for, ↓evX_lc, ↓evS_zret, forB, lcB, Py.wipe, WS_ex, WX_ex, evSs, evS, evX, evXs, evI, evIfs, bindT, bindTs, WS_thenS, WS_bndS, WS_bnnS, WX_bnd, WX_bnn, WX_ok, WX_lift, WS_nx, WS_rt, pro_v, pro_l, pros, List.getElem?_cons_zero, List.getElem?_cons_succ, List.set_cons_zero, List.set_cons_succ, Option.map_some, Option.some.injEq, exists_eq_left', bop_add, bop_sub, bop_mulL, bop_mulR, bop_mulm, bop_mod, bop_fdiv, bop_powS, blt_int, Int.reduceLT, Int.reducePow, Int.reduceLE, Int.reduceNeg, cE_eq, cE_ne, cE_lt, cE_le, cE_gt, cE_ge, walk1 (show 0 ≤ 1 + w by omega) (show 1 + w ≤ 16777216 by omega)]
    refine wx_draws (N := N) H4 rfl (fun d h' H' => ?_) ?_
    · simp only [↓evS_for, ↓evX_lc, ↓evS_zret, forB, lcB, Py.wipe, WS_ex, WX_ex, evSs, evS, evX, evXs, evI, evIfs, bindT, bindTs, WS_thenS, WS_bndS, WS_bnnS, WX_bnd, WX_bnn, WX_ok, WX_lift, WS_nx, WS_rt, pro_v, pro_l, pros, List.getElem?_cons_zero, List.getElem?_cons_succ, List.set_cons_zero, List.set_cons_succ, Option.map_some, Option.some.injEq, exists_eq_left', bop_add, bop_sub, bop_mulL, bop_mulR, bop_mulm, bop_mod, bop_fdiv, bop_powS, blt_int, Int.reduceLT, Int.reducePow, Int.reduceLE, Int.reduceNeg, cE_eq, cE_ne, cE_lt, cE_le, cE_gt, cE_ge]
      refine (w_pick (n := n) (m := N) H' (by omega) (by omega)).mono ?_
      rintro d h'' ⟨v', rfl, p0, p1, H'', k'', _⟩
      exact ⟨v', rfl, p0, p1, H'', k''⟩
    · intro is h5 l5 b5 H5 k5
      have ne5 : is ≠ [] := by
        intro e
        rw [e] at l5
        simp at l5
        omega
      have ss := sset_tmp (is := is) (h := h5) (by omega)
      have k35 : Kp [t] h3 h5 := k4.trans k5
      have e5 : (h5.new (.lst ((ssI is).map .int))).at_ h.sz = some (.lst (bl.map bk)) := by
        rw [new_at_old (Nat.lt_of_lt_of_le z3 k35.sz), k35.at_ h.sz z3 (by simp; omega)]
        exact e3
      have ty := ty_lst e5
      have et : (h5.new (.lst ((ssI is).map .int))).at_ h5.sz = some (.lst ((ssI is).map .int)) := new_at_new
      have fin : ∀ (mx : Int), 1 ≤ mx → mx ≤ 1000000 → WX (callF P (n + 1) "_law_pick" [.obj t, .int mx] (h5.new (.lst ((ssI is).map .int)))) (fun d h' => ∃ x, d = .int x ∧ 0 ≤ x ∧ x < mx ∧ TapeE t s ns h' ∧ Kp [t] h h' ∧ h.sz < h'.sz ∧ h'.at_ h.sz = some (.lst (bl.map bk))) := fun mx m0 m1 => by
        refine (w_pick (n := n) (m := mx) H5.new (by omega) (by omega)).mono ?_
        rintro d h6 ⟨x, rfl, x0, x1, H6, k6, z6⟩
        refine ⟨x, rfl, x0, x1, H6, (k3.trans k35).trans (Kp.new.trans k6), ?_, ?_⟩
        · rw [z6]
          have := k35.sz
          show h.sz < h5.sz + 1
          omega
        · rw [k6.at_ h.sz (by have := k35.sz; show h.sz < h5.sz + 1; omega) (by simp; omega)]
          exact e5
      have blk : ∀ x : Int, 0 ≤ x → x < 1000000 → IsBlk N (ssI is, 1 + x) := fun x x0 x1 => ⟨ss_lot b5, ss_ne ne5, by show 1 ≤ 1 + x; omega, by show 1 + x ≤ 1000000; omega⟩
      have hap : (bl.map bk).length < LINE := by rw [List.length_map]; omega
      have stp : ∀ (x : Int) (h' : Hd), 0 ≤ x → x < 1000000 → TapeE t s ns h' → Kp [t] h h' → h.sz < h'.sz → h'.at_ h.sz = some (.lst (bl.map bk)) → ∃ (bl2 : List (List Int × Int)) (q6 q7 q8 : Option D), [some (.obj t), some (.int N), some (.int K), some (.int M), some (.obj h.sz), some (.bl (decide (v = 0))), some (.int (0 + (i : Int))), some (.obj h5.sz), o8] = [some (.obj t), some (.int N), some (.int K), some (.int M), some (.obj h.sz), some (.bl (decide (v = 0))), q6, q7, q8] ∧ bl2.length = i + 1 ∧ (∀ p ∈ bl2, IsBlk N p) ∧ (h'.put h.sz (.lst (bl.map bk ++ [bk (ssI is, 1 + x)]))).at_ h.sz = some (.lst (bl2.map bk)) ∧ TapeE t s ns (h'.put h.sz (.lst (bl.map bk ++ [bk (ssI is, 1 + x)]))) ∧ Kp [t] h (h'.put h.sz (.lst (bl.map bk ++ [bk (ssI is, 1 + x)]))) ∧ h.sz < (h'.put h.sz (.lst (bl.map bk ++ [bk (ssI is, 1 + x)]))).sz := fun x h' x0 x1 H' k' z' e' => by
        refine ⟨bl ++ [(ssI is, 1 + x)], _, _, _, rfl, by simp [l3], fun p hp => ?_, by rw [put_at_same]; simp, H'.put (by omega) (by omega), k'.putn (Nat.le_refl _), z'⟩
        rcases List.mem_append.mp hp with hp | hp
        · exact b3 p hp
        · simp at hp
          subst hp
          exact blk x x0 x1
      by_cases hv : v = 0
      · rw [decide_eq_true hv] at *
        simp only [↓evS_for, ↓evX_lc, ↓evS_zret, forB, lcB, Py.wipe, WS_ex, WX_ex, evSs, evS, evX, evXs, evI, evIfs, bindT, bindTs, WS_thenS, WS_bndS, WS_bnnS, WX_bnd, WX_bnn, WX_ok, WX_lift, WS_nx, WS_rt, pro_v, pro_l, pros, List.getElem?_cons_zero, List.getElem?_cons_succ, List.set_cons_zero, List.set_cons_succ, Option.map_some, Option.some.injEq, exists_eq_left', bop_add, bop_sub, bop_mulL, bop_mulR, bop_mulm, bop_mod, bop_fdiv, bop_powS, blt_int, Int.reduceLT, Int.reducePow, Int.reduceLE, Int.reduceNeg, cE_eq, cE_ne, cE_lt, cE_le, cE_gt, cE_ge, ss, ty, and_self, if_true, tup_lst et, ep]
        refine (fin 1000000 (by decide) (by decide)).monoE ?_ (fun _ _ _ z => z.elim)
        rintro d h6 ⟨x, rfl, x0, x1, H6, k6, z6, e6⟩
        simp only [↓evS_for, ↓evX_lc, ↓evS_zret, forB, lcB, Py.wipe, WS_ex, WX_ex, evSs, evS, evX, evXs, evI, evIfs, bindT, bindTs, WS_thenS, WS_bndS, WS_bnnS, WX_bnd, WX_bnn, WX_ok, WX_lift, WS_nx, WS_rt, pro_v, pro_l, pros, List.getElem?_cons_zero, List.getElem?_cons_succ, List.set_cons_zero, List.set_cons_succ, Option.map_some, Option.some.injEq, exists_eq_left', bop_add, bop_sub, bop_mulL, bop_mulR, bop_mulm, bop_mod, bop_fdiv, bop_powS, blt_int, Int.reduceLT, Int.reducePow, Int.reduceLE, Int.reduceNeg, cE_eq, cE_ne, cE_lt, cE_le, cE_gt, cE_ge, app_lst e6 hap]
        exact stp x h6 x0 x1 H6 k6 z6 e6
      · rw [decide_eq_false hv] at *
        simp only [↓evS_for, ↓evX_lc, ↓evS_zret, forB, lcB, Py.wipe, WS_ex, WX_ex, evSs, evS, evX, evXs, evI, evIfs, bindT, bindTs, WS_thenS, WS_bndS, WS_bnnS, WX_bnd, WX_bnn, WX_ok, WX_lift, WS_nx, WS_rt, pro_v, pro_l, pros, List.getElem?_cons_zero, List.getElem?_cons_succ, List.set_cons_zero, List.set_cons_succ, Option.map_some, Option.some.injEq, exists_eq_left', bop_add, bop_sub, bop_mulL, bop_mulR, bop_mulm, bop_mod, bop_fdiv, bop_powS, blt_int, Int.reduceLT, Int.reducePow, Int.reduceLE, Int.reduceNeg, cE_eq, cE_ne, cE_lt, cE_le, cE_gt, cE_ge, ss, ty, and_self, if_true, tup_lst et]
        refine (fin M M0 M1).monoE ?_ (fun _ _ _ z => z.elim)
        rintro d h6 ⟨x, rfl, x0, x1, H6, k6, z6, e6⟩
        simp only [↓evS_for, ↓evX_lc, ↓evS_zret, forB, lcB, Py.wipe, WS_ex, WX_ex, evSs, evS, evX, evXs, evI, evIfs, bindT, bindTs, WS_thenS, WS_bndS, WS_bnnS, WX_bnd, WX_bnn, WX_ok, WX_lift, WS_nx, WS_rt, pro_v, pro_l, pros, List.getElem?_cons_zero, List.getElem?_cons_succ, List.set_cons_zero, List.set_cons_succ, Option.map_some, Option.some.injEq, exists_eq_left', bop_add, bop_sub, bop_mulL, bop_mulR, bop_mulm, bop_mod, bop_fdiv, bop_powS, blt_int, Int.reduceLT, Int.reducePow, Int.reduceLE, Int.reduceNeg, cE_eq, cE_ne, cE_lt, cE_le, cE_gt, cE_ge, app_lst e6 hap]
        exact stp x h6 x0 (by omega) H6 k6 z6 e6
  · rintro ρ h3 ⟨bl, o6, o7, o8, rfl, l3, b3, e3, H3, k3, z3⟩
    rw [rngL_len] at l3
    simp only [↓evS_for, ↓evX_lc, ↓evS_zret, forB, lcB, Py.wipe, WS_ex, WX_ex, evSs, evS, evX, evXs, evI, evIfs, bindT, bindTs, WS_thenS, WS_bndS, WS_bnnS, WX_bnd, WX_bnn, WX_ok, WX_lift, WS_nx, WS_rt, pro_v, pro_l, pros, List.getElem?_cons_zero, List.getElem?_cons_succ, List.set_cons_zero, List.set_cons_succ, Option.map_some, Option.some.injEq, exists_eq_left', bop_add, bop_sub, bop_mulL, bop_mulR, bop_mulm, bop_mod, bop_fdiv, bop_powS, blt_int, Int.reduceLT, Int.reducePow, Int.reduceLE, Int.reduceNeg, cE_eq, cE_ne, cE_lt, cE_le, cE_gt, cE_ge, tup_lst e3]
    refine ⟨bl, rfl, ?_, by omega, b3, H3, k3⟩
    intro e
    rw [e] at l3
    simp at l3
    omega
end
end Py


set_option Elab.async false
set_option linter.all false
set_option maxRecDepth 100000
set_option maxHeartbeats 4000000
/-! K09e: plain facts: more boxes take no less; rings of neighbours. -/
namespace Py
open PySem (Str PyData)
theorem lot_nodup {N : Int} {l : List Int} (h : IsLot N l) : l.Nodup := h.1.imp fun q e => by omega
theorem wgone_mono {bl : List (List Int × Int)} {l l' : List Int} (hw : ∀ p ∈ bl, 0 ≤ p.2) (hs : ∀ x ∈ l, x ∈ l') : wgone bl l ≤ wgone bl l' := by
  unfold wgone
  induction bl with
  | nil => exact Int.le_refl _
  | cons p r ih =>
    have ih := ih fun q hq => hw q (List.mem_cons_of_mem _ hq)
    have h0 := hw p (by simp)
    have hg : goneB l p = true → goneB l' p = true := fun q => by
      unfold goneB at *
      rw [List.all_eq_true] at *
      exact fun b hb => decide_eq_true (hs b (of_decide_eq_true (q b hb)))
    rw [List.filter_cons, List.filter_cons]
    cases h1 : goneB l p
    · cases h2 : goneB l' p
      · simpa using ih
      · simp only [Bool.false_eq_true, if_false, if_true, List.map_cons, List.sum_cons]
        omega
    · rw [hg h1]
      simp only [if_true, List.map_cons, List.sum_cons]
      omega
theorem wgone_nn {bl : List (List Int × Int)} {l : List Int} (hw : ∀ p ∈ bl, 0 ≤ p.2) : 0 ≤ wgone bl l := by
  unfold wgone
  induction bl with
  | nil => exact Int.le_refl _
  | cons p r ih =>
    have ih := ih fun q hq => hw q (List.mem_cons_of_mem _ hq)
    have h0 := hw p (by simp)
    rw [List.filter_cons]
    cases h1 : goneB l p
    · simpa using ih
    · simp only [if_true, List.map_cons, List.sum_cons]
      omega
theorem rng_nodup {k : Nat} : ((List.range k).map fun (i : Nat) => (i : Int)).Nodup := lot_nodup (lot_rng (N := (k : Int)) (Int.le_refl _))
theorem lot_len {N : Int} {l : List Int} (h : IsLot N l) : (l.length : Int) ≤ max 0 N := by
  have := List.Nodup.length_le_of_subset (lot_nodup h) (l₂ := (List.range N.toNat).map fun (i : Nat) => (i : Int)) fun x hx => by
    have := h.2 x hx
    exact List.mem_map.mpr ⟨x.toNat, List.mem_range.mpr (by omega), by omega⟩
  simp at this
  omega
/-- a box not lost -/
theorem lot_miss {N : Int} {l : List Int} (h : IsLot N l) (hl : (l.length : Int) < N) : ∃ x, 0 ≤ x ∧ x < N ∧ x ∉ l := by
  apply Classical.byContradiction
  intro hn
  have hall : ∀ x, 0 ≤ x → x < N → x ∈ l := fun x x0 x1 => Classical.byContradiction fun z => hn ⟨x, x0, x1, z⟩
  have := List.Nodup.length_le_of_subset (l₁ := (List.range N.toNat).map fun (i : Nat) => (i : Int)) rng_nodup (l₂ := l) fun x hx => by
    obtain ⟨i, hi, rfl⟩ := List.mem_map.mp hx
    have := List.mem_range.mp hi
    exact hall _ (by omega) (by omega)
  simp at this
  omega
theorem insI_len {x : Int} : ∀ {l : List Int}, x ∉ l → (insI x l).length = l.length + 1
  | [], _ => rfl
  | y :: r, h => by
    unfold insI
    split
    · rfl
    · split
      · rename_i e
        subst e
        simp at h
      · rw [List.length_cons, insI_len (l := r) fun z => h (List.mem_cons_of_mem _ z), List.length_cons]
theorem lot_more {N : Int} {l : List Int} (h : IsLot N l) (hl : (l.length : Int) < N) : ∃ l', IsLot N l' ∧ l'.length = l.length + 1 ∧ ∀ x ∈ l, x ∈ l' := by
  obtain ⟨x, x0, x1, hx⟩ := lot_miss h hl
  refine ⟨insI x l, ⟨insI_up h.1, fun y hy => ?_⟩, insI_len hx, fun y hy => insI_mem.mpr (.inr hy)⟩
  rcases insI_mem.mp hy with rfl | hy
  · exact ⟨x0, x1⟩
  · exact h.2 y hy
theorem lot_upto {N : Int} {l : List Int} (h : IsLot N l) : ∀ d : Nat, ((l.length + d : Nat) : Int) ≤ N → ∃ l', IsLot N l' ∧ l'.length = l.length + d ∧ ∀ x ∈ l, x ∈ l'
  | 0, _ => ⟨l, h, rfl, fun _ q => q⟩
  | d + 1, hd => by
    obtain ⟨m, m1, m2, m3⟩ := lot_upto h d (by omega)
    obtain ⟨k, k1, k2, k3⟩ := lot_more m1 (by omega)
    exact ⟨k, k1, by omega, fun x hx => k3 x (m3 x hx)⟩
theorem most_mono {N : Int} {bl : List (List Int × Int)} {a b : Nat} {v v' : Int} {m m' : List Int} (hw : ∀ p ∈ bl, 0 ≤ p.2) (hab : a ≤ b) (hb : (b : Int) ≤ N)
    (e : topW (wgone bl) (chB N a) = some (v, m)) (e' : topW (wgone bl) (chB N b) = some (v', m')) : v ≤ v' := by
  obtain ⟨k, ek, hk, _⟩ := topW_spec (w := wgone bl) (ls := chB N a) (chB_ne (by omega))
  obtain ⟨k', ek', _, hk'⟩ := topW_spec (w := wgone bl) (ls := chB N b) (chB_ne hb)
  rw [ek] at e
  rw [ek'] at e'
  cases e
  cases e'
  obtain ⟨q1, q2, _⟩ := chB_ok (by omega) hk
  obtain ⟨l', l1, l2, l3⟩ := lot_upto q1 (b - a) (by omega)
  exact Int.le_trans (wgone_mono hw l3) (hk' l' (chB_mem l1 (by omega)))
/-! ### rings -/
def cntR (a : Nat → Bool) (c n : Nat) : Nat := (List.range n).countP fun p => a (p + c)
theorem cnt_step {a : Nat → Bool} {n : Nat} (ha : ∀ q, a (q + n) = a q) (c : Nat) : cntR a (c + 1) n = cntR a c n := by
  have h1 : (List.range (n + 1)).countP (fun p => a (p + c)) = cntR a c n + (if a (n + c) then 1 else 0) := by
    rw [List.range_succ, List.countP_append, List.countP_singleton]
    rfl
  have h2 : (List.range (n + 1)).countP (fun p => a (p + c)) = cntR a (c + 1) n + (if a c then 1 else 0) := by
    rw [List.range_succ_eq_map, List.countP_cons, List.countP_map]
    have e : ((fun p => a (p + c)) ∘ Nat.succ) = fun p => a (p + (c + 1)) := by
      funext p
      show a (p + 1 + c) = a (p + (c + 1))
      congr 1
      omega
    rw [e, Nat.zero_add]
    rfl
  rw [Nat.add_comm n c, ha c] at h1
  omega
theorem cnt_0 {a : Nat → Bool} {n : Nat} (ha : ∀ q, a (q + n) = a q) : ∀ c, cntR a c n = cntR a 0 n
  | 0 => rfl
  | c + 1 => by rw [cnt_step ha, cnt_0 ha c]
theorem count_lt {α : Type} {p q : α → Bool} : ∀ {l : List α}, (∀ x ∈ l, p x = true → q x = true) → (∃ x ∈ l, q x = true ∧ p x = false) → l.countP p + 1 ≤ l.countP q
  | [], _, ⟨x, hx, _⟩ => by cases hx
  | y :: r, h, ⟨x, hx, h1, h2⟩ => by
    rw [List.countP_cons, List.countP_cons]
    have hr : ∀ x ∈ r, p x = true → q x = true := fun x hx => h x (List.mem_cons_of_mem _ hx)
    rcases List.mem_cons.mp hx with rfl | hx
    · have := List.countP_mono_left hr
      simp only [h1, h2, if_true, Bool.false_eq_true, if_false]
      omega
    · have := count_lt hr ⟨x, hx, h1, h2⟩
      have hy := h y (by simp)
      cases hp : p y
      · cases hq : q y <;> simp <;> omega
      · rw [hy hp]
        simp
        omega
def runA (g : Nat → Bool) (s q : Nat) : Bool := (List.range s).all fun j => g (q + j)
theorem runA_iff {g : Nat → Bool} {s q : Nat} : runA g s q = true ↔ ∀ j, j < s → g (q + j) = true := by
  unfold runA
  simp [List.all_eq_true]
theorem runA_per {g : Nat → Bool} {n : Nat} (hg : ∀ q, g (q + n) = g q) (s q : Nat) : runA g s (q + n) = runA g s q := by
  unfold runA
  congr 1
  funext j
  rw [← hg (q + j)]
  congr 1
  omega
theorem run_drop {g : Nat → Bool} {n s : Nat} (hg : ∀ q, g (q + n) = g q) (hs : 1 ≤ s) (h0 : 0 < cntR (runA g s) 0 n) (h1 : cntR (runA g s) 0 n < n) : cntR (runA g (s + 1)) 0 n + 1 ≤ cntR (runA g s) 0 n := by
  have hsub : ∀ q, runA g (s + 1) q = true → runA g s q = true := fun q h => runA_iff.mpr fun j hj => runA_iff.mp h j (by omega)
  refine count_lt (fun x _ => hsub _) ?_
  apply Classical.byContradiction
  intro hn
  have step : ∀ q, q < n → runA g s q = true → g (q + s) = true := fun q hq hr => by
    cases hb : g (q + s)
    · refine (hn ⟨q, List.mem_range.mpr hq, hr, ?_⟩).elim
      cases hb2 : runA g (s + 1) (q + 0)
      · rfl
      · have := runA_iff.mp hb2 s (by omega)
        rw [Nat.add_zero, hb] at this
        cases this
    · rfl
  have gm : ∀ q, g (q % n) = g q := fun q => by
    have : ∀ k r, g (r + n * k) = g r := by
      intro k
      induction k with
      | zero => intro r; rfl
      | succ k ih =>
        intro r
        rw [show r + n * (k + 1) = (r + n * k) + n from by rw [Nat.mul_succ]; omega, hg, ih]
    rw [← this (q / n) (q % n), Nat.mod_add_div]
  have rm : ∀ q, runA g s (q % n) = runA g s q := fun q => by
    have : ∀ k r, runA g s (r + n * k) = runA g s r := by
      intro k
      induction k with
      | zero => intro r; rfl
      | succ k ih =>
        intro r
        rw [show r + n * (k + 1) = (r + n * k) + n from by rw [Nat.mul_succ]; omega, runA_per hg, ih]
    rw [← this (q / n) (q % n), Nat.mod_add_div]
  have np : 0 < n := by omega
  have next : ∀ q, runA g s q = true → runA g s (q + 1) = true := fun q hr => by
    refine runA_iff.mpr fun j hj => ?_
    by_cases e : j + 1 < s
    · have := runA_iff.mp hr (j + 1) e
      rwa [show q + 1 + j = q + (j + 1) from by omega]
    · have h2 := step (q % n) (Nat.mod_lt _ np) (by rw [rm]; exact hr)
      have e2 : q + 1 + j = q + s := by omega
      rw [e2, ← gm, ← Nat.mod_add_mod, gm]
      exact h2
  have hex : ∃ q, q < n ∧ runA g s q = true := by
    obtain ⟨q, hq, hr⟩ := List.countP_pos_iff.mp h0
    exact ⟨q, List.mem_range.mp hq, hr⟩
  obtain ⟨q0, hq0, hr0⟩ := hex
  have ups : ∀ d, runA g s (q0 + d) = true := by
    intro d
    induction d with
    | zero => exact hr0
    | succ d ih => exact next _ ih
  have allp : ∀ p, p < n → runA g s p = true := fun p hp => by
    rw [← runA_per hg s p]
    have := ups (p + n - q0)
    rwa [show q0 + (p + n - q0) = p + n from by omega] at this
  have : cntR (runA g s) 0 n = n := by
    unfold cntR
    have := List.countP_eq_length (p := fun p => runA g s (p + 0)) (l := List.range n) |>.mpr fun p hp => allp p (List.mem_range.mp hp)
    rw [this, List.length_range]
  omega
theorem run_le {g : Nat → Bool} {n f : Nat} (hg : ∀ q, g (q + n) = g q) (hf : f < n) (h1 : cntR (runA g 1) 0 n = f) : ∀ s, 1 ≤ s → cntR (runA g s) 0 n ≤ f + 1 - s
  | 0, h => by omega
  | 1, _ => by omega
  | s + 2, _ => by
    have ih := run_le hg hf h1 (s + 1) (by omega)
    by_cases h0 : 0 < cntR (runA g (s + 1)) 0 n
    · have := run_drop hg (s := s + 1) (by omega) h0 (by omega)
      show cntR (runA g (s + 1 + 1)) 0 n ≤ _
      omega
    · have : cntR (runA g (s + 1 + 1)) 0 n ≤ cntR (runA g (s + 1)) 0 n := List.countP_mono_left fun q _ h => runA_iff.mpr fun j hj => runA_iff.mp h j (by omega)
      show cntR (runA g (s + 1 + 1)) 0 n ≤ _
      omega
/-- which places of the ring are lost -/
def ringG (n : Nat) (loss : List Int) (q : Nat) : Bool := decide (((q % n : Nat) : Int) ∈ loss)
theorem ringG_per {n : Nat} {loss : List Int} (q : Nat) : ringG n loss (q + n) = ringG n loss q := by
  unfold ringG
  rw [Nat.add_mod_right]
theorem ring_1 {n : Nat} {loss : List Int} (hL : IsLot (n : Int) loss) : cntR (runA (ringG n loss) 1) 0 n = loss.length := by
  have e : cntR (runA (ringG n loss) 1) 0 n = ((List.range n).filter fun (p : Nat) => decide (((p : Nat) : Int) ∈ loss)).length := by
    unfold cntR
    rw [List.countP_eq_length_filter]
    congr 1
    refine List.filter_congr fun p hp => ?_
    have := List.mem_range.mp hp
    show (List.all (List.range 1) fun j => decide ((((p + 0 + j) % n : Nat) : Int) ∈ loss)) = _
    rw [List.range_one, List.all_cons, List.all_nil, Bool.and_true, Nat.add_zero, Nat.mod_eq_of_lt this]
  rw [e]
  have n1 : (((List.range n).filter fun (p : Nat) => decide (((p : Nat) : Int) ∈ loss)).map fun (i : Nat) => (i : Int)).Nodup := by
    refine List.pairwise_map.mpr ((List.Pairwise.filter _ List.pairwise_lt_range).imp fun {a b} q e => by omega)
  have h1 := List.Nodup.length_le_of_subset n1 (l₂ := loss) fun x hx => by
    obtain ⟨i, hi, rfl⟩ := List.mem_map.mp hx
    have := (List.mem_filter.mp hi).2
    exact of_decide_eq_true this
  have h2 := List.Nodup.length_le_of_subset (lot_nodup hL) (l₂ := ((List.range n).filter fun (p : Nat) => decide (((p : Nat) : Int) ∈ loss)).map fun (i : Nat) => (i : Int)) fun x hx => by
    have hb := hL.2 x hx
    refine List.mem_map.mpr ⟨x.toNat, List.mem_filter.mpr ⟨List.mem_range.mpr (by omega), ?_⟩, by omega⟩
    have : ((x.toNat : Nat) : Int) = x := by omega
    rw [this]
    exact decide_eq_true hx
  rw [List.length_map] at h1 h2
  omega
theorem ring_ge {n f s : Nat} (hs : 1 ≤ s) (hf : f ≤ n) : f + 1 - s ≤ cntR (runA (ringG n ((List.range f).map fun (i : Nat) => (i : Int))) s) 0 n := by
  have hm : f + 1 - s ≤ n := by omega
  unfold cntR
  have e : List.range n = List.range (f + 1 - s) ++ (List.range (n - (f + 1 - s))).map (f + 1 - s + ·) := by rw [← List.range_add]; congr 1; omega
  rw [e, List.countP_append]
  have : (List.range (f + 1 - s)).countP (fun p => runA (ringG n ((List.range f).map fun (i : Nat) => (i : Int))) s (p + 0)) = f + 1 - s := by
    rw [List.countP_eq_length.mpr, List.length_range]
    intro p hp
    have := List.mem_range.mp hp
    refine runA_iff.mpr fun j hj => ?_
    unfold ringG
    have h2 : p + 0 + j < f := by omega
    rw [Nat.mod_eq_of_lt (by omega)]
    exact decide_eq_true (List.mem_map.mpr ⟨p + 0 + j, List.mem_range.mpr h2, rfl⟩)
  omega
theorem ring_all {n s : Nat} {loss : List Int} (hL : IsLot (n : Int) loss) (hl : loss.length = n) : cntR (runA (ringG n loss) s) 0 n = n := by
  unfold cntR
  rw [List.countP_eq_length.mpr, List.length_range]
  intro p hp
  have := List.mem_range.mp hp
  refine runA_iff.mpr fun j hj => ?_
  unfold ringG
  refine decide_eq_true (Classical.byContradiction fun hx => ?_)
  have hlt : (p + 0 + j) % n < n := Nat.mod_lt _ (by omega)
  have := List.Nodup.length_le_of_subset (l₁ := (((p + 0 + j) % n : Nat) : Int) :: loss) (List.nodup_cons.mpr ⟨hx, lot_nodup hL⟩) (l₂ := (List.range n).map fun (i : Nat) => (i : Int)) fun x hx => by
    rcases List.mem_cons.mp hx with rfl | hx
    · exact List.mem_map.mpr ⟨_, List.mem_range.mpr hlt, rfl⟩
    · have := hL.2 x hx
      exact List.mem_map.mpr ⟨x.toNat, List.mem_range.mpr (by omega), by omega⟩
  simp at this
  omega
end Py


set_option Elab.async false
set_option linter.all false
set_option maxRecDepth 100000
set_option maxHeartbeats 4000000
/-! K09f: rings lose as told. -/
namespace Py
open PySem (Str PyData)
theorem prodI1 {n : Int} : prodI [n] = n := by simp [prodI]
theorem sumP1 {n a b : Int} : sumP [n] a b = (a + b) % n := by
  have : sumP [n] a b = 0 * n + (a % n + b % n) % n := rfl
  rw [this, Int.zero_mul, Int.zero_add, ← Int.add_emod]
theorem shift1_mem {n p x : Int} {lot : List Int} : x ∈ shiftP [n] lot p ↔ ∃ y ∈ lot, (p + y) % n = x := by
  unfold shiftP
  rw [mem_srt, List.mem_map]
  simp only [sumP1]
/-- the shown lot of neighbours -/
def shownL (n s c : Nat) : List Int := srtL ((List.range s).map fun (j : Nat) => ((c : Int) + ((0 : Int) + (j : Int))) % (n : Int))
theorem shown_mem {n s c : Nat} {x : Int} : x ∈ shownL n s c ↔ ∃ j : Nat, j < s ∧ (((c + j) % n : Nat) : Int) = x := by
  unfold shownL
  rw [mem_srt, List.mem_map]
  constructor
  · rintro ⟨j, hj, rfl⟩
    refine ⟨j, List.mem_range.mp hj, ?_⟩
    push_cast
    rw [Int.zero_add]
  · rintro ⟨j, hj, rfl⟩
    refine ⟨j, List.mem_range.mpr hj, ?_⟩
    push_cast
    rw [Int.zero_add]
theorem mod_inj {n c i j : Nat} (hi : i < n) (hj : j < n) (e : (c + i) % n = (c + j) % n) : i = j := by
  have h1 := Nat.mod_add_div (c + i) n
  have h2 := Nat.mod_add_div (c + j) n
  rw [e] at h1
  have h3 : n * ((c + i) / n) + j = n * ((c + j) / n) + i := by omega
  rcases Nat.lt_trichotomy ((c + i) / n) ((c + j) / n) with q | q | q
  · have : n * ((c + i) / n + 1) ≤ n * ((c + j) / n) := Nat.mul_le_mul_left n q
    rw [Nat.mul_succ] at this
    omega
  · rw [q] at h3
    omega
  · have : n * ((c + j) / n + 1) ≤ n * ((c + i) / n) := Nat.mul_le_mul_left n q
    rw [Nat.mul_succ] at this
    omega
theorem shown_lot {n s c : Nat} (hn : 1 ≤ n) (hs : s ≤ n) : IsLot (n : Int) (shownL n s c) := by
  refine ⟨sorted_lt ?_, fun x hx => ?_⟩
  · refine List.pairwise_map.mpr (List.pairwise_lt_range.imp_of_mem fun {a b} ha hb q e => ?_)
    have ha := List.mem_range.mp ha
    have hb := List.mem_range.mp hb
    have e2 : (c + a) % n = (c + b) % n := by
      rw [Int.zero_add, Int.zero_add] at e
      have : (((c + a) % n : Nat) : Int) = (((c + b) % n : Nat) : Int) := by push_cast; exact e
      omega
    have := mod_inj (by omega) (by omega) e2
    omega
  · obtain ⟨j, _, rfl⟩ := shown_mem.mp hx
    have := Nat.mod_lt (c + j) (show 0 < n by omega)
    omega
theorem shown_len {n s c : Nat} : (shownL n s c).length = s := by simp [shownL, srtL]
theorem gone_ring {n s c p : Nat} {loss : List Int} : goneB loss (shiftP [(n : Int)] (shownL n s c) (p : Int), 1) = runA (ringG n loss) s (p + c) := by
  rw [Bool.eq_iff_iff, runA_iff]
  unfold goneB
  rw [List.all_eq_true]
  have key : ∀ j : Nat, ((p : Int) + (((c + j) % n : Nat) : Int)) % (n : Int) = (((p + c + j) % n : Nat) : Int) := fun j => by
    push_cast
    rw [Int.add_emod_emod, Int.add_assoc]
  constructor
  · intro h j hj
    have := h _ (shift1_mem.mpr ⟨_, shown_mem.mpr ⟨j, hj, rfl⟩, key j⟩)
    unfold ringG
    exact this
  · intro h x hx
    obtain ⟨y, hy, rfl⟩ := shift1_mem.mp hx
    obtain ⟨j, hj, rfl⟩ := shown_mem.mp hy
    rw [key j]
    exact h j hj
def ringT (n s c : Nat) : List (List Int × Int) := blocksP [(n : Int)] (shownL n s c, 1)
theorem wgone_ring {n s c : Nat} {loss : List Int} : wgone (ringT n s c) loss = ((cntR (runA (ringG n loss) s) 0 n : Nat) : Int) := by
  rw [← cnt_0 (runA_per ringG_per s) c]
  unfold wgone ringT blocksP cntR
  rw [prodI1, Int.toNat_natCast, List.filter_map, List.map_map, List.countP_eq_length_filter]
  have e : (goneB loss ∘ fun (i : Nat) => (shiftP [(n : Int)] (shownL n s c, (1 : Int)).1 (i : Int), (shownL n s c, (1 : Int)).2)) = fun p => runA (ringG n loss) s (p + c) := by
    funext p
    exact gone_ring
  rw [e]
  generalize (List.range n).filter (fun p => runA (ringG n loss) s (p + c)) = l
  induction l with
  | nil => rfl
  | cons x r ih =>
    rw [List.map_cons, List.sum_cons, ih, List.length_cons]
    show (1 : Int) + _ = _
    omega
/-- what a ring loses -/
def ringV (n s f : Nat) : Int := if f = n then (n : Int) else if (0 : Int) < (f : Int) - (s : Int) + 1 then (f : Int) - (s : Int) + 1 else 0
theorem ring_top {n s c f : Nat} (hs : 1 ≤ s) (hf : f ≤ n) : ∃ m, topW (wgone (ringT n s c)) (chB (n : Int) f) = some (ringV n s f, m) := by
  obtain ⟨m, em, hm, hmax⟩ := topW_spec (w := wgone (ringT n s c)) (ls := chB (n : Int) f) (chB_ne (by omega))
  refine ⟨m, ?_⟩
  obtain ⟨q1, q2, _⟩ := chB_ok (by omega) hm
  rw [em]
  have hv : wgone (ringT n s c) m = ringV n s f := by
    unfold ringV
    by_cases e : f = n
    · rw [if_pos e, wgone_ring, ring_all q1 (by omega)]
    · rw [if_neg e]
      have h1 := run_le (g := ringG n m) ringG_per (show f < n by omega) (by rw [ring_1 q1]; exact q2) s hs
      have h2 := hmax _ (chB_mem (lot_rng (N := (n : Int)) (k := f) (by omega)) (by simp))
      have h3 := ring_ge (n := n) (f := f) hs hf
      rw [wgone_ring] at h2
      rw [wgone_ring] at h2 ⊢
      split <;> omega
  rw [hv]
end Py


set_option Elab.async false
set_option linter.all false
set_option maxRecDepth 100000
set_option maxHeartbeats 4000000
/-! K09g: the rings are right. -/
namespace Py
open PySem (Str PyData)
theorem blt_min {i j : Int} {h : Hd} : bltF "min" [.v (.int i), .v (.int j)] h = some (.v (.int (if j < i then j else i))) := rfl
theorem blt_max {i j : Int} {h : Hd} : bltF "max" [.v (.int i), .v (.int j)] h = some (.v (.int (if j > i then j else i))) := rfl
section
variable {P : Prog} {cs es : List String} {b0 t1 t2 s1 s2 k1 k2 l1 w0 : String} {n : Nat} {h : Hd}
theorem w_rows [HF P "is_integer" (F_is_integer cs)] [HF P "is_within" F_is_within] [HF P "is_lot" (F_is_lot cs)] [HF P "is_pair" (F_is_pair cs es)] [HF P "is_block" (F_is_block es b0)] [HF P "Table.__init__" (F_Table__init__ cs t1 t2)]
    [HF P "product_of" F_product_of] [HF P "Sheet.__init__" (F_Sheet__init__ cs s1 s2)] [HF P "is_kind" (F_is_kind k1 k2)] [HF P "Layout.__init__" (F_Layout__init__ cs l1)]
    [HF P "rests_of" F_rests_of] [HF P "place_by" F_place_by] [HF P "sum_of" F_sum_of] [HF P "shift_of" F_shift_of] [HF P "blocks_of" F_blocks_of] [HF P "table_by" F_table_by] [HF P "table_of" F_table_of]
    [HF P "check_number" F_check_number] [HF P "check_many" F_check_many] [HF P "choices_of" F_choices_of] [HF P "left_of" F_left_of] [HF P "gone_of" (F_gone_of es)] [HF P "weight_gone" F_weight_gone] [HF P "worst_by" (F_worst_by w0)] [HF P "most_gone" F_most_gone]
    [HF P "_law_same" (F__law_same cs es)] [HF P "_law_pick" F__law_pick] [q : HF P "_law_rows_right" (F__law_rows_right es)] {t s : Nat} {ns : List Int} (hc : cs.contains "Sheet" = true) (H : TapeE t s ns h) :
    WX (callF P (n + 8) "_law_rows_right" [.obj t] h) fun d h' => d = .bl true := by
  refine WX_call q.look rfl ?_
  show WS (evSs (callF P (n + 7)) (F__law_rows_right es).body [some (.obj t), none, none, none, none, none, none, none, none] h) _ _ _
  unfold F__law_rows_right
  rw [evSs, WS_thenS]
  refine WS.mono0 (N := fun ρ h1 => ∃ m : Nat, 1 ≤ m ∧ m ≤ 14 ∧ ρ = [some (.obj t), some (.int (m : Int)), none, none, none, none, none, none, none] ∧ TapeE t s ns h1) (T := fun _ _ => False) ?_ ?_ (fun _ _ z => z.elim)
  · simp only [↓evS_for, ↓evX_lc, ↓evS_zret, forB, lcB, Py.wipe, WS_ex, WX_ex, evSs, evS, evX, evXs, evI, evIfs, bindT, bindTs, WS_thenS, WS_bndS, WS_bnnS, WX_bnd, WX_bnn, WX_ok, WX_lift, WS_nx, WS_rt, pro_v, pro_l, pros, List.getElem?_cons_zero, List.getElem?_cons_succ, List.set_cons_zero, List.set_cons_succ, Option.map_some, Option.some.injEq, exists_eq_left', bop_add, bop_sub, bop_mulL, bop_mulR, bop_mulm, bop_mod, bop_fdiv, bop_powS, blt_int, Int.reduceLT, Int.reducePow, Int.reduceLE, Int.reduceNeg, cE_eq, cE_ne, cE_lt, cE_le, cE_gt, cE_ge]
    refine (w_pick (n := n + 6) (m := 12) H (by decide) (by decide)).monoE ?_ (fun _ _ _ z => z.elim)
    rintro d h1 ⟨v, rfl, v0, v1, H1, kp1, z1⟩
    have go : ∀ mx : Int, 1 ≤ mx → mx ≤ 14 → WX (callF P (n + 6 + 1) "_law_pick" [.obj t, .int mx] h1) fun d h' => ∃ m : Nat, 1 ≤ m ∧ m ≤ 14 ∧ d = .int ((m : Int) - 1) ∧ TapeE t s ns h' := fun mx m0 m1 => by
      refine (w_pick (n := n + 6) (m := mx) H1 (by omega) (by omega)).mono ?_
      rintro d h2 ⟨u, rfl, u0, u1, H2, _, _⟩
      exact ⟨(u + 1).toNat, by omega, by omega, by congr 1; omega, H2⟩
    by_cases hv : v = 0
    · simp only [↓evS_for, ↓evX_lc, ↓evS_zret, forB, lcB, Py.wipe, WS_ex, WX_ex, evSs, evS, evX, evXs, evI, evIfs, bindT, bindTs, WS_thenS, WS_bndS, WS_bnnS, WX_bnd, WX_bnn, WX_ok, WX_lift, WS_nx, WS_rt, pro_v, pro_l, pros, List.getElem?_cons_zero, List.getElem?_cons_succ, List.set_cons_zero, List.set_cons_succ, Option.map_some, Option.some.injEq, exists_eq_left', bop_add, bop_sub, bop_mulL, bop_mulR, bop_mulm, bop_mod, bop_fdiv, bop_powS, blt_int, Int.reduceLT, Int.reducePow, Int.reduceLE, Int.reduceNeg, cE_eq, cE_ne, cE_lt, cE_le, cE_gt, cE_ge, decide_eq_true hv]
      refine (go 14 (by decide) (by decide)).monoE ?_ (fun _ _ _ z => z.elim)
      rintro d h2 ⟨m, m0, m1, rfl, H2⟩
      simp only [↓evS_for, ↓evX_lc, ↓evS_zret, forB, lcB, Py.wipe, WS_ex, WX_ex, evSs, evS, evX, evXs, evI, evIfs, bindT, bindTs, WS_thenS, WS_bndS, WS_bnnS, WX_bnd, WX_bnn, WX_ok, WX_lift, WS_nx, WS_rt, pro_v, pro_l, pros, List.getElem?_cons_zero, List.getElem?_cons_succ, List.set_cons_zero, List.set_cons_succ, Option.map_some, Option.some.injEq, exists_eq_left', bop_add, bop_sub, bop_mulL, bop_mulR, bop_mulm, bop_mod, bop_fdiv, bop_powS, blt_int, Int.reduceLT, Int.reducePow, Int.reduceLE, Int.reduceNeg, cE_eq, cE_ne, cE_lt, cE_le, cE_gt, cE_ge, show (1 : Int) + ((m : Int) - 1) = (m : Int) from by omega]
      exact ⟨m, m0, m1, rfl, H2⟩
    · simp only [↓evS_for, ↓evX_lc, ↓evS_zret, forB, lcB, Py.wipe, WS_ex, WX_ex, evSs, evS, evX, evXs, evI, evIfs, bindT, bindTs, WS_thenS, WS_bndS, WS_bnnS, WX_bnd, WX_bnn, WX_ok, WX_lift, WS_nx, WS_rt, pro_v, pro_l, pros, List.getElem?_cons_zero, List.getElem?_cons_succ, List.set_cons_zero, List.set_cons_succ, Option.map_some, Option.some.injEq, exists_eq_left', bop_add, bop_sub, bop_mulL, bop_mulR, bop_mulm, bop_mod, bop_fdiv, bop_powS, blt_int, Int.reduceLT, Int.reducePow, Int.reduceLE, Int.reduceNeg, cE_eq, cE_ne, cE_lt, cE_le, cE_gt, cE_ge, decide_eq_false hv]
      refine (go 8 (by decide) (by decide)).monoE ?_ (fun _ _ _ z => z.elim)
      rintro d h2 ⟨m, m0, m1, rfl, H2⟩
      simp only [↓evS_for, ↓evX_lc, ↓evS_zret, forB, lcB, Py.wipe, WS_ex, WX_ex, evSs, evS, evX, evXs, evI, evIfs, bindT, bindTs, WS_thenS, WS_bndS, WS_bnnS, WX_bnd, WX_bnn, WX_ok, WX_lift, WS_nx, WS_rt, pro_v, pro_l, pros, List.getElem?_cons_zero, List.getElem?_cons_succ, List.set_cons_zero, List.set_cons_succ, Option.map_some, Option.some.injEq, exists_eq_left', bop_add, bop_sub, bop_mulL, bop_mulR, bop_mulm, bop_mod, bop_fdiv, bop_powS, blt_int, Int.reduceLT, Int.reducePow, Int.reduceLE, Int.reduceNeg, cE_eq, cE_ne, cE_lt, cE_le, cE_gt, cE_ge, show (1 : Int) + ((m : Int) - 1) = (m : Int) from by omega]
      exact ⟨m, m0, m1, rfl, H2⟩
  · rintro ρ h1 ⟨m, m0, m1, rfl, H1⟩
    simp only [↓evS_for, ↓evX_lc, ↓evS_zret, forB, lcB, Py.wipe, WS_ex, WX_ex, evSs, evS, evX, evXs, evI, evIfs, bindT, bindTs, WS_thenS, WS_bndS, WS_bnnS, WX_bnd, WX_bnn, WX_ok, WX_lift, WS_nx, WS_rt, pro_v, pro_l, pros, List.getElem?_cons_zero, List.getElem?_cons_succ, List.set_cons_zero, List.set_cons_succ, Option.map_some, Option.some.injEq, exists_eq_left', bop_add, bop_sub, bop_mulL, bop_mulR, bop_mulm, bop_mod, bop_fdiv, bop_powS, blt_int, Int.reduceLT, Int.reducePow, Int.reduceLE, Int.reduceNeg, cE_eq, cE_ne, cE_lt, cE_le, cE_gt, cE_ge, blt_min]
    refine (w_pick (n := n + 6) (m := if (8 : Int) < (m : Int) then 8 else (m : Int)) H1 (by split <;> omega) (by split <;> omega)).monoE ?_ (fun _ _ _ z => z.elim)
    rintro d h2 ⟨u, rfl, u0, u1, H2, _, _⟩
    obtain ⟨st, e1, st1, st2⟩ : ∃ st : Nat, 1 + u = (st : Int) ∧ 1 ≤ st ∧ st ≤ m := ⟨(1 + u).toNat, by omega, by omega, by split at u1 <;> omega⟩
    have st8 : st ≤ 8 := by split at u1 <;> omega
    simp only [↓evS_for, ↓evX_lc, ↓evS_zret, forB, lcB, Py.wipe, WS_ex, WX_ex, evSs, evS, evX, evXs, evI, evIfs, bindT, bindTs, WS_thenS, WS_bndS, WS_bnnS, WX_bnd, WX_bnn, WX_ok, WX_lift, WS_nx, WS_rt, pro_v, pro_l, pros, List.getElem?_cons_zero, List.getElem?_cons_succ, List.set_cons_zero, List.set_cons_succ, Option.map_some, Option.some.injEq, exists_eq_left', bop_add, bop_sub, bop_mulL, bop_mulR, bop_mulm, bop_mod, bop_fdiv, bop_powS, blt_int, Int.reduceLT, Int.reducePow, Int.reduceLE, Int.reduceNeg, cE_eq, cE_ne, cE_lt, cE_le, cE_gt, cE_ge, e1]
    refine (w_pick (n := n + 6) (m := (m : Int)) H2 (by omega) (by omega)).monoE ?_ (fun _ _ _ z => z.elim)
    rintro d h3 ⟨c', rfl, c0, c1, H3, _, _⟩
    obtain ⟨c, rfl⟩ : ∃ c : Nat, c' = (c : Int) := ⟨c'.toNat, by omega⟩
    simp only [↓evS_for, ↓evX_lc, ↓evS_zret, forB, lcB, Py.wipe, WS_ex, WX_ex, evSs, evS, evX, evXs, evI, evIfs, bindT, bindTs, WS_thenS, WS_bndS, WS_bnnS, WX_bnd, WX_bnn, WX_ok, WX_lift, WS_nx, WS_rt, pro_v, pro_l, pros, List.getElem?_cons_zero, List.getElem?_cons_succ, List.set_cons_zero, List.set_cons_succ, Option.map_some, Option.some.injEq, exists_eq_left', bop_add, bop_sub, bop_mulL, bop_mulR, bop_mulm, bop_mod, bop_fdiv, bop_powS, blt_int, Int.reduceLT, Int.reducePow, Int.reduceLE, Int.reduceNeg, cE_eq, cE_ne, cE_lt, cE_le, cE_gt, cE_ge, walk1 (show 0 ≤ (st : Int) by omega) (show (st : Int) ≤ 16777216 by omega), Int.toNat_natCast]
    unfold rngL
    refine wx_map (fun (j : Nat) => .int (((c : Int) + ((0 : Int) + (j : Int))) % (m : Int))) (fun j hj => ?_) (by simp) ?_
    · simp only [lcB, evIfs, bindT, bindTs, bnn_ok, bnd_ok, Py.wipe, evX, evXs, List.set_cons_succ, List.set_cons_zero, List.getElem?_cons_succ, List.getElem?_cons_zero, pros, pro_v, pro_l, lift_some, Option.map_some, bop_add, bop_sub, bop_mod, bop_fdiv, bop_mulL, bop_mulR, blt_int, Bool.not_true, Bool.not_false, cE_eq, cE_ne, cE_lt, cE_le, cE_gt, cE_ge, bop_mod (show 0 < (m : Int) by omega)]
    have el : ((List.range st).map fun (j : Nat) => D.int (((c : Int) + ((0 : Int) + (j : Int))) % (m : Int))) = ((List.range st).map fun (j : Nat) => ((c : Int) + ((0 : Int) + (j : Int))) % (m : Int)).map .int := by rw [List.map_map]; rfl
    rw [el]
    have esh : (((List.range st).map fun (j : Nat) => ((c : Int) + ((0 : Int) + (j : Int))) % (m : Int)).mergeSort fun a b => decide (a ≤ b)) = shownL m st c := rfl
    simp only [↓evS_for, ↓evX_lc, ↓evS_zret, forB, lcB, Py.wipe, WS_ex, WX_ex, evSs, evS, evX, evXs, evI, evIfs, bindT, bindTs, WS_thenS, WS_bndS, WS_bnnS, WX_bnd, WX_bnn, WX_ok, WX_lift, WS_nx, WS_rt, pro_v, pro_l, pros, List.getElem?_cons_zero, List.getElem?_cons_succ, List.set_cons_zero, List.set_cons_succ, Option.map_some, Option.some.injEq, exists_eq_left', bop_add, bop_sub, bop_mulL, bop_mulR, bop_mulm, bop_mod, bop_fdiv, bop_powS, blt_int, Int.reduceLT, Int.reducePow, Int.reduceLE, Int.reduceNeg, cE_eq, cE_ne, cE_lt, cE_le, cE_gt, cE_ge, srt_tmp, tup_tmp, esh]
    have hm : IsMod [(m : Int)] := ⟨by simp, by simp, by simp; omega, by rw [prodI1]; omega⟩
    refine (w_shei (cs := cs) (g0 := s1) (g1 := s2) (n := n + 4) (k := h3.sz) (ms := [(m : Int)]) new_at_new hm).monoE ?_ (fun _ _ _ z => z.elim)
    rintro d h4 ⟨rfl, e4, z4, kp4⟩
    have z4' : h4.sz = h3.sz + 1 := z4
    have eS : (h4.new (.ins "Layout" [])).at_ h3.sz = some (sheO [(m : Int)]) := by rw [new_at_old (by omega)]; exact e4
    have hK : IsKnd (prodI [(m : Int)]) (shownL m st c, 1) := by
      rw [prodI1]
      exact ⟨shown_lot (by omega) st2, by rw [shown_len]; exact st1, by rw [shown_len]; exact st8, by show (1 : Int) ≤ 1; decide, by show (1 : Int) ≤ 1000000; decide⟩
    have wl := w_layi (P := P) (cs := cs) (es := es) (g0 := k1) (g1 := k2) (g2 := l1) (n := n + 2) (k := h4.sz) (s := h3.sz) (ms := [(m : Int)]) (kl := [(shownL m st c, 1)]) (h := h4.new (.ins "Layout" [])) new_at_new eS hc (by simp) (by simp) (by simp; exact hK)
    simp only [↓evS_for, ↓evX_lc, ↓evS_zret, forB, lcB, Py.wipe, WS_ex, WX_ex, evSs, evS, evX, evXs, evI, evIfs, bindT, bindTs, WS_thenS, WS_bndS, WS_bnnS, WX_bnd, WX_bnn, WX_ok, WX_lift, WS_nx, WS_rt, pro_v, pro_l, pros, List.getElem?_cons_zero, List.getElem?_cons_succ, List.set_cons_zero, List.set_cons_succ, Option.map_some, Option.some.injEq, exists_eq_left', bop_add, bop_sub, bop_mulL, bop_mulR, bop_mulm, bop_mod, bop_fdiv, bop_powS, blt_int, Int.reduceLT, Int.reducePow, Int.reduceLE, Int.reduceNeg, cE_eq, cE_ne, cE_lt, cE_le, cE_gt, cE_ge]
    refine wl.monoE ?_ (fun _ _ _ z => z.elim)
    rintro d h5 ⟨rfl, e5, z5, kp5⟩
    have z5' : h5.sz = h4.sz + 1 := z5
    have eS5 : h5.at_ h3.sz = some (sheO [(m : Int)]) := by
      rw [kp5.at_ h3.sz (by show h3.sz < h4.sz + 1; omega) (by simp; omega)]
      exact eS
    simp only [↓evS_for, ↓evX_lc, ↓evS_zret, forB, lcB, Py.wipe, WS_ex, WX_ex, evSs, evS, evX, evXs, evI, evIfs, bindT, bindTs, WS_thenS, WS_bndS, WS_bnnS, WX_bnd, WX_bnn, WX_ok, WX_lift, WS_nx, WS_rt, pro_v, pro_l, pros, List.getElem?_cons_zero, List.getElem?_cons_succ, List.set_cons_zero, List.set_cons_succ, Option.map_some, Option.some.injEq, exists_eq_left', bop_add, bop_sub, bop_mulL, bop_mulR, bop_mulm, bop_mod, bop_fdiv, bop_powS, blt_int, Int.reduceLT, Int.reducePow, Int.reduceLE, Int.reduceNeg, cE_eq, cE_ne, cE_lt, cE_le, cE_gt, cE_ge]
    refine (w_tableof (cs := cs) (es := es) (g0 := b0) (g1 := t1) (g2 := t2) (n := n) (L := h4.sz) (s := h3.sz) (ms := [(m : Int)]) (kl := [(shownL m st c, 1)]) e5 eS5 (by omega) (by omega) hm (by simp) (by simp) (by simp; exact hK)).monoE ?_ (fun _ _ _ z => z.elim)
    rintro d h6 ⟨T, rfl, T1, T2, e6, kp6⟩
    have kk : Kp [] h3 h6 := by
      have a1 : Kp [] h3 h4 := Kp.new.cut kp4 (by simp)
      have a2 : Kp [] h4 h5 := Kp.new.cut kp5 (by simp)
      exact a1.trans (a2.trans kp6)
    have H6 := H3.kp kk
    have eT : [(shownL m st c, (1 : Int))].flatMap (blocksP [(m : Int)]) = ringT m st c := by
      rw [List.flatMap_cons, List.flatMap_nil, List.append_nil]
      rfl
    rw [eT, prodI1] at e6
    refine (w_pick (n := n + 6) (m := (m : Int) + 1) H6 (by omega) (by omega)).monoE ?_ (fun _ _ _ z => z.elim)
    rintro d h7 ⟨f', rfl, f0, f1, H7, kp7, z7⟩
    obtain ⟨f, rfl⟩ : ∃ f : Nat, f' = (f : Int) := ⟨f'.toNat, by omega⟩
    have lt6 : t < h6.sz ∧ s < h6.sz := H6.lt
    have tT : t ≠ T := fun e => by have := H3.lt.1; have := kk.sz; omega
    have e7 : h7.at_ T = some (tabO (m : Int) (ringT m st c)) := by
      rw [kp7.at_ T T2 (by simp; exact fun e => tT e.symm)]
      exact e6
    have T7 : T < h7.sz := by omega
    simp only [↓evS_for, ↓evX_lc, ↓evS_zret, forB, lcB, Py.wipe, WS_ex, WX_ex, evSs, evS, evX, evXs, evI, evIfs, bindT, bindTs, WS_thenS, WS_bndS, WS_bnnS, WX_bnd, WX_bnn, WX_ok, WX_lift, WS_nx, WS_rt, pro_v, pro_l, pros, List.getElem?_cons_zero, List.getElem?_cons_succ, List.set_cons_zero, List.set_cons_succ, Option.map_some, Option.some.injEq, exists_eq_left', bop_add, bop_sub, bop_mulL, bop_mulR, bop_mulm, bop_mod, bop_fdiv, bop_powS, blt_int, Int.reduceLT, Int.reducePow, Int.reduceLE, Int.reduceNeg, cE_eq, cE_ne, cE_lt, cE_le, cE_gt, cE_ge, blt_min, walk_tmp]
    have hx : ∀ d ∈ [D.int (f : Int), D.int (st : Int), D.int ((st : Int) - 1), D.int (m : Int), D.int (if (st : Int) + 1 < (m : Int) then (st : Int) + 1 else (m : Int))], ∃ g : Nat, d = .int (g : Int) ∧ g ≤ m := by
      intro d hd
      simp only [List.mem_cons, List.not_mem_nil, or_false] at hd
      rcases hd with rfl | rfl | rfl | rfl | rfl
      · exact ⟨f, rfl, by omega⟩
      · exact ⟨st, rfl, st2⟩
      · exact ⟨st - 1, by congr 1; omega, by omega⟩
      · exact ⟨m, rfl, Nat.le_refl _⟩
      · by_cases hq : (st : Int) + 1 < (m : Int)
        · exact ⟨st + 1, by rw [if_pos hq]; rfl, by omega⟩
        · exact ⟨m, by rw [if_neg hq], Nat.le_refl _⟩
    generalize [D.int (f : Int), D.int (st : Int), D.int ((st : Int) - 1), D.int (m : Int), D.int (if (st : Int) + 1 < (m : Int) then (st : Int) + 1 else (m : Int))] = xs at hx ⊢
    refine ws_for (I := fun i ρ h' => ∃ o6 o7, ρ = [some (.obj t), some (.int (m : Int)), some (.int (st : Int)), some (.int (c : Int)), some (.tup ((shownL m st c).map .int)), some (.obj T), o6, o7, none] ∧ h'.at_ T = some (tabO (m : Int) (ringT m st c)) ∧ T < h'.sz) ⟨none, none, rfl, e7, T7⟩ (by intro i ρ h' _ _; simp) ?_ ?_
    · rintro i hi ρ h8 ⟨o6, o7, rfl, e8, T8⟩
      obtain ⟨g, eg, g1⟩ := hx xs[i] (List.getElem_mem hi)
      obtain ⟨lm, er⟩ := ring_top (n := m) (s := st) (c := c) (f := g) st1 g1
      have wm := w_most (P := P) (cs := cs) (es := es) (g0 := w0) (n := n + 2) (t := T) (b := (m : Int)) (bl := ringT m st c) (many := g) (h := h8) e8 T8 (by omega) (by omega) (by omega) er
      have fin : ∀ v : Int, ringV m st g = v → WX (callF P (n + 2 + 5) "most_gone" [.obj T, .int (g : Int)] h8) fun d h' => d = .int v ∧ h'.at_ T = some (tabO (m : Int) (ringT m st c)) ∧ T < h'.sz := fun v ev => by
        refine wm.mono ?_
        rintro d h9 ⟨rfl, k9⟩
        rw [ev]
        exact ⟨rfl, by rw [k9.at_ T T8 (by simp)]; exact e8, Nat.lt_of_lt_of_le T8 k9.sz⟩
      rw [eg]
      by_cases hg : g = m
      · have d0 : decide ((g : Int) = (m : Int)) = true := decide_eq_true (by omega)
        simp only [↓evS_for, ↓evX_lc, ↓evS_zret, forB, lcB, Py.wipe, WS_ex, WX_ex, evSs, evS, evX, evXs, evI, evIfs, bindT, bindTs, WS_thenS, WS_bndS, WS_bnnS, WX_bnd, WX_bnn, WX_ok, WX_lift, WS_nx, WS_rt, pro_v, pro_l, pros, List.getElem?_cons_zero, List.getElem?_cons_succ, List.set_cons_zero, List.set_cons_succ, Option.map_some, Option.some.injEq, exists_eq_left', bop_add, bop_sub, bop_mulL, bop_mulR, bop_mulm, bop_mod, bop_fdiv, bop_powS, blt_int, Int.reduceLT, Int.reducePow, Int.reduceLE, Int.reduceNeg, cE_eq, cE_ne, cE_lt, cE_le, cE_gt, cE_ge, d0]
        refine (fin (m : Int) (by unfold ringV; rw [if_pos hg])).monoE ?_ (fun _ _ _ z => z.elim)
        rintro d h9 ⟨rfl, e9, T9⟩
        simp only [↓evS_for, ↓evX_lc, ↓evS_zret, forB, lcB, Py.wipe, WS_ex, WX_ex, evSs, evS, evX, evXs, evI, evIfs, bindT, bindTs, WS_thenS, WS_bndS, WS_bnnS, WX_bnd, WX_bnn, WX_ok, WX_lift, WS_nx, WS_rt, pro_v, pro_l, pros, List.getElem?_cons_zero, List.getElem?_cons_succ, List.set_cons_zero, List.set_cons_succ, Option.map_some, Option.some.injEq, exists_eq_left', bop_add, bop_sub, bop_mulL, bop_mulR, bop_mulm, bop_mod, bop_fdiv, bop_powS, blt_int, Int.reduceLT, Int.reducePow, Int.reduceLE, Int.reduceNeg, cE_eq, cE_ne, cE_lt, cE_le, cE_gt, cE_ge, c_same_int (cs := cs) (es := es) (n := n + 6), Bool.not_true]
        exact ⟨_, _, rfl, e9, T9⟩
      · have d0 : decide ((g : Int) = (m : Int)) = false := decide_eq_false (by omega)
        simp only [↓evS_for, ↓evX_lc, ↓evS_zret, forB, lcB, Py.wipe, WS_ex, WX_ex, evSs, evS, evX, evXs, evI, evIfs, bindT, bindTs, WS_thenS, WS_bndS, WS_bnnS, WX_bnd, WX_bnn, WX_ok, WX_lift, WS_nx, WS_rt, pro_v, pro_l, pros, List.getElem?_cons_zero, List.getElem?_cons_succ, List.set_cons_zero, List.set_cons_succ, Option.map_some, Option.some.injEq, exists_eq_left', bop_add, bop_sub, bop_mulL, bop_mulR, bop_mulm, bop_mod, bop_fdiv, bop_powS, blt_int, Int.reduceLT, Int.reducePow, Int.reduceLE, Int.reduceNeg, cE_eq, cE_ne, cE_lt, cE_le, cE_gt, cE_ge, d0, blt_max]
        refine (fin (if (g : Int) - (st : Int) + 1 > 0 then (g : Int) - (st : Int) + 1 else 0) (by unfold ringV; rw [if_neg hg])).monoE ?_ (fun _ _ _ z => z.elim)
        rintro d h9 ⟨rfl, e9, T9⟩
        simp only [↓evS_for, ↓evX_lc, ↓evS_zret, forB, lcB, Py.wipe, WS_ex, WX_ex, evSs, evS, evX, evXs, evI, evIfs, bindT, bindTs, WS_thenS, WS_bndS, WS_bnnS, WX_bnd, WX_bnn, WX_ok, WX_lift, WS_nx, WS_rt, pro_v, pro_l, pros, List.getElem?_cons_zero, List.getElem?_cons_succ, List.set_cons_zero, List.set_cons_succ, Option.map_some, Option.some.injEq, exists_eq_left', bop_add, bop_sub, bop_mulL, bop_mulR, bop_mulm, bop_mod, bop_fdiv, bop_powS, blt_int, Int.reduceLT, Int.reducePow, Int.reduceLE, Int.reduceNeg, cE_eq, cE_ne, cE_lt, cE_le, cE_gt, cE_ge, c_same_int (cs := cs) (es := es) (n := n + 6), Bool.not_true]
        exact ⟨_, _, rfl, e9, T9⟩
    · rintro ρ h8 ⟨o6, o7, rfl, e8, T8⟩
      simp only [↓evS_for, ↓evX_lc, ↓evS_zret, forB, lcB, Py.wipe, WS_ex, WX_ex, evSs, evS, evX, evXs, evI, evIfs, bindT, bindTs, WS_thenS, WS_bndS, WS_bnnS, WX_bnd, WX_bnn, WX_ok, WX_lift, WS_nx, WS_rt, pro_v, pro_l, pros, List.getElem?_cons_zero, List.getElem?_cons_succ, List.set_cons_zero, List.set_cons_succ, Option.map_some, Option.some.injEq, exists_eq_left', bop_add, bop_sub, bop_mulL, bop_mulR, bop_mulm, bop_mod, bop_fdiv, bop_powS, blt_int, Int.reduceLT, Int.reducePow, Int.reduceLE, Int.reduceNeg, cE_eq, cE_ne, cE_lt, cE_le, cE_gt, cE_ge]
end
end Py


set_option Elab.async false
set_option linter.all false
set_option maxRecDepth 100000
set_option maxHeartbeats 4000000
/-! K09h: the law. -/
namespace Py
open PySem (Str PyData)
section
variable {P : Prog} {cs es : List String} {b0 t1 t2 s1 s2 k1 k2 l1 w0 : String} {n : Nat} {h : Hd}
/-- one number of lost boxes -/
theorem many_step [HF P "is_integer" (F_is_integer cs)] [HF P "is_within" F_is_within]
    [HF P "check_number" F_check_number] [HF P "check_many" F_check_many] [HF P "choices_of" F_choices_of] [HF P "left_of" F_left_of] [HF P "gone_of" (F_gone_of es)] [HF P "weight_gone" F_weight_gone] [HF P "worst_by" (F_worst_by w0)] [HF P "most_gone" F_most_gone] [HF P "worst_gone" F_worst_gone]
    [HF P "_law_same" (F__law_same cs es)] [HF P "_law_losses" F__law_losses] [HF P "_law_worst" (F__law_worst es)]
    {t s T : Nat} {ns : List Int} {b : Bool} {N last v : Int} {m : List Int} {bl : List (List Int × Int)} {k : Nat} {o0 o2 o4 o10 : Option D}
    (H : TapeE t s ns h) (N0 : 1 ≤ N) (N1 : N ≤ 14) (hB : ∀ p ∈ bl, IsBlk N p) (eT : h.at_ T = some (tabO N bl)) (T1 : T < h.sz) (hk : (k : Int) ≤ N) (et : topW (wgone bl) (chB N k) = some (v, m)) (hl : last ≤ v) {Φ : Calls} (hΦ : Φ = callF P (n + 5)) {R : Env → Hd → Prop} {W : D → Hd → Prop} {E : XS}
    (q : ∀ h', Kp [] h h' → R [o0, some (.obj t), o2, some (.bl b), o4, some (.int (k : Int)), some (.int N), some (.tup (bl.map bk)), some (.obj T), some (.int v), some (.tup [.int v, tupI m])] h') :
    WS (evSs Φ (.cons (.asg (.nm 10) (.call "_law_worst" (.cons (.var 7) (.cons (.var 6) (.cons (.var 5) .nil))))) (.cons (.ifs (.bor (.nt (.call "_law_same" (.cons (.lst (.cons (.call "most_gone" (.cons (.var 8) (.cons (.var 5) .nil))) (.cons (.call "worst_gone" (.cons (.var 8) (.cons (.var 5) .nil))) .nil))) (.cons (.lst (.cons (.idx (.var 10) (.cst (.int 0))) (.cons (.idx (.var 10) (.cst (.int 1))) .nil))) .nil)))) (.cmp .lt [] (.idx (.var 10) (.cst (.int 0))) (.var 9))) (.cons (.ret (.cst (.bl false))) .nil) .nil) (.cons (.asg (.nm 9) (.idx (.var 10) (.cst (.int 0)))) .nil))) [o0, some (.obj t), o2, some (.bl b), o4, some (.int (k : Int)), some (.int N), some (.tup (bl.map bk)), some (.obj T), some (.int last), o10] h) R W E := by
  subst hΦ
  simp only [↓evS_for, ↓evX_lc, ↓evS_zret, forB, lcB, Py.wipe, WS_ex, WX_ex, evSs, evS, evX, evXs, evI, evIfs, bindT, bindTs, WS_thenS, WS_bndS, WS_bnnS, WX_bnd, WX_bnn, WX_ok, WX_lift, WS_nx, WS_rt, pro_v, pro_l, pros, List.getElem?_cons_zero, List.getElem?_cons_succ, List.set_cons_zero, List.set_cons_succ, Option.map_some, Option.some.injEq, exists_eq_left', bop_add, bop_sub, bop_mulL, bop_mulR, bop_mulm, bop_mod, bop_fdiv, bop_powS, blt_int, Int.reduceLT, Int.reducePow, Int.reduceLE, Int.reduceNeg, cE_eq, cE_ne, cE_lt, cE_le, cE_gt, cE_ge]
  refine (w_lworst (es := es) (n := n + 3) (N := N) (bl := bl) (many := k) (by omega) (by omega) (by omega) fun p hp => (hB p hp).1).monoE ?_ (fun _ _ _ z => z.elim)
  rintro d h1 ⟨rfl, kp1⟩
  rw [et]
  have e1 : h1.at_ T = some (tabO N bl) := by rw [kp1.at_ T T1 (by simp)]; exact eT
  have T2 := Nat.lt_of_lt_of_le T1 kp1.sz
  simp only [↓evS_for, ↓evX_lc, ↓evS_zret, forB, lcB, Py.wipe, WS_ex, WX_ex, evSs, evS, evX, evXs, evI, evIfs, bindT, bindTs, WS_thenS, WS_bndS, WS_bnnS, WX_bnd, WX_bnn, WX_ok, WX_lift, WS_nx, WS_rt, pro_v, pro_l, pros, List.getElem?_cons_zero, List.getElem?_cons_succ, List.set_cons_zero, List.set_cons_succ, Option.map_some, Option.some.injEq, exists_eq_left', bop_add, bop_sub, bop_mulL, bop_mulR, bop_mulm, bop_mod, bop_fdiv, bop_powS, blt_int, Int.reduceLT, Int.reducePow, Int.reduceLE, Int.reduceNeg, cE_eq, cE_ne, cE_lt, cE_le, cE_gt, cE_ge, optW]
  refine (w_most (cs := cs) (es := es) (g0 := w0) (n := n) e1 T2 N0 N1 hk et).monoE ?_ (fun _ _ _ z => z.elim)
  rintro d h2 ⟨rfl, kp2⟩
  have e2 : h2.at_ T = some (tabO N bl) := by rw [kp2.at_ T T2 (by simp)]; exact e1
  have T3 := Nat.lt_of_lt_of_le T2 kp2.sz
  refine (w_worstg (cs := cs) (es := es) (g0 := w0) (n := n) e2 T3 N0 N1 hk et).monoE ?_ (fun _ _ _ z => z.elim)
  rintro d h3 ⟨rfl, kp3⟩
  simp only [↓evS_for, ↓evX_lc, ↓evS_zret, forB, lcB, Py.wipe, WS_ex, WX_ex, evSs, evS, evX, evXs, evI, evIfs, bindT, bindTs, WS_thenS, WS_bndS, WS_bnnS, WX_bnd, WX_bnn, WX_ok, WX_lift, WS_nx, WS_rt, pro_v, pro_l, pros, List.getElem?_cons_zero, List.getElem?_cons_succ, List.set_cons_zero, List.set_cons_succ, Option.map_some, Option.some.injEq, exists_eq_left', bop_add, bop_sub, bop_mulL, bop_mulR, bop_mulm, bop_mod, bop_fdiv, bop_powS, blt_int, Int.reduceLT, Int.reducePow, Int.reduceLE, Int.reduceNeg, cE_eq, cE_ne, cE_lt, cE_le, cE_gt, cE_ge, idx_tup, at0, at1']
  have es1 : ((h3.new (.lst [.int v, tupI m])).new (.lst [.int v, tupI m])).at_ h3.sz = some (.lst [.int v, tupI m]) := by rw [new_at_old (Nat.lt_succ_self _)]; exact new_at_new
  have es2 : ((h3.new (.lst [.int v, tupI m])).new (.lst [.int v, tupI m])).at_ (h3.sz + 1) = some (.lst [.int v, tupI m]) := new_at_new
  have same := c_same_lst (P := P) (cs := cs) (es := es) (n := n + 4) (h := (h3.new (.lst [.int v, tupI m])).new (.lst [.int v, tupI m])) es1 es2 fun x hx => by
    simp only [List.mem_cons, List.not_mem_nil, or_false] at hx
    rcases hx with rfl | rfl
    · exact c_same_int (cs := cs) (es := es)
    · exact c_same_ints (cs := cs) (es := es)
  simp only [new_sz, same, ↓evS_for, ↓evX_lc, ↓evS_zret, forB, lcB, Py.wipe, WS_ex, WX_ex, evSs, evS, evX, evXs, evI, evIfs, bindT, bindTs, WS_thenS, WS_bndS, WS_bnnS, WX_bnd, WX_bnn, WX_ok, WX_lift, WS_nx, WS_rt, pro_v, pro_l, pros, List.getElem?_cons_zero, List.getElem?_cons_succ, List.set_cons_zero, List.set_cons_succ, Option.map_some, Option.some.injEq, exists_eq_left', bop_add, bop_sub, bop_mulL, bop_mulR, bop_mulm, bop_mod, bop_fdiv, bop_powS, blt_int, Int.reduceLT, Int.reducePow, Int.reduceLE, Int.reduceNeg, cE_eq, cE_ne, cE_lt, cE_le, cE_gt, cE_ge, Bool.not_true, idx_tup, at0, decide_eq_false (show ¬ v < last by omega)]
  exact q _ (kp1.trans (kp2.trans (kp3.trans (Kp.new.trans Kp.new))))

theorem lt_pair {a b : List Int} {i j : Nat} (ha : a.Pairwise (· < ·)) (hi : i < a.length) (hj : j < a.length) (hij : i < j) : a[i] < a[j] := List.pairwise_iff_getElem.mp ha i j hi hj hij
/-- one table -/
theorem round_step [HF P "is_integer" (F_is_integer cs)] [HF P "is_within" F_is_within] [HF P "is_lot" (F_is_lot cs)] [HF P "is_pair" (F_is_pair cs es)] [HF P "is_block" (F_is_block es b0)] [HF P "Table.__init__" (F_Table__init__ cs t1 t2)]
    [HF P "check_number" F_check_number] [HF P "check_many" F_check_many] [HF P "choices_of" F_choices_of] [HF P "left_of" F_left_of] [HF P "gone_of" (F_gone_of es)] [HF P "weight_gone" F_weight_gone] [HF P "worst_by" (F_worst_by w0)] [HF P "most_gone" F_most_gone] [HF P "worst_gone" F_worst_gone]
    [HF P "_law_same" (F__law_same cs es)] [HF P "_law_losses" F__law_losses] [HF P "_law_worst" (F__law_worst es)]
    {t s T : Nat} {ns : List Int} {b : Bool} {N : Int} {bl : List (List Int × Int)} {is : List Int} {o0 o2 o5 o10 : Option D} {o4 : Option D} {G : Gd}
    (H : TapeE t s ns h) (N0 : 1 ≤ N) (N1 : N ≤ 14) (hB : ∀ p ∈ bl, IsBlk N p) (eT : h.at_ T = some (tabO N bl)) (T1 : T < h.sz) (his : ∀ x ∈ is, 0 ≤ x ∧ x ≤ N) {Φ : Calls} (hΦ : Φ = callF P (n + 5)) {R : Env → Hd → Prop} {W : D → Hd → Prop} {E : XS} (hG : G = [])
    (q : ∀ h' p5 p9 p10, Kp [] h h' → R [o0, some (.obj t), o2, some (.bl b), o4, p5, some (.int N), some (.tup (bl.map bk)), some (.obj T), p9, p10] h') :
    WS (forL G (forB Φ (.nm 5) (.cons (.asg (.nm 10) (.call "_law_worst" (.cons (.var 7) (.cons (.var 6) (.cons (.var 5) .nil))))) (.cons (.ifs (.bor (.nt (.call "_law_same" (.cons (.lst (.cons (.call "most_gone" (.cons (.var 8) (.cons (.var 5) .nil))) (.cons (.call "worst_gone" (.cons (.var 8) (.cons (.var 5) .nil))) .nil))) (.cons (.lst (.cons (.idx (.var 10) (.cst (.int 0))) (.cons (.idx (.var 10) (.cst (.int 1))) .nil))) .nil)))) (.cmp .lt [] (.idx (.var 10) (.cst (.int 0))) (.var 9))) (.cons (.ret (.cst (.bl false))) .nil) .nil) (.cons (.asg (.nm 9) (.idx (.var 10) (.cst (.int 0)))) .nil)))) ((ssI is).map .int) [o0, some (.obj t), o2, some (.bl b), o4, o5, some (.int N), some (.tup (bl.map bk)), some (.obj T), some (.int (-1)), o10] h) R W E := by
  subst hG
  have hw : ∀ p ∈ bl, 0 ≤ p.2 := fun p hp => by have := (hB p hp).2.2.1; omega
  have hks : ∀ x ∈ ssI is, 0 ≤ x ∧ x ≤ N := fun x hx => his x (ssI_mem.mp hx)
  refine ws_for (I := fun i ρ h' => ∃ (last : Int) (p5 p10 : Option D), ρ = [o0, some (.obj t), o2, some (.bl b), o4, p5, some (.int N), some (.tup (bl.map bk)), some (.obj T), some (.int last), p10] ∧ Kp [] h h' ∧ (∀ j, i ≤ j → (hj : j < (ssI is).length) → ∀ v m, topW (wgone bl) (chB N (ssI is)[j].toNat) = some (v, m) → last ≤ v)) ⟨-1, o5, o10, rfl, Kp.refl, fun j _ hj v m e => ?_⟩ (by intro i ρ h' _ _; simp) ?_ ?_
  · obtain ⟨k, ek, _, _⟩ := topW_spec (w := wgone bl) (ls := chB N (ssI is)[j].toNat) (chB_ne (by have := hks _ (List.getElem_mem hj); omega))
    rw [ek] at e
    cases e
    have := wgone_nn (bl := bl) (l := m) hw
    omega
  · rintro i hi ρ h1 ⟨last, p5, p10, rfl, kp, hlast⟩
    rw [List.length_map] at hi
    have hg : ((ssI is).map D.int)[i]'(by simpa using hi) = .int (ssI is)[i] := by simp
    have hb := hks _ (List.getElem_mem hi)
    obtain ⟨m, em, _, _⟩ := topW_spec (w := wgone bl) (ls := chB N (ssI is)[i].toNat) (chB_ne (by omega))
    have e1 : h1.at_ T = some (tabO N bl) := by rw [kp.at_ T T1 (by simp)]; exact eT
    have ec : (ssI is)[i] = (((ssI is)[i].toNat : Nat) : Int) := by omega
    rw [hg]
    simp only [forB, bindT, bnnS_ok, List.set_cons_succ, List.set_cons_zero]
    rw [ec]
    refine many_step (P := P) (cs := cs) (es := es) (w0 := w0) (n := n) (s := s) (ns := ns) (H.kp kp) N0 N1 hB e1 (Nat.lt_of_lt_of_le T1 kp.sz) (by omega) em (hlast i (Nat.le_refl _) hi _ _ em) hΦ ?_
    intro h2 kp2
    refine ⟨_, _, _, rfl, kp.trans kp2, fun j hj hjl v' m' e' => ?_⟩
    have hb' := hks _ (List.getElem_mem hjl)
    have hlt : (ssI is)[i] < (ssI is)[j] := List.pairwise_iff_getElem.mp (ssI_up is) i j hi hjl (by omega)
    exact most_mono hw (by omega) (by omega) em e'
  · rintro ρ h1 ⟨last, p5, p10, rfl, kp, _⟩
    exact q _ _ _ _ kp
theorem w_law [HF P "is_integer" (F_is_integer cs)] [HF P "is_within" F_is_within] [HF P "is_lot" (F_is_lot cs)] [HF P "is_pair" (F_is_pair cs es)] [HF P "is_block" (F_is_block es b0)] [HF P "Table.__init__" (F_Table__init__ cs t1 t2)]
    [HF P "product_of" F_product_of] [HF P "Sheet.__init__" (F_Sheet__init__ cs s1 s2)] [HF P "is_kind" (F_is_kind k1 k2)] [HF P "Layout.__init__" (F_Layout__init__ cs l1)]
    [HF P "rests_of" F_rests_of] [HF P "place_by" F_place_by] [HF P "sum_of" F_sum_of] [HF P "shift_of" F_shift_of] [HF P "blocks_of" F_blocks_of] [HF P "table_by" F_table_by] [HF P "table_of" F_table_of]
    [HF P "check_number" F_check_number] [HF P "check_many" F_check_many] [HF P "choices_of" F_choices_of] [HF P "left_of" F_left_of] [HF P "gone_of" (F_gone_of es)] [HF P "weight_gone" F_weight_gone] [HF P "worst_by" (F_worst_by w0)] [HF P "most_gone" F_most_gone] [HF P "worst_gone" F_worst_gone]
    [HF P "_law_same" (F__law_same cs es)] [HF P "_law_tape" F__law_tape] [HF P "_law_pick" F__law_pick] [HF P "_law_losses" F__law_losses] [HF P "_law_worst" (F__law_worst es)] [HF P "_law_table" (F__law_table es)] [HF P "_law_rows_right" (F__law_rows_right es)] [q : HF P "law" (F_law es)]
    {ns : List Int} (hc : cs.contains "Sheet" = true) : WX (callF P (n + 9) "law" [.rol (ns.map .int)] h) fun d h' => d = .bl true := by
  refine WX_call q.look rfl ?_
  show WS (evSs (callF P (n + 8)) (F_law es).body [some (.rol (ns.map .int)), none, none, none, none, none, none, none, none, none, none] h) _ _ _
  unfold F_law
  simp only [↓evS_for, ↓evX_lc, ↓evS_zret, forB, lcB, Py.wipe, WS_ex, WX_ex, evSs, evS, evX, evXs, evI, evIfs, bindT, bindTs, WS_thenS, WS_bndS, WS_bnnS, WX_bnd, WX_bnn, WX_ok, WX_lift, WS_nx, WS_rt, pro_v, pro_l, pros, List.getElem?_cons_zero, List.getElem?_cons_succ, List.set_cons_zero, List.set_cons_succ, Option.map_some, Option.some.injEq, exists_eq_left', bop_add, bop_sub, bop_mulL, bop_mulR, bop_mulm, bop_mod, bop_fdiv, bop_powS, blt_int, Int.reduceLT, Int.reducePow, Int.reduceLE, Int.reduceNeg, cE_eq, cE_ne, cE_lt, cE_le, cE_gt, cE_ge]
  refine (w_tape (n := n + 7)).monoE ?_ (fun _ _ _ z => z.elim)
  rintro d h1 ⟨rfl, H1, kp1⟩
  generalize h.sz + 1 = t at H1 ⊢
  generalize h.sz = s at H1
  simp only [↓evS_for, ↓evX_lc, ↓evS_zret, forB, lcB, Py.wipe, WS_ex, WX_ex, evSs, evS, evX, evXs, evI, evIfs, bindT, bindTs, WS_thenS, WS_bndS, WS_bnnS, WX_bnd, WX_bnn, WX_ok, WX_lift, WS_nx, WS_rt, pro_v, pro_l, pros, List.getElem?_cons_zero, List.getElem?_cons_succ, List.set_cons_zero, List.set_cons_succ, Option.map_some, Option.some.injEq, exists_eq_left', bop_add, bop_sub, bop_mulL, bop_mulR, bop_mulm, bop_mod, bop_fdiv, bop_powS, blt_int, Int.reduceLT, Int.reducePow, Int.reduceLE, Int.reduceNeg, cE_eq, cE_ne, cE_lt, cE_le, cE_gt, cE_ge, walk1 (show (0 : Int) ≤ 2 by decide) (show (2 : Int) ≤ 16777216 by decide)]
  refine ws_for (I := fun i ρ h' => ∃ p2 p3 p4 p5 p6 p7 p8 p9 p10, ρ = [some (.rol (ns.map .int)), some (.obj t), p2, p3, p4, p5, p6, p7, p8, p9, p10] ∧ TapeE t s ns h') ⟨_, _, _, _, _, _, _, _, _, rfl, H1⟩ (by intro i ρ h' _ _; simp) ?_ ?_
  · rintro i hi ρ h2 ⟨p2, p3, p4, p5, p6, p7, p8, p9, p10, rfl, H2⟩
    rw [rngL_get hi]
    simp only [↓evS_for, ↓evX_lc, ↓evS_zret, forB, lcB, Py.wipe, WS_ex, WX_ex, evSs, evS, evX, evXs, evI, evIfs, bindT, bindTs, WS_thenS, WS_bndS, WS_bnnS, WX_bnd, WX_bnn, WX_ok, WX_lift, WS_nx, WS_rt, pro_v, pro_l, pros, List.getElem?_cons_zero, List.getElem?_cons_succ, List.set_cons_zero, List.set_cons_succ, Option.map_some, Option.some.injEq, exists_eq_left', bop_add, bop_sub, bop_mulL, bop_mulR, bop_mulm, bop_mod, bop_fdiv, bop_powS, blt_int, Int.reduceLT, Int.reducePow, Int.reduceLE, Int.reduceNeg, cE_eq, cE_ne, cE_lt, cE_le, cE_gt, cE_ge]
    refine (w_pick (n := n + 7) (m := 12) H2 (by decide) (by decide)).monoE ?_ (fun _ _ _ z => z.elim)
    rintro d h3 ⟨v, rfl, v0, v1, H3, _, _⟩
    have tabs : ∀ N : Int, 1 ≤ N → N ≤ 14 → WX (callF P (n + 6 + 2) "_law_table" [.obj t, .int N, .int 12, .int 9] h3) fun d h' => ∃ bl : List (List Int × Int), d = .tup [.int N, .tup (bl.map bk)] ∧ bl ≠ [] ∧ (bl.length : Int) ≤ 12 ∧ (∀ p ∈ bl, IsBlk N p) ∧ TapeE t s ns h' := fun N N0 N1 => by
      refine (w_ltable (es := es) (n := n + 6) (N := N) (K := 12) (M := 9) H3 N0 (by omega) (by decide) (by decide) (by decide) (by decide)).mono ?_
      rintro d h4 ⟨bl, rfl, b1, b2, b3, H4, _⟩
      exact ⟨bl, rfl, b1, b2, b3, H4⟩
    by_cases hv : v = 0
    · simp only [↓evS_for, ↓evX_lc, ↓evS_zret, forB, lcB, Py.wipe, WS_ex, WX_ex, evSs, evS, evX, evXs, evI, evIfs, bindT, bindTs, WS_thenS, WS_bndS, WS_bnnS, WX_bnd, WX_bnn, WX_ok, WX_lift, WS_nx, WS_rt, pro_v, pro_l, pros, List.getElem?_cons_zero, List.getElem?_cons_succ, List.set_cons_zero, List.set_cons_succ, Option.map_some, Option.some.injEq, exists_eq_left', bop_add, bop_sub, bop_mulL, bop_mulR, bop_mulm, bop_mod, bop_fdiv, bop_powS, blt_int, Int.reduceLT, Int.reducePow, Int.reduceLE, Int.reduceNeg, cE_eq, cE_ne, cE_lt, cE_le, cE_gt, cE_ge, decide_eq_true hv]
      refine (tabs 14 (by decide) (by decide)).monoE ?_ (fun _ _ _ z => z.elim)
      rintro d h4 ⟨bl, rfl, b1, b2, b3, H4⟩
      have wt := w_tabi (P := P) (cs := cs) (es := es) (g0 := b0) (g1 := t1) (g2 := t2) (n := n + 3) (k := h4.sz) (b := 14) (bl := bl) (h := h4.new (.ins "Table" [])) new_at_new (by decide) (by decide) b1 (by omega) b3
      simp only [↓evS_for, ↓evX_lc, ↓evS_zret, forB, lcB, Py.wipe, WS_ex, WX_ex, evSs, evS, evX, evXs, evI, evIfs, bindT, bindTs, WS_thenS, WS_bndS, WS_bnnS, WX_bnd, WX_bnn, WX_ok, WX_lift, WS_nx, WS_rt, pro_v, pro_l, pros, List.getElem?_cons_zero, List.getElem?_cons_succ, List.set_cons_zero, List.set_cons_succ, Option.map_some, Option.some.injEq, exists_eq_left', bop_add, bop_sub, bop_mulL, bop_mulR, bop_mulm, bop_mod, bop_fdiv, bop_powS, blt_int, Int.reduceLT, Int.reducePow, Int.reduceLE, Int.reduceNeg, cE_eq, cE_ne, cE_lt, cE_le, cE_gt, cE_ge]
      refine wt.monoE ?_ (fun _ _ _ z => z.elim)
      rintro d h5 ⟨rfl, e5, z5, kp5⟩
      have H5 : TapeE t s ns h5 := H4.kp (Kp.new.cut kp5 (by simp))
      have T5 : h4.sz < h5.sz := by rw [z5]; exact Nat.lt_succ_self _
      simp only [↓evS_for, ↓evX_lc, ↓evS_zret, forB, lcB, Py.wipe, WS_ex, WX_ex, evSs, evS, evX, evXs, evI, evIfs, bindT, bindTs, WS_thenS, WS_bndS, WS_bnnS, WX_bnd, WX_bnn, WX_ok, WX_lift, WS_nx, WS_rt, pro_v, pro_l, pros, List.getElem?_cons_zero, List.getElem?_cons_succ, List.set_cons_zero, List.set_cons_succ, Option.map_some, Option.some.injEq, exists_eq_left', bop_add, bop_sub, bop_mulL, bop_mulR, bop_mulm, bop_mod, bop_fdiv, bop_powS, blt_int, Int.reduceLT, Int.reducePow, Int.reduceLE, Int.reduceNeg, cE_eq, cE_ne, cE_lt, cE_le, cE_gt, cE_ge, blt_max, List.length_cons, List.length_nil, Nat.reduceAdd, decide_true, setAll]
      refine (w_pick (n := n + 7) (m := 14 + 1) H5 (by decide) (by decide)).monoE ?_ (fun _ _ _ z => z.elim)
      rintro d h6 ⟨u, rfl, u0, u1, H6, kp6, z6⟩
      have e6 : h6.at_ h4.sz = some (tabO 14 bl) := by rw [kp6.at_ h4.sz T5 (by simp; have := H4.lt.1; omega)]; exact e5
      have nb := sset_lst (k := h6.sz) (is := [0, 1, 14, if (14 : Int) - 1 > 0 then (14 : Int) - 1 else 0, u]) (h := h6.new (.lst [.int 0, .int 1, .int 14, .int (if (14 : Int) - 1 > 0 then (14 : Int) - 1 else 0), .int u])) new_at_new (by simp)
      simp only [↓evS_for, ↓evX_lc, ↓evS_zret, forB, lcB, Py.wipe, WS_ex, WX_ex, evSs, evS, evX, evXs, evI, evIfs, bindT, bindTs, WS_thenS, WS_bndS, WS_bnnS, WX_bnd, WX_bnn, WX_ok, WX_lift, WS_nx, WS_rt, pro_v, pro_l, pros, List.getElem?_cons_zero, List.getElem?_cons_succ, List.set_cons_zero, List.set_cons_succ, Option.map_some, Option.some.injEq, exists_eq_left', bop_add, bop_sub, bop_mulL, bop_mulR, bop_mulm, bop_mod, bop_fdiv, bop_powS, blt_int, Int.reduceLT, Int.reducePow, Int.reduceLE, Int.reduceNeg, cE_eq, cE_ne, cE_lt, cE_le, cE_gt, cE_ge, nb, walk_tmp]
      refine round_step (P := P) (cs := cs) (es := es) (b0 := b0) (t1 := t1) (t2 := t2) (w0 := w0) (n := n + 3) (s := s) (ns := ns) H6.new (by decide) (by decide) b3 (by rw [new_at_old (by omega)]; exact e6) (by show h4.sz < h6.sz + 1; omega) ?_ rfl rfl ?_
      · intro x hx
        simp only [List.mem_cons, List.not_mem_nil, or_false] at hx
        rcases hx with rfl | rfl | rfl | rfl | rfl
        · decide
        · decide
        · decide
        · decide
        · omega
      · intro h7 q5 q9 q10 kp7
        exact ⟨_, _, _, _, _, _, _, _, _, rfl, H6.new.kp kp7⟩
    · simp only [↓evS_for, ↓evX_lc, ↓evS_zret, forB, lcB, Py.wipe, WS_ex, WX_ex, evSs, evS, evX, evXs, evI, evIfs, bindT, bindTs, WS_thenS, WS_bndS, WS_bnnS, WX_bnd, WX_bnn, WX_ok, WX_lift, WS_nx, WS_rt, pro_v, pro_l, pros, List.getElem?_cons_zero, List.getElem?_cons_succ, List.set_cons_zero, List.set_cons_succ, Option.map_some, Option.some.injEq, exists_eq_left', bop_add, bop_sub, bop_mulL, bop_mulR, bop_mulm, bop_mod, bop_fdiv, bop_powS, blt_int, Int.reduceLT, Int.reducePow, Int.reduceLE, Int.reduceNeg, cE_eq, cE_ne, cE_lt, cE_le, cE_gt, cE_ge, decide_eq_false hv]
      refine (tabs 8 (by decide) (by decide)).monoE ?_ (fun _ _ _ z => z.elim)
      rintro d h4 ⟨bl, rfl, b1, b2, b3, H4⟩
      have wt := w_tabi (P := P) (cs := cs) (es := es) (g0 := b0) (g1 := t1) (g2 := t2) (n := n + 3) (k := h4.sz) (b := 8) (bl := bl) (h := h4.new (.ins "Table" [])) new_at_new (by decide) (by decide) b1 (by omega) b3
      simp only [↓evS_for, ↓evX_lc, ↓evS_zret, forB, lcB, Py.wipe, WS_ex, WX_ex, evSs, evS, evX, evXs, evI, evIfs, bindT, bindTs, WS_thenS, WS_bndS, WS_bnnS, WX_bnd, WX_bnn, WX_ok, WX_lift, WS_nx, WS_rt, pro_v, pro_l, pros, List.getElem?_cons_zero, List.getElem?_cons_succ, List.set_cons_zero, List.set_cons_succ, Option.map_some, Option.some.injEq, exists_eq_left', bop_add, bop_sub, bop_mulL, bop_mulR, bop_mulm, bop_mod, bop_fdiv, bop_powS, blt_int, Int.reduceLT, Int.reducePow, Int.reduceLE, Int.reduceNeg, cE_eq, cE_ne, cE_lt, cE_le, cE_gt, cE_ge]
      refine wt.monoE ?_ (fun _ _ _ z => z.elim)
      rintro d h5 ⟨rfl, e5, z5, kp5⟩
      have H5 : TapeE t s ns h5 := H4.kp (Kp.new.cut kp5 (by simp))
      have T5 : h4.sz < h5.sz := by rw [z5]; exact Nat.lt_succ_self _
      have nb := sset_lst (k := h5.sz) (is := (List.range ((8 : Int) + 1).toNat).map fun (i : Nat) => (0 : Int) + (i : Int)) (h := h5.new (.lst (((List.range ((8 : Int) + 1).toNat).map fun (i : Nat) => (0 : Int) + (i : Int)).map .int))) new_at_new (by simp)
      simp only [↓evS_for, ↓evX_lc, ↓evS_zret, forB, lcB, Py.wipe, WS_ex, WX_ex, evSs, evS, evX, evXs, evI, evIfs, bindT, bindTs, WS_thenS, WS_bndS, WS_bnnS, WX_bnd, WX_bnn, WX_ok, WX_lift, WS_nx, WS_rt, pro_v, pro_l, pros, List.getElem?_cons_zero, List.getElem?_cons_succ, List.set_cons_zero, List.set_cons_succ, Option.map_some, Option.some.injEq, exists_eq_left', bop_add, bop_sub, bop_mulL, bop_mulR, bop_mulm, bop_mod, bop_fdiv, bop_powS, blt_int, Int.reduceLT, Int.reducePow, Int.reduceLE, Int.reduceNeg, cE_eq, cE_ne, cE_lt, cE_le, cE_gt, cE_ge, List.length_cons, List.length_nil, Nat.reduceAdd, decide_true, setAll, walk1 (show (0 : Int) ≤ 8 + 1 by decide) (show (8 : Int) + 1 ≤ 16777216 by decide), rngL_map, nb, walk_tmp]
      refine round_step (P := P) (cs := cs) (es := es) (b0 := b0) (t1 := t1) (t2 := t2) (w0 := w0) (n := n + 3) (s := s) (ns := ns) H5.new (by decide) (by decide) b3 (by rw [new_at_old (by omega)]; exact e5) (by show h4.sz < h5.sz + 1; omega) ?_ rfl rfl ?_
      · intro x hx
        obtain ⟨i, hi, rfl⟩ := List.mem_map.mp hx
        have := List.mem_range.mp hi
        omega
      · intro h7 q5 q9 q10 kp7
        exact ⟨_, _, _, _, _, _, _, _, _, rfl, H5.new.kp kp7⟩
  · rintro ρ h2 ⟨p2, p3, p4, p5, p6, p7, p8, p9, p10, rfl, H2⟩
    simp only [↓evS_for, ↓evX_lc, ↓evS_zret, forB, lcB, Py.wipe, WS_ex, WX_ex, evSs, evS, evX, evXs, evI, evIfs, bindT, bindTs, WS_thenS, WS_bndS, WS_bnnS, WX_bnd, WX_bnn, WX_ok, WX_lift, WS_nx, WS_rt, pro_v, pro_l, pros, List.getElem?_cons_zero, List.getElem?_cons_succ, List.set_cons_zero, List.set_cons_succ, Option.map_some, Option.some.injEq, exists_eq_left', bop_add, bop_sub, bop_mulL, bop_mulR, bop_mulm, bop_mod, bop_fdiv, bop_powS, blt_int, Int.reduceLT, Int.reducePow, Int.reduceLE, Int.reduceNeg, cE_eq, cE_ne, cE_lt, cE_le, cE_gt, cE_ge]
    refine (w_rows (cs := cs) (es := es) (b0 := b0) (t1 := t1) (t2 := t2) (s1 := s1) (s2 := s2) (k1 := k1) (k2 := k2) (l1 := l1) (w0 := w0) (n := n) hc H2).monoE ?_ (fun _ _ _ z => z.elim)
    rintro d h3 rfl
    rfl
end
end Py


set_option Elab.async false
set_option linter.all false
set_option maxRecDepth 100000
set_option maxHeartbeats 4000000
namespace Ly
open PySem Py
abbrev PP : Prog := progOf (rows.map RowP.toRow)
def CS : List String := ["Table", "Sheet", "Layout"]
def ES : List String := ["Table", "Sheet", "Layout"]
instance : HF PP "is_integer" (F_is_integer CS) := ⟨by rfl⟩
instance : HF PP "is_within" (F_is_within) := ⟨by rfl⟩
instance : HF PP "is_lot" (F_is_lot CS) := ⟨by rfl⟩
instance : HF PP "is_pair" (F_is_pair CS ES) := ⟨by rfl⟩
instance : HF PP "is_block" (F_is_block ES "MOST_WEIGHT") := ⟨by rfl⟩
instance : HF PP "Table.__init__" (F_Table__init__ CS "MOST_BLOCKS" "MOST_BOXES_tables") := ⟨by rfl⟩
instance : HF PP "product_of" (F_product_of) := ⟨by rfl⟩
instance : HF PP "Sheet.__init__" (F_Sheet__init__ CS "MOST_PLACES" "MOST_MODULI") := ⟨by rfl⟩
instance : HF PP "is_kind" (F_is_kind "MOST_WEIGHT" "MOST_STEPS") := ⟨by rfl⟩
instance : HF PP "Layout.__init__" (F_Layout__init__ CS "MOST_KINDS") := ⟨by rfl⟩
instance : HF PP "rests_of" (F_rests_of) := ⟨by rfl⟩
instance : HF PP "place_by" (F_place_by) := ⟨by rfl⟩
instance : HF PP "sum_of" (F_sum_of) := ⟨by rfl⟩
instance : HF PP "shift_of" (F_shift_of) := ⟨by rfl⟩
instance : HF PP "blocks_of" (F_blocks_of) := ⟨by rfl⟩
instance : HF PP "table_by" (F_table_by) := ⟨by rfl⟩
instance : HF PP "table_of" (F_table_of) := ⟨by rfl⟩
instance : HF PP "check_number" (F_check_number) := ⟨by rfl⟩
instance : HF PP "check_many" (F_check_many) := ⟨by rfl⟩
instance : HF PP "choices_of" (F_choices_of) := ⟨by rfl⟩
instance : HF PP "left_of" (F_left_of) := ⟨by rfl⟩
instance : HF PP "gone_of" (F_gone_of ES) := ⟨by rfl⟩
instance : HF PP "weight_gone" (F_weight_gone) := ⟨by rfl⟩
instance : HF PP "worst_by" (F_worst_by "MOST_BOXES_losses") := ⟨by rfl⟩
instance : HF PP "most_gone" (F_most_gone) := ⟨by rfl⟩
instance : HF PP "worst_gone" (F_worst_gone) := ⟨by rfl⟩
instance : HF PP "_law_same" (F__law_same CS ES) := ⟨by rfl⟩
instance : HF PP "_law_tape" (F__law_tape) := ⟨by rfl⟩
instance : HF PP "_law_pick" (F__law_pick) := ⟨by rfl⟩
instance : HF PP "_law_losses" (F__law_losses) := ⟨by rfl⟩
instance : HF PP "_law_worst" (F__law_worst ES) := ⟨by rfl⟩
instance : HF PP "_law_table" (F__law_table ES) := ⟨by rfl⟩
instance : HF PP "_law_rows_right" (F__law_rows_right ES) := ⟨by rfl⟩
instance : HF PP "law" (F_law ES) := ⟨by rfl⟩
theorem law_ok (ns : List Int) (hl : ns.length ≤ 63) : ∃ h', callF PP 9 "law" [.rol (ns.map .int)] Hd.nil = some (.ok (.bl true) h') := by
  obtain ⟨d, h', e, rfl⟩ := (w_law (P := PP) (cs := CS) (es := ES) (n := 0) (h := Hd.nil) (ns := ns) (by decide)).get
  exact ⟨h', e⟩
end Ly


set_option Elab.async false
set_option linter.all false
set_option maxRecDepth 100000
set_option maxHeartbeats 0
namespace Ly
open PySem PySem.Spec L2 Py
open PyProof.Rows hiding St
def lawAt : Nat := R.prog.main.body.length - 1
def loose : List Str := (R.prog.main.scope.names.map (·.1)).filter fun x => !(x == ("law" : Str)) && !(x == ("__name__" : Str))
abbrev hk : PySem.W.Hook := hookY 5 Γ rows
def ob (s : PySem.W.SharedT) : AlY := obsYG 5 Γ rows (HandSHeadRun.getT s)
theorem ob_eq (s : PySem.W.SharedT) : ob s = hk.obs s.abs := obsYG_eq (HandSHeadRun.getT_eq s)
theorem run (w : World) : HandSHeadRun.RunEq R (PySem.W.view R.prog [lawAt]) hk ob 4000 loose w := by
  intro os
  kernel_rfl
theorem lawRow : ∃ r ∈ rows, r.name = "law" ∧ r.at_ = (sO "law", none) ∧ r.ps = [sO "_law_script"] := by
  have h : (rows.any fun r => r.name == "law" && decide (r.at_ = (sO "law", none)) && decide (r.ps = [sO "_law_script"])) = true := by kernel_rfl
  obtain ⟨r, hr, q⟩ := List.any_eq_true.mp h
  rw [Bool.and_eq_true, Bool.and_eq_true] at q
  exact ⟨r, hr, eq_of_beq q.1.1, of_decide_eq_true q.1.2, of_decide_eq_true q.2⟩
/-- the law's promise is kept where the small language says so -/
theorem promise {K : PySem.W.Frag} {H : Hp} {a : Addr} {ns : List Int} (hl : ns.length ≤ 63) (hO : Only H) (hS : SqL K H a (ns.map V.int)) : spF K (callF (progOf (rows.map RowP.toRow)) 9) "law" [.ref a] H (fun v _ => v = .bl true) fun _ _ _ => False := by
  obtain ⟨h', e⟩ := law_ok ns hl
  have ro : RoL K H a (ns.map V.int) := by
    rcases hS with (hS | hS) | hS
    · rcases hO a with q | ⟨o, xs, q⟩
      · rw [q] at hS; cases hS
      · rw [q] at hS; cases hS
    · exact .inl hS
    · exact .inr hS
  refine ⟨[], Hd.nil, [.rol (ns.map .int)], _, ⟨rfl, List.nodup_nil, fun n o h => (by cases h), fun n b h => (by simp at h)⟩, .cons (.rol ro (ints_at ns)) .nil, e, fun M' H' v _ _ rv => ?_⟩
  cases rv
  rfl
end Ly
open PySem PySem.W PySem.Calls PyProof.Rows
theorem PySem.Challenge.cw_roundcopies_k09_whole_what_is_lost_for_g_holds : PySem.Challenge.rw_roundcopies_k09_whole_what_is_lost_for_g.Holds := by
  w_on; o_law
  refine HandSHeadRun.head_any (r := OpenLaw.row PySem.Challenge.rw_roundcopies_k09_whole_what_is_lost_for_g) (q := view (OpenLaw.row PySem.Challenge.rw_roundcopies_k09_whole_what_is_lost_for_g).prog [Ly.lawAt]) (H := Ly.hk) (ob := Ly.ob) (M := 4000) (loose := Ly.loose) (d := HandSHeadRun.topDef (OpenLaw.row PySem.Challenge.rw_roundcopies_k09_whole_what_is_lost_for_g).prog Ly.lawAt) (kwd := []) Ly.ob_eq
    (by kernel_rfl) (fun s => by kernel_rfl) Ly.run (by kernel_rfl) (by kernel_rfl) (by kernel_rfl) (by rfl) (by first | assumption | decide +kernel) (by decide +kernel) ⟨rfl, rfl, rfl, rfl, rfl, by decide +kernel⟩ ?hw ?hc
  case hw => w_witness2
  case hc =>
    refine L2.walk_ofE (l := PySem.Challenge.rw_roundcopies_k09_whole_what_is_lost_for_g) (n := 63) (k := 2 * 9) (x := Py.sO "_law_script") (CX := L2.CX0) rfl (by decide) (by kernel_rfl) ⟨rfl, by decide, by decide⟩ ?F (fun _ _ _ _ z => z)
    intro w mg fa h Y G hmg0
    obtain ⟨K, KX, c⟩ := Y
    have hmg : mg (Py.sO "law") = some (.ref fa) := by
      have e : (HandSHeadRun.topDef (OpenLaw.row PySem.Challenge.rw_roundcopies_k09_whole_what_is_lost_for_g).prog Ly.lawAt).name = Py.sO "law" := by kernel_rfl
      rw [← e]
      exact hmg0
    obtain ⟨r, hr, rn, ra, rp⟩ := Ly.lawRow
    obtain ⟨fd, F⟩ := c.2.defs (d := r.d) (List.mem_map.mpr ⟨r, hr, rfl⟩)
    have F2 : Py.RowAt K r.toRow (He.fAd K r.at_) fd := F
    have FT := Py.facts_of KX G c Ly.tab_ok
    have fg : "law" ∈ Ly.Γ.fns := by decide +kernel
    have ea : He.ga K (Py.sO "law") = fa := by
      have g := He.glo_ok KX G (x := Py.sO "law") (c.2.facts (Py.fa_0 fg))
      rw [hmg] at g
      cases g
      rfl
    rw [ra] at F2
    have F3 : Py.RowAt K r.toRow fa fd := by rw [← ea]; exact F2
    refine ⟨K, fd, Py.spF K (Py.callF (Py.progOf (Ly.rows.map Py.RowP.toRow)) 9) "law", KX, fun s v => ?_, fun H a ns hl hO hS => Ly.promise hl hO hS, fun base kb gb => ?_⟩
    · have b := L2.FunD.bindsA (ps := r.ps) F3 (Ly.binds_ok r.toRow (List.mem_map.mpr ⟨r, hr, rfl⟩)) s [v] (by rw [rp]; rfl)
      rw [rp] at b
      exact b
    · have q := (Py.all_rows (Pg := PySem.Challenge.rw_roundcopies_k09_whole_what_is_lost_for_g.prog) (w := w) (base := base) FT Ly.nd_ok (fun r' hr' => by
        obtain ⟨r2, h2, rfl⟩ := List.mem_map.mp hr'
        exact List.all_eq_true.mp Ly.rows_ok r2 h2) Ly.binds_ok 9 r.toRow (List.mem_map.mpr ⟨r, hr, rfl⟩) fa fd F3).1
      rw [show r.toRow.name = "law" from rn, show r.toRow.ps = [Py.sO "_law_script"] from rp] at q
      exact q

