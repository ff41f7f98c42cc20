import PyProof.Rows.All
import Wide.All
import OpenK.AllK
import Wide.FinOn
import PySem.Challenge.RW_xw0150_01
set_option compiler.extract_closed false

section
open PySem
namespace Mine

inductive V where
  | none
  | bool (b : Bool)
  | int (i : Int)
  | str (l : List Nat)
  | tup (vs : List V)
  | ref (i : Nat)
  | rng (n : Int)
  | dct (es : List (List Nat × Int))
  | ints (l : List Int)

inductive Ob where
  | list (vs : List V)
  | inst (c : Str) (fs : List (Str × V))

inductive Fl where
  | next
  | ret (v : V)

noncomputable abbrev Loc := List (Str × V)
noncomputable abbrev Obs := List Ob
noncomputable abbrev EM (α : Type) := Loc → Obs → Option (α × Obs)
noncomputable abbrev SM := Loc → Obs → Option (Fl × Loc × Obs)

structure Cfg where
  call : Str → Str → List V → Obs → Option (V × Obs)
  glob : Str → Option V
  N : Nat

noncomputable def putL {α : Type} (x : Str) (v : α) : List (Str × α) → List (Str × α)
  | [] => [(x, v)]
  | (y, u) :: r => if y = x then (x, v) :: r else (y, u) :: putL x v r

inductive Tgt where
  | one (x : Str)
  | many (xs : List Str)

noncomputable def bindT : Tgt → V → Option (List (Str × V))
  | .one x, v => some [(x, v)]
  | .many xs, .tup vs => if xs.length = vs.length then some (xs.zip vs) else none
  | _, _ => none
noncomputable def putAll : List (Str × V) → Loc → Loc
  | [], l => l
  | (x, v) :: r, l => putAll r (putL x v l)

noncomputable def failE {α : Type} : EM α := fun _ _ => none
noncomputable def retE {α : Type} (a : α) : EM α := fun _ o => some (a, o)
noncomputable def locM (x : Str) : EM V := fun l o => (l.lookup x).map fun v => (v, o)
noncomputable def globM (c : Cfg) (x : Str) : EM V := fun _ o => (c.glob x).map fun v => (v, o)
noncomputable def seqM : List (EM V) → EM (List V)
  | [] => fun _ o => some ([], o)
  | m :: r => fun l o => (m l o).bind fun p => (seqM r l p.2).bind fun q => some (p.1 :: q.1, q.2)

noncomputable def truthyV : V → Option Bool
  | .bool b => some b
  | _ => none

noncomputable def andM : List (EM V) → EM V
  | [] => failE
  | [m] => m
  | m :: r => fun l o => (m l o).bind fun p => match truthyV p.1 with
    | some true => andM r l p.2
    | some false => some p
    | none => none
noncomputable def orM : List (EM V) → EM V
  | [] => failE
  | [m] => m
  | m :: r => fun l o => (m l o).bind fun p => match truthyV p.1 with
    | some true => some p
    | some false => orM r l p.2
    | none => none
noncomputable def testM (m : EM V) : EM Bool := fun l o => (m l o).bind fun p => (truthyV p.1).map fun b => (b, p.2)
noncomputable def notT (m : EM Bool) : EM Bool := fun l o => (m l o).map fun p => (!p.1, p.2)
noncomputable def boolM (m : EM Bool) : EM V := fun l o => (m l o).map fun p => (.bool p.1, p.2)
noncomputable def andT : List (EM Bool) → EM Bool
  | [] => retE true
  | m :: r => fun l o => (m l o).bind fun p => if p.1 then andT r l p.2 else some (false, p.2)
noncomputable def orT : List (EM Bool) → EM Bool
  | [] => retE false
  | m :: r => fun l o => (m l o).bind fun p => if p.1 then some (true, p.2) else orT r l p.2
noncomputable def iteM (t : EM Bool) (a b : EM V) : EM V := fun l o => (t l o).bind fun p => if p.1 then a l p.2 else b l p.2

noncomputable def strLim : Nat := 16777216
noncomputable def binV : Operator → V → V → Option V
  | .Add, .int a, .int b => some (.int (a + b))
  | .Sub, .int a, .int b => some (.int (a - b))
  | .Mult, .int a, .int b => if -(2 ^ 63 : Int) < a ∧ a < 2 ^ 63 then some (.int (a * b)) else none
  | .FloorDiv, .int a, .int b => if 0 < b ∧ b < 2 ^ 31 then some (.int (a.fdiv b)) else none
  | .Mod, .int a, .int b => if b = 0 then none else some (.int (a.fmod b))
  | .Pow, .int a, .int b => if a = 10 ∧ b = 15 then some (.int 1000000000000000) else none
  | .Add, .str a, .str b => if a.length + b.length ≤ strLim then some (.str (a ++ b)) else none
  | .Mult, .str a, .int b => if 0 ≤ b ∧ b ≤ 1 ∧ a.length ≤ 1 then some (.str (if b = 1 then a else [])) else none
  | _, _, _ => none

noncomputable def binM (op : Operator) (a b : EM V) : EM V := fun l o =>
  (a l o).bind fun p => (b l p.2).bind fun q => match op, p.1, q.1 with
    | .Add, .ref i, .ref j => (match q.2[i]?, q.2[j]? with
        | some (.list xs), some (.list ys) => if xs.length + ys.length ≤ 1000 then some (.ref q.2.length, q.2 ++ [.list (xs ++ ys)]) else none
        | _, _ => none)
    | op, x, y => (binV op x y).map fun v => (v, q.2)

noncomputable def negM (a : EM V) : EM V := fun l o => (a l o).bind fun p => match p.1 with
  | .int i => some (.int (-i), p.2)
  | _ => none

noncomputable def strLe : List Nat → List Nat → Bool
  | [a], [b] => decide (a ≤ b)
  | _, _ => false
noncomputable def one1 : List Nat → Bool
  | [_] => true
  | _ => false

noncomputable def strsOf : List V → Option (List (List Nat))
  | [] => some []
  | .str x :: r => (strsOf r).map (x :: ·)
  | _ :: _ => none
noncomputable def inStrs (x : List Nat) (vs : List V) : Option Bool := (strsOf vs).map fun ys => ys.any fun y => y == x

noncomputable def eqA : V → V → Bool
  | .none, .none => true
  | .int a, .int b => decide (a = b)
  | .str a, .str b => a == b
  | _, _ => false
noncomputable def eqAs : List V → List V → Bool
  | [], [] => true
  | a :: r, b :: q => eqA a b && eqAs r q
  | _, _ => false
noncomputable def eqV : V → V → Bool
  | .tup a, .tup b => eqAs a b
  | _, _ => false
noncomputable def eqVs : List V → List V → Bool
  | [], [] => true
  | a :: r, b :: q => eqV a b && eqVs r q
  | _, _ => false

noncomputable def cmpEq (a b : V) (o : Obs) : Option Bool := match a, b with
  | .int a, .int b => some (a == b)
  | .str a, .str b => some (a == b)
  | .ref i, .ref j => (match o[i]?, o[j]? with
      | some (.list xs), some (.list ys) => (match ys with
          | [] => some xs.isEmpty
          | _ => if i ≠ j ∧ eqVs xs ys = true then some true else none)
      | _, _ => none)
  | _, _ => none
noncomputable def cmpNe (a b : V) : Option Bool := match a, b with
  | .int a, .int b => some (a != b)
  | .str a, .str b => some (a != b)
  | _, _ => none
noncomputable def cmpInt (f : Int → Int → Bool) (a b : V) : Option Bool := match a, b with
  | .int a, .int b => some (f a b)
  | _, _ => none
noncomputable def cmpLe (a b : V) : Option Bool := match a, b with
  | .int a, .int b => some (decide (a ≤ b))
  | .str a, .str b => if one1 a && one1 b then some (strLe a b) else none
  | _, _ => none
noncomputable def cmpIn (a b : V) (o : Obs) : Option Bool := match a, b with
  | .str a, .str b => if one1 a then some (b.contains (a.headD 0)) else none
  | .str a, .tup vs => inStrs a vs
  | .str a, .ref i => (match o[i]? with
      | some (.list vs) => inStrs a vs
      | _ => none)
  | .str a, .dct es => some (es.any fun e => a == e.1)
  | _, _ => none
noncomputable def cmpIs (a b : V) : Option Bool := match a, b with
  | .none, .none => some true
  | .int _, .none => some false
  | .str _, .none => some false
  | _, _ => none
noncomputable def cmpV (op : CmpOp) (a b : V) (o : Obs) : Option Bool := match op with
  | .Eq => cmpEq a b o
  | .NotEq => cmpNe a b
  | .Lt => cmpInt (fun a b => decide (a < b)) a b
  | .LtE => cmpLe a b
  | .Gt => cmpInt (fun a b => decide (b < a)) a b
  | .GtE => cmpInt (fun a b => decide (b ≤ a)) a b
  | .In => cmpIn a b o
  | .Is => cmpIs a b
  | _ => none

noncomputable def cmpM (op : CmpOp) (a b : EM V) : EM V := fun l o =>
  (a l o).bind fun p => (b l p.2).bind fun q => (cmpV op p.1 q.1 q.2).map fun r => (.bool r, q.2)
noncomputable def cmp2M (op₁ op₂ : CmpOp) (a b d : EM V) : EM V := fun l o =>
  (a l o).bind fun p => (b l p.2).bind fun q => (cmpV op₁ p.1 q.1 q.2).bind fun r => if r then
    (d l q.2).bind fun u => (cmpV op₂ q.1 u.1 u.2).map fun r => (.bool r, u.2)
    else some (.bool false, q.2)

noncomputable def attrM (a : EM V) (n : Str) : EM V := fun l o => (a l o).bind fun p => match p.1 with
  | .ref i => (match p.2[i]? with
      | some (.inst _ fs) => (fs.lookup n).map fun v => (v, p.2)
      | _ => none)
  | _ => none

noncomputable def pickV {α : Type} (xs : List α) (i : Int) : Option α :=
  if 0 ≤ i then xs[i.toNat]? else if -(xs.length : Int) ≤ i then xs[(i + xs.length).toNat]? else none
noncomputable def dctGet (x : List Nat) : List (List Nat × Int) → Option Int
  | [] => none
  | e :: r => if x == e.1 then some e.2 else dctGet x r
noncomputable def subV (a b : V) (o : Obs) : Option V := match a, b with
  | .str l, .int i => if 0 ≤ i ∧ i < 1000000000 then (l[i.toNat]?).map fun c => .str [c] else none
  | .tup vs, .int i => if 0 ≤ i ∧ i < 1000000000 then vs[i.toNat]? else none
  | .ref j, .int i => if -1000000000 < i ∧ i < 1000000000 then (match o[j]? with
      | some (.list vs) => pickV vs i
      | _ => none) else none
  | .dct es, .str x => (dctGet x es).map .int
  | .ints l, .int i => if 0 ≤ i ∧ i < 1000000000 then (l[i.toNat]?).map .int else none
  | _, _ => none
noncomputable def subM (a b : EM V) : EM V := fun l o =>
  (a l o).bind fun p => (b l p.2).bind fun q => (subV p.1 q.1 q.2).map fun r => (r, q.2)
noncomputable def sliceM (a b d : EM V) : EM V := fun l o =>
  (a l o).bind fun p => (b l p.2).bind fun q => (d l q.2).bind fun r => match p.1, q.1, r.1 with
    | .str x, .int i, .int j => if 0 ≤ i ∧ 0 ≤ j ∧ x.length < 1000000 then some (.str ((x.take j.toNat).drop i.toNat), r.2) else none
    | _, _, _ => none

noncomputable def tupM (ms : List (EM V)) : EM V := fun l o => (seqM ms l o).map fun p => (.tup p.1, p.2)
noncomputable def listM (ms : List (EM V)) : EM V := fun l o => (seqM ms l o).map fun p => (.ref p.2.length, p.2 ++ [.list p.1])

noncomputable def digitsN (n : Nat) : List Nat := (Nat.toDigits 10 n).map Char.toNat

noncomputable def bltV (f : Str) (vs : List V) (o : Obs) : Option V :=
  if f = "len" then (match vs with
    | [.str l] => if l.length < 1000000000 then some (.int l.length) else none
    | [.tup l] => if l.length < 1000000000 then some (.int l.length) else none
    | [.ref i] => (match o[i]? with | some (.list l) => if l.length < 1000000000 then some (.int l.length) else none | _ => none)
    | [.ints l] => some (.int l.length)
    | _ => none)
  else if f = "ord" then (match vs with | [.str [c]] => some (.int c) | _ => none)
  else if f = "chr" then (match vs with | [.int i] => if 0 ≤ i ∧ i < 1114112 then some (.str [i.toNat]) else none | _ => none)
  else if f = "range" then (match vs with | [.int n] => if 0 ≤ n ∧ n < 2 ^ 31 then some (.rng n) else none | _ => none)
  else if f = "str" then (match vs with | [.int n] => if 0 ≤ n ∧ n < 10 ^ 9 then some (.str (digitsN n.toNat)) else none | _ => none)
  else if f = "int" then (match vs with | [.bool b] => some (.int (if b then 1 else 0)) | _ => none)
  else if f = "max" then (match vs with | [.int a, .int b] => some (.int (if b > a then b else a)) | _ => none)
  else none
noncomputable def bltM (f : Str) (ms : List (EM V)) : EM V := fun l o => (seqM ms l o).bind fun p => (bltV f p.1 p.2).map fun v => (v, p.2)
noncomputable def funM (c : Cfg) (f : Str) (ms : List (EM V)) : EM V := fun l o => (seqM ms l o).bind fun p => c.call "" f p.1 p.2
noncomputable def newM (c : Cfg) (cl : Str) (ms : List (EM V)) : EM V := fun l o => (seqM ms l o).bind fun p =>
  (c.call cl "__init__" (.ref p.2.length :: p.1) (p.2 ++ [.inst cl []])).bind fun q => match q.1 with
    | .none => some (.ref p.2.length, q.2)
    | _ => none

noncomputable def joinL (sep : List Nat) : List (List Nat) → List Nat
  | [] => []
  | [x] => x
  | x :: r => x ++ sep ++ joinL sep r
noncomputable def sumLens (xs : List (List Nat)) : Nat := (xs.map List.length).sum
noncomputable def splitOk (x : List Nat) : Bool := !(decide ((Str.mk x.toArray).length < (Str.mk #[32]).length) || decide (Builtin.Str.strKind ⟨x.toArray⟩ < Builtin.Str.strKind ⟨#[32]⟩)) &&
  !(Builtin.Str.occurrences ⟨x.toArray⟩ ⟨#[32]⟩ 0 (Str.mk x.toArray).length ((Str.mk x.toArray).length + 1)).isEmpty
noncomputable def splitSp (x : List Nat) : List (List Nat) :=
  (Builtin.Str.partsBetween ⟨x.toArray⟩ (Builtin.Str.occurrences ⟨x.toArray⟩ ⟨#[32]⟩ 0 (Str.mk x.toArray).length ((Str.mk x.toArray).length + 1)) (Str.mk #[32]).length).map fun y => y.cps.toList
noncomputable def findIn1 (x : List Nat) (ch : Nat) : Int := Txt.find ⟨x.toArray⟩ ⟨#[ch]⟩
noncomputable def lowerA (c : Nat) : Nat := if 65 ≤ c ∧ c ≤ 90 then c + 32 else c

noncomputable def appV (i : Nat) (v : V) (o : Obs) : Option Obs := match o[i]? with
  | some (.list vs) => if vs.length < 100000 then some (o.set i (.list (vs ++ [v]))) else none
  | _ => none

inductive MK where
  | inst (cl : Str)
  | lst
  | str
noncomputable def methPre (m : Str) (self : V) (o : Obs) : Option MK := match self with
  | .ref i => (match o[i]? with
      | some (.inst cl fs) => if fs.lookup m = none then some (.inst cl) else none
      | some (.list _) => if m = "append" then some .lst else none
      | none => none)
  | .str _ => some .str
  | _ => none
noncomputable def strMeth (m : Str) (x : List Nat) (vs : List V) (o : Obs) : Option (V × Obs) :=
  if m = "join" then (match vs with
        | [.ref i] => (match o[i]? with
            | some (.list ws) => (strsOf ws).bind fun xs => if sumLens xs + xs.length * x.length ≤ strLim then some (.str (joinL x xs), o) else none
            | _ => none)
        | _ => none)
      else if m = "split" then (match vs with
        | [.str [32]] => if splitOk x = true ∧ x.length ≤ 1000 then some (.ref o.length, o ++ [.list ((splitSp x).map .str)]) else none
        | _ => none)
      else if m = "lower" then (match vs, x with
        | [], [ch] => if ch < 128 then some (.str [lowerA ch], o) else none
        | _, _ => none)
      else if m = "index" then (match vs with
        | [.str [ch]] => if 0 ≤ findIn1 x ch then some (.int (findIn1 x ch), o) else none
        | _ => none)
      else none
noncomputable def methV (c : Cfg) (m : Str) (k : MK) (self : V) (vs : List V) (o : Obs) : Option (V × Obs) := match k, self with
  | .inst cl, .ref i => c.call cl m (.ref i :: vs) o
  | .lst, .ref i => (match vs with
          | [v] => (appV i v o).map fun o => (.none, o)
          | _ => none)
  | .str, .str x => strMeth m x vs o
  | _, _ => none
noncomputable def methM (c : Cfg) (m : Str) (a : EM V) (ms : List (EM V)) : EM V := fun l o =>
  (a l o).bind fun p => (methPre m p.1 p.2).bind fun k => (seqM ms l p.2).bind fun q => methV c m k p.1 q.1 q.2

noncomputable def itemAt (it : V) (o : Obs) (i : Nat) : Option (Option V) := match it with
  | .rng n => some (if (i : Int) < n then some (.int i) else none)
  | .str l => some ((l[i]?).map fun ch => .str [ch])
  | .tup vs => some vs[i]?
  | .ref j => (match o[j]? with
      | some (.list vs) => some vs[i]?
      | _ => none)
  | _ => none

noncomputable def compLoop (t : Tgt) (it : V) (id : Nat) (fl : Loc) (elt : EM V) : Nat → Nat → Obs → Option (V × Obs)
  | 0, _, _ => none
  | k + 1, i, o => match itemAt it o i with
    | none => none
    | some none => some (.ref id, o)
    | some (some v) => (bindT t v).bind fun bs => (elt (putAll bs fl) o).bind fun p => (appV id p.1 p.2).bind fun o' => compLoop t it id fl elt k (i + 1) o'
noncomputable def freesOf (fs : List Str) (l : Loc) : Loc := fs.filterMap fun x => (l.lookup x).map fun v => (x, v)
noncomputable def compM (c : Cfg) (t : Option Tgt) (fs : List Str) (iter elt : EM V) : EM V := fun l o => match t with
  | none => none
  | some t => (iter l o).bind fun p => compLoop t p.1 p.2.length (freesOf fs l) elt c.N 0 (p.2 ++ [.list []])

noncomputable def bltNames : List Str := ["len", "ord", "chr", "range", "str", "int", "max"]
noncomputable def clsNames : List Str := ["Word", "Signs"]


noncomputable def failS : SM := fun _ _ => none
noncomputable def nextS : SM := fun l o => some (.next, l, o)
noncomputable def assignM (x : Str) (m : EM V) : SM := fun l o => (m l o).map fun p => (.next, putL x p.1 l, p.2)
noncomputable def unpackM (xs : List Str) (m : EM V) : SM := fun l o => (m l o).bind fun p => (bindT (.many xs) p.1).map fun bs => (.next, putAll bs l, p.2)
noncomputable def swapM (xs : List Str) (m : EM V) : SM := fun l o => (m l o).bind fun p => (bindT (.many xs) p.1).map fun bs => (.next, putAll bs.reverse l, p.2)
noncomputable def setFld (i : Nat) (n : Str) (v : V) (o : Obs) : Option Obs := match o[i]? with
  | some (.inst c fs) => if fs.length < 50 then some (o.set i (.inst c (putL n v fs))) else none
  | _ => none
noncomputable def setAttrM (a : EM V) (n : Str) (m : EM V) : SM := fun l o => (m l o).bind fun p => (a l p.2).bind fun q => match q.1 with
  | .ref i => (setFld i n p.1 q.2).map fun o => (.next, l, o)
  | _ => none
noncomputable def setItemM (a i m : EM V) : SM := fun l o => (m l o).bind fun p => (a l p.2).bind fun q => (i l q.2).bind fun r => match q.1, r.1 with
  | .ref j, .int k => (match r.2[j]? with
      | some (.list vs) => if 0 ≤ k ∧ k < vs.length ∧ vs.length ≤ 1000 then some (.next, l, r.2.set j (.list (vs.set k.toNat p.1))) else none
      | _ => none)
  | _, _ => none
noncomputable def augNameM (x : Str) (op : Operator) (m : EM V) : SM := fun l o => match op, l.lookup x with
  | .Add, some (.int a) => (m l o).bind fun p => match p.1 with
      | .int b => some (.next, putL x (.int (a + b)) l, p.2)
      | _ => none
  | _, _ => none
noncomputable def augAttrM (a : EM V) (n : Str) (op : Operator) (m : EM V) : SM := fun l o => (a l o).bind fun q => match op, q.1 with
  | .Add, .ref i => (match q.2[i]? with
      | some (.inst _ fs) => (match fs.lookup n with
          | some (.int x) => (m l q.2).bind fun p => (match p.1 with
              | .int y => (setFld i n (.int (x + y)) p.2).map fun o => (.next, l, o)
              | _ => none)
          | _ => none)
      | _ => none)
  | _, _ => none
noncomputable def exprM (m : EM V) : SM := fun l o => (m l o).bind fun p => match p.1 with
  | .none => some (.next, l, p.2)
  | .str _ => some (.next, l, p.2)
  | _ => none
noncomputable def retM (m : EM V) : SM := fun l o => (m l o).map fun p => (.ret p.1, l, p.2)
noncomputable def thenS (a b : SM) : SM := fun l o => (a l o).bind fun p => match p.1 with
  | .next => b p.2.1 p.2.2
  | .ret v => some (.ret v, p.2.1, p.2.2)
noncomputable def ifM (t : EM Bool) (a b : SM) : SM := fun l o => (t l o).bind fun p => if p.1 then a l p.2 else b l p.2
noncomputable def whileLoop (t : EM Bool) (b : SM) : Nat → Loc → Obs → Option (Fl × Loc × Obs)
  | 0, _, _ => none
  | k + 1, l, o => (t l o).bind fun p => if p.1 then (b l p.2).bind fun q => (match q.1 with
      | .next => whileLoop t b k q.2.1 q.2.2
      | .ret v => some (.ret v, q.2.1, q.2.2))
    else some (.next, l, p.2)
noncomputable def whileM (c : Cfg) (t : EM Bool) (b : SM) : SM := fun l o => whileLoop t b c.N l o
noncomputable def forLoop (t : Tgt) (it : V) (b : SM) : Nat → Nat → Loc → Obs → Option (Fl × Loc × Obs)
  | 0, _, _, _ => none
  | k + 1, i, l, o => match itemAt it o i with
    | none => none
    | some none => some (.next, l, o)
    | some (some v) => (bindT t v).bind fun bs => (b (putAll bs l) o).bind fun q => (match q.1 with
      | .next => forLoop t it b k (i + 1) q.2.1 q.2.2
      | .ret v => some (.ret v, q.2.1, q.2.2))
noncomputable def forM (c : Cfg) (t : Option Tgt) (iter : EM V) (b : SM) : SM := fun l o => match t with
  | none => none
  | some t => (iter l o).bind fun p => forLoop t p.1 b c.N 0 l p.2


structure Fn where
  params : List Str
  dflt : List V
  body : Cfg → SM

noncomputable def bindP (ps : List Str) (ds : List V) (args : List V) : Option Loc :=
  if args.length = ps.length then some (ps.zip args)
  else (match ds with
    | [d] => if args.length + 1 = ps.length then some (ps.zip (args ++ [d])) else none
    | _ => none)

noncomputable def tabGet (cl f : Str) : List (Str × Str × Fn) → Option Fn
  | [] => none
  | e :: r => if e.1 = cl then (if e.2.1 = f then some e.2.2 else tabGet cl f r) else tabGet cl f r

noncomputable def run (tab : List (Str × Str × Fn)) (glob : Str → Option V) (N : Nat) : Nat → Str → Str → List V → Obs → Option (V × Obs)
  | 0, _, _, _, _ => none
  | n + 1, cl, f, args, o => (tabGet cl f tab).bind fun fn => (bindP fn.params fn.dflt args).bind fun l =>
      (fn.body ⟨run tab glob N n, glob, N⟩ l o).map fun p => match p.1 with
        | .ret v => (v, p.2.2)
        | .next => (.none, p.2.2)

end Mine
end

section
open PySem
namespace Mine

noncomputable def g_KEYS : V := .tup [.str [99, 97, 115, 101], .str [99, 108, 97, 115, 115], .str [100, 97, 116, 97], .str [100, 101, 114, 105, 118, 105, 110, 103], .str [100, 111], .str [101, 108, 115, 101], .str [105, 102], .str [105, 109, 112, 111, 114, 116], .str [105, 110], .str [105, 110, 102, 105, 120], .str [105, 110, 102, 105, 120, 108], .str [105, 110, 102, 105, 120, 114], .str [105, 110, 115, 116, 97, 110, 99, 101], .str [108, 101, 116], .str [109, 111, 100, 117, 108, 101], .str [110, 101, 119, 116, 121, 112, 101], .str [111, 102], .str [116, 104, 101, 110], .str [116, 121, 112, 101], .str [119, 104, 101, 114, 101], .str [95]]
noncomputable def g_OPS : V := .tup [.str [46, 46], .str [58], .str [58, 58], .str [61], .str [92], .str [124], .str [60, 45], .str [45, 62], .str [64], .str [126], .str [61, 62]]
noncomputable def g_SPECIALS : V := .str [40, 41, 91, 93, 44, 59, 96, 123, 125]
noncomputable def g_SYMBOLS : V := .str [33, 35, 36, 37, 38, 42, 43, 46, 47, 60, 61, 62, 63, 64, 92, 94, 124, 45, 126, 58]
noncomputable def g_SMALL : V := .str [97, 98, 99, 100, 101, 102, 103, 104, 105, 106, 107, 108, 109, 110, 111, 112, 113, 114, 115, 116, 117, 118, 119, 120, 121, 122, 95]
noncomputable def g_GREAT : V := .str [65, 66, 67, 68, 69, 70, 71, 72, 73, 74, 75, 76, 77, 78, 79, 80, 81, 82, 83, 84, 85, 86, 87, 88, 89, 90]
noncomputable def g_DIGITS : V := .str [48, 49, 50, 51, 52, 53, 54, 55, 56, 57]
noncomputable def g_TAB : V := .int 8
noncomputable def g_MOST_SIGN : V := .int 1114111
noncomputable def g_TOO_GREAT : V := .int (10 ^ 3999)
noncomputable def g_NAMED_ESCAPES : V := .tup [.str [78, 85, 76], .str [83, 79, 72], .str [83, 84, 88], .str [69, 84, 88], .str [69, 79, 84], .str [69, 78, 81], .str [65, 67, 75], .str [66, 69, 76], .str [66, 83], .str [72, 84], .str [76, 70], .str [86, 84], .str [70, 70], .str [67, 82], .str [83, 79], .str [83, 73], .str [68, 76, 69], .str [68, 67, 49], .str [68, 67, 50], .str [68, 67, 51], .str [68, 67, 52], .str [78, 65, 75], .str [83, 89, 78], .str [69, 84, 66], .str [67, 65, 78], .str [69, 77], .str [83, 85, 66], .str [69, 83, 67], .str [70, 83], .str [71, 83], .str [82, 83], .str [85, 83], .str [83, 80]]
noncomputable def g_DELETE : V := .int 127
noncomputable def d_esc : List (List Nat × Int) := [([97], 7), ([98], 8), ([102], 12), ([110], 10), ([114], 13), ([116], 9), ([118], 11), ([92], 92), ([34], 34), ([39], 39)]
noncomputable def globL : List (Str × V) := [(Str.ofString "KEYS", g_KEYS), (Str.ofString "OPS", g_OPS), (Str.ofString "SPECIALS", g_SPECIALS), (Str.ofString "SYMBOLS", g_SYMBOLS), (Str.ofString "SMALL", g_SMALL), (Str.ofString "GREAT", g_GREAT), (Str.ofString "DIGITS", g_DIGITS), (Str.ofString "TAB", g_TAB), (Str.ofString "MOST_SIGN", g_MOST_SIGN), (Str.ofString "TOO_GREAT", g_TOO_GREAT), (Str.ofString "NAMED_ESCAPES", g_NAMED_ESCAPES), (Str.ofString "DELETE", g_DELETE)]
noncomputable def globF (y : Str) : Option V := if y = Str.ofString "PLAIN_ESCAPES" then some (.dct d_esc) else globL.lookup y

end Mine
end

section
open PySem PySem.W PySem.Calls PyProof.Rows PyProof.V
set_option linter.unusedVariables false
set_option maxRecDepth 1000000
set_option maxHeartbeats 0
set_option Elab.async false
namespace Mine
noncomputable def attrNames : List Str := ["text", "at", "line", "column", "kind", "value", "is_first", "end"]

noncomputable def topB : List Stmt := PySem.Challenge.pw_xw0150_01.main.body
noncomputable def nthS : List Stmt → Nat → Stmt
  | s :: _, 0 => s
  | _ :: r, i + 1 => nthS r i
  | [], _ => .Pass default
noncomputable def bodyOf : Stmt → List Stmt
  | .FunctionDef _ _ b _ _ _ _ _ _ _ => b
  | .ClassDef _ _ _ b _ _ _ _ _ _ _ => b
  | _ => []
noncomputable def scopeOf : Stmt → Scope
  | .FunctionDef _ _ _ _ _ _ sc _ _ _ => sc
  | _ => default
noncomputable def argsOf : Stmt → Arguments
  | .FunctionDef _ a _ _ _ _ _ _ _ _ => a
  | _ => default

noncomputable def s_Word_init : Stmt := nthS (bodyOf (nthS topB 18)) 0
noncomputable def s_Word_place : Stmt := nthS (bodyOf (nthS topB 18)) 1
noncomputable def s_Signs_init : Stmt := nthS (bodyOf (nthS topB 19)) 0
noncomputable def s_Signs_sign : Stmt := nthS (bodyOf (nthS topB 19)) 1
noncomputable def s_Signs_starts : Stmt := nthS (bodyOf (nthS topB 19)) 2
noncomputable def s_Signs_step : Stmt := nthS (bodyOf (nthS topB 19)) 3
noncomputable def s_Signs_take : Stmt := nthS (bodyOf (nthS topB 19)) 4
noncomputable def s_Signs_place : Stmt := nthS (bodyOf (nthS topB 19)) 5
noncomputable def s_is_among : Stmt := nthS topB 20
noncomputable def s_is_bare : Stmt := nthS topB 22
noncomputable def s_name_letters : Stmt := nthS topB 23
noncomputable def s_is_line_comment : Stmt := nthS topB 24
noncomputable def s_skip_between : Stmt := nthS topB 26
noncomputable def s_number_of : Stmt := nthS topB 27
noncomputable def s_checked_sign : Stmt := nthS topB 31
noncomputable def s_named_escape : Stmt := nthS topB 32
noncomputable def s_read_escape : Stmt := nthS topB 33
noncomputable def s_read_char : Stmt := nthS topB 34
noncomputable def s_read_text : Stmt := nthS topB 36
noncomputable def s_symbol_kind : Stmt := nthS topB 37
noncomputable def s_read_word : Stmt := nthS topB 41
noncomputable def s_words_of : Stmt := nthS topB 42
noncomputable def s_law_trunk : Stmt := nthS topB 44
noncomputable def s_law_pull : Stmt := nthS topB 45
noncomputable def s_law_one : Stmt := nthS topB 46
noncomputable def s_law_named : Stmt := nthS topB 47
noncomputable def s_law_escape : Stmt := nthS topB 48
noncomputable def s_law_based : Stmt := nthS topB 49
noncomputable def s_law_text : Stmt := nthS topB 50
noncomputable def s_law_sign : Stmt := nthS topB 51
noncomputable def s_law_name : Stmt := nthS topB 52
noncomputable def s_law_operator : Stmt := nthS topB 53
noncomputable def s_law_word : Stmt := nthS topB 54
noncomputable def s_law_is_right : Stmt := nthS topB 55
noncomputable def s_law : Stmt := nthS topB 56
noncomputable def adG (K : Frag) (f : Str) : Addr := match nsIn K mainGlobals f with
  | some (some (.ref a)) => a
  | _ => 0
noncomputable def adM (K : Frag) (cl f : Str) : Addr := match findIn K (.ref (adG K cl)) f with
  | some (some (.ref a)) => a
  | _ => 0
noncomputable def adOf (K : Frag) (cl f : Str) : Addr := if cl = "" then adG K f else adM K cl f
noncomputable def fdIn (K : Frag) (a : Addr) : Option FuncData := match K.lookup a with
  | some ⟨_, _, .func fd, _⟩ => some fd
  | _ => none
noncomputable def tupIn (K : Frag) (a : Addr) : Option (List Value) := match K.lookup a with
  | some ⟨.type t, _, .seq xs _, _⟩ => if t = "tuple" then some xs.toList else none
  | _ => none
noncomputable def cps? : Value → Option (List Nat)
  | .str s _ => some s.cps.toList
  | _ => none
noncomputable def int? : Value → Option Int
  | .int i _ => some i
  | _ => none
noncomputable def strV (w : Value) : Option V := (cps? w).map .str
noncomputable def strVs : List Value → Option (List V)
  | [] => some []
  | w :: ws => (strV w).bind fun v => (strVs ws).map (v :: ·)
noncomputable def toV (K : Frag) : Value → Option V
  | .int i _ => some (.int i)
  | .str s _ => some (.str s.cps.toList)
  | .ref a => ((tupIn K a).bind strVs).map .tup
  | _ => none
noncomputable def readG (K : Frag) (y : Str) : Option Value := (nsIn K mainGlobals y).join

noncomputable def entV (P : Params) (e : DictEntry) : Option (List Nat) × Int × Option Int := (cps? e.key, e.hash, int? e.val)
noncomputable def entD (P : Params) (d : List Nat × Int) : Option (List Nat) × Int × Option Int := (some d.1, PyData.keyHash P ⟨d.1.toArray⟩, some d.2)
noncomputable def dctIn (K : Frag) (a : Addr) : Option (List DictEntry) := match K.lookup a with
  | some ⟨.type t, none, .dict es _, sl⟩ => if t = "dict" ∧ sl.size = 0 then some es.toList else none
  | _ => none

noncomputable def viewFd (K : Frag) (fd : FuncData) : Arguments × FuncBody × Scope × Addr × Addr × List (Str × Addr) × Bool :=
  (fd.params, fd.body, fd.scope, fd.globals, fd.builtins, fd.closure, codeIn K fd.code fd.qualname)
noncomputable def dfNone : Value → Bool
  | .none => true
  | _ => false
noncomputable def tops : List Str := [Str.ofString "is_among", Str.ofString "is_bare", Str.ofString "name_letters", Str.ofString "is_line_comment", Str.ofString "skip_between", Str.ofString "number_of", Str.ofString "checked_sign", Str.ofString "named_escape", Str.ofString "read_escape", Str.ofString "read_char", Str.ofString "read_text", Str.ofString "symbol_kind", Str.ofString "read_word", Str.ofString "words_of", Str.ofString "_law_trunk", Str.ofString "_law_pull", Str.ofString "_law_one", Str.ofString "_law_named", Str.ofString "_law_escape", Str.ofString "_law_based", Str.ofString "_law_text", Str.ofString "_law_sign", Str.ofString "_law_name", Str.ofString "_law_operator", Str.ofString "_law_word", Str.ofString "_law_is_right"]
noncomputable def meths : List (Str × Str) := [(Str.ofString "Word", Str.ofString "__init__"), (Str.ofString "Word", Str.ofString "place"), (Str.ofString "Signs", Str.ofString "__init__"), (Str.ofString "Signs", Str.ofString "sign"), (Str.ofString "Signs", Str.ofString "starts"), (Str.ofString "Signs", Str.ofString "step"), (Str.ofString "Signs", Str.ofString "take"), (Str.ofString "Signs", Str.ofString "place")]
noncomputable def frH (h : Heap) (as : List Addr) : Frag := as.filterMap fun a => (h.get? a).map fun o => (a, o)
noncomputable def isR (x : Option (Option Value)) : Bool := match x with
  | some (some (.ref _)) => true
  | _ => false
noncomputable abbrev OC : Type := Bool × Option (Option Value) × Option (Option Value) × Option (Option Value) × (Bool × Bool × Bool × Bool) × List (Option (Option Value))
noncomputable def clsO (K : Frag) (c : Str) : OC := (isR (nsIn K mainGlobals c), findIn K (.ref (adG K c)) "__getattribute__", findIn K (.ref (adG K c)) "__getattr__", findIn K (.ref (adG K c)) "__setattr__",
  (hasDictIn K (adG K c), plainOver K (adG K c), makesIn K (adG K c), keepIn K (.ref (adG K c))), attrNames.map (findIn K (.ref (adG K c))))
noncomputable def clsV : OC := (true, some (some (.builtin "object.__getattribute__")), some none, some (some (.builtin "object.__setattr__")), (true, true, true, true), attrNames.map fun _ => some none)
noncomputable abbrev OF : Type := Option (Arguments × FuncBody × Scope × Addr × Addr × List (Str × Addr) × Bool)
noncomputable abbrev OT : Type := List (Option V) × Bool × Bool × Option (List (Option (List Nat) × Int × Option Int)) × List (Option (Option Value)) × OC × OC × Bool × Bool × List (Option Value) × List OF × List (Option Bool) × Option (List (Option Int)) × Option Nat

noncomputable def nmL : List (Str × Str) := [(Str.ofString "Word", Str.ofString "__init__"), (Str.ofString "Word", Str.ofString "place"), (Str.ofString "Signs", Str.ofString "__init__"), (Str.ofString "Signs", Str.ofString "sign"), (Str.ofString "Signs", Str.ofString "starts"), (Str.ofString "Signs", Str.ofString "step"), (Str.ofString "Signs", Str.ofString "take"), (Str.ofString "Signs", Str.ofString "place"), (Str.ofString "", Str.ofString "is_among"), (Str.ofString "", Str.ofString "is_bare"), (Str.ofString "", Str.ofString "name_letters"), (Str.ofString "", Str.ofString "is_line_comment"), (Str.ofString "", Str.ofString "skip_between"), (Str.ofString "", Str.ofString "number_of"), (Str.ofString "", Str.ofString "checked_sign"), (Str.ofString "", Str.ofString "named_escape"), (Str.ofString "", Str.ofString "read_escape"), (Str.ofString "", Str.ofString "read_char"), (Str.ofString "", Str.ofString "read_text"), (Str.ofString "", Str.ofString "symbol_kind"), (Str.ofString "", Str.ofString "read_word"), (Str.ofString "", Str.ofString "words_of"), (Str.ofString "", Str.ofString "_law_trunk"), (Str.ofString "", Str.ofString "_law_pull"), (Str.ofString "", Str.ofString "_law_one"), (Str.ofString "", Str.ofString "_law_named"), (Str.ofString "", Str.ofString "_law_escape"), (Str.ofString "", Str.ofString "_law_based"), (Str.ofString "", Str.ofString "_law_text"), (Str.ofString "", Str.ofString "_law_sign"), (Str.ofString "", Str.ofString "_law_name"), (Str.ofString "", Str.ofString "_law_operator"), (Str.ofString "", Str.ofString "_law_word"), (Str.ofString "", Str.ofString "_law_is_right")]
noncomputable def nmD : List (Str × Str) := [(Str.ofString "Word", Str.ofString "place"), (Str.ofString "Signs", Str.ofString "__init__"), (Str.ofString "Signs", Str.ofString "starts"), (Str.ofString "Signs", Str.ofString "step"), (Str.ofString "Signs", Str.ofString "take"), (Str.ofString "Signs", Str.ofString "place"), (Str.ofString "", Str.ofString "is_among"), (Str.ofString "", Str.ofString "is_bare"), (Str.ofString "", Str.ofString "name_letters"), (Str.ofString "", Str.ofString "is_line_comment"), (Str.ofString "", Str.ofString "skip_between"), (Str.ofString "", Str.ofString "number_of"), (Str.ofString "", Str.ofString "checked_sign"), (Str.ofString "", Str.ofString "named_escape"), (Str.ofString "", Str.ofString "read_escape"), (Str.ofString "", Str.ofString "read_char"), (Str.ofString "", Str.ofString "read_text"), (Str.ofString "", Str.ofString "symbol_kind"), (Str.ofString "", Str.ofString "read_word"), (Str.ofString "", Str.ofString "words_of"), (Str.ofString "", Str.ofString "_law_trunk"), (Str.ofString "", Str.ofString "_law_pull"), (Str.ofString "", Str.ofString "_law_one"), (Str.ofString "", Str.ofString "_law_named"), (Str.ofString "", Str.ofString "_law_escape"), (Str.ofString "", Str.ofString "_law_based"), (Str.ofString "", Str.ofString "_law_text"), (Str.ofString "", Str.ofString "_law_sign"), (Str.ofString "", Str.ofString "_law_name"), (Str.ofString "", Str.ofString "_law_operator"), (Str.ofString "", Str.ofString "_law_word"), (Str.ofString "", Str.ofString "_law_is_right")]
noncomputable def stL : List Stmt := [s_Word_init, s_Word_place, s_Signs_init, s_Signs_sign, s_Signs_starts, s_Signs_step, s_Signs_take, s_Signs_place, s_is_among, s_is_bare, s_name_letters, s_is_line_comment, s_skip_between, s_number_of, s_checked_sign, s_named_escape, s_read_escape, s_read_char, s_read_text, s_symbol_kind, s_read_word, s_words_of, s_law_trunk, s_law_pull, s_law_one, s_law_named, s_law_escape, s_law_based, s_law_text, s_law_sign, s_law_name, s_law_operator, s_law_word, s_law_is_right]
noncomputable def fnO (K : Frag) (p : Str × Str) : OF := (fdIn K (adOf K p.1 p.2)).map (viewFd K)
noncomputable def fnV (s : Stmt) : OF := some (argsOf s, .stmts (bodyOf s), scopeOf s, mainGlobals, builtinsNs, [], true)
noncomputable def dfO (K : Frag) (p : Str × Str) : Option Bool := (fdIn K (adOf K p.1 p.2)).map (fun fd => dfNone fd.defaults)
noncomputable def entO (e : DictEntry) : Option (List Nat) × Int × Option Int := (cps? e.key, e.hash, int? e.val)
noncomputable def obsK (K : Frag) : OT := (globL.map (fun p => (readG K p.1).bind (toV K)), isR (nsIn K mainGlobals "PLAIN_ESCAPES"), adG K "PLAIN_ESCAPES" == sysModules, (dctIn K (adG K "PLAIN_ESCAPES")).map (List.map entO),
  bltNames.map (nsIn K mainGlobals), clsO K "Word", clsO K "Signs", tops.all (fun f => isR (nsIn K mainGlobals f)), meths.all (fun p => isR (findIn K (.ref (adG K p.1)) p.2)), meths.map (fun p => typeIn K (.ref (adM K p.1 p.2))),
  nmL.map (fnO K), nmD.map (dfO K), (fdIn K (adOf K "Signs" "sign")).bind (fun fd => match fd.defaults with
    | .ref a => (tupIn K a).map fun ws => ws.map int?
    | _ => none), (fdIn K (adOf K "Word" "__init__")).bind (fun fd => match fd.defaults with
    | .ref a => (tupIn K a).map fun ws => ws.length
    | _ => none))
noncomputable def valK (P : Params) : OT := (globL.map (fun p => some p.2), true, false, some (d_esc.map (entD P)), bltNames.map (fun _ => some none), clsV, clsV, true, true, meths.map (fun _ => some (.type "function")), stL.map fnV, nmD.map (fun _ => some true), some [some 0], some 3)
noncomputable def asL : List Addr := [2, 3, 15, 17, 18, 20, 21, 22, 29, 30, 32, 33, 35, 36, 37, 38, 39, 40, 43, 50, 51, 52, 55, 56, 57, 58, 66, 67, 69, 70, 72, 73, 74, 76, 77, 79, 80, 81, 83, 84, 86, 87, 88, 89, 90, 91, 92, 102, 104, 105, 107, 108, 109, 110, 112, 113, 115, 116, 117, 119, 120, 122, 123, 124, 126, 127, 129, 130, 131, 133, 134, 136, 137, 138, 140, 141, 143, 144, 145, 146, 147, 148, 149, 152, 154, 155, 157, 158, 159, 161, 162, 164, 165, 166, 168, 169, 171, 172, 173, 175, 176, 178, 179, 180, 182, 183, 185, 186, 187, 189, 190, 192, 193, 194, 196, 197, 199, 200, 201, 203, 204, 206, 207, 208, 210, 211, 213, 214, 215, 217, 218, 220, 221, 222, 224, 225, 227, 228, 229, 231, 232, 234, 235, 236, 238, 239, 241, 242, 243, 245, 246, 248, 249, 250, 252, 253, 255, 256, 257, 259, 260, 262, 263, 264, 266, 267, 269, 270, 271, 273, 274, 276, 277, 278, 280, 281, 283, 284, 285, 287, 288, 290, 291, 292, 294, 295, 297, 298, 299, 301, 302, 304, 305, 306, 308, 309, 311, 312, 313, 315, 316, 318, 319, 320, 322, 323, 325, 326, 327, 329, 330, 332, 333, 334, 336, 337, 339, 340, 341, 343, 344, 346, 347, 348, 350, 351, 353, 354, 355, 357, 358, 360, 361, 362, 364, 365, 367, 368, 369, 371, 372, 374, 375, 376, 378, 379, 381, 382, 383, 385, 386, 388, 389, 390, 393, 394, 395, 398, 399]
noncomputable def keepL : List Nat := [0, 2, 3, 5, 6, 7, 8, 9, 10, 11, 12, 13, 14, 15, 16, 17, 18, 19, 20, 21, 22, 23, 24, 25, 26, 27, 28, 29, 30, 31, 32, 33, 34, 35, 36, 37, 38, 39, 40, 41, 42, 44, 45, 46, 47, 48, 49, 50, 51, 52, 53, 54, 55, 56]
noncomputable abbrev pp : Program := PySem.Challenge.pw_xw0150_01
noncomputable def vw : Program := { pp with main := { pp.main with body := keepL.map (nthS topB) } }
noncomputable def loo : List PySem.Str := [PySem.Str.ofString "LazyError", PySem.Str.ofString "TOO_GREAT", PySem.Str.ofString "PLAIN_ESCAPES"]
noncomputable def lvs : List (PySem.Str × WData) := [(PySem.Str.ofString "TOO_GREAT", WData.int (10 ^ 3999))]
noncomputable abbrev rr : RowW := OpenRow.toRowW PySem.Challenge.rw_xw0150_01.row
noncomputable def osn (s : Shared) := openSeen vw loo (importedModules pp.main.body) (fun s => xlAt vw lvs s && recOk (RowW.records rr) s) true s
noncomputable def osg := openGood vw loo
noncomputable def look (s : Shared) := (osn s, obsK (frH s.heap asL))
theorem opens (w : World) : (fencedOpening treeTable pp w 5422).map (fun s => (s.heap, s.gens, s.drawn, s.toks)) = some (boot_heap w.params, Array.mk [], boot_drawn, boot_toks) := boot_open (by kernel_rfl) (by decide +kernel) (fun s => by kernel_rfl) w
theorem join3 {σ α β γ δ ε : Type} {x : Option σ} {f : σ → α × β × γ × δ} {g : σ → ε} {a : α × β × γ × δ} {b : ε} (h1 : x.map (fun s => ((f s).1, (f s).2.1, (f s).2.2.1)) = some (a.1, a.2.1, a.2.2.1))
    (h2 : x.map (fun s => (f s).2.2.2) = some a.2.2.2) (h3 : x.map g = some b) : x.map (fun s => (f s, g s)) = some (a, b) := by
  cases x with
  | none => cases h1
  | some s =>
    simp only [Option.map_some, Option.some.injEq, Prod.mk.injEq] at h1 h2 h3 ⊢
    obtain ⟨p, q, r⟩ := h1
    exact ⟨Prod.ext p (Prod.ext q (Prod.ext r h2)), h3⟩
noncomputable abbrev topAt (w : World) (os : OsState) : Option Shared := topFrom treeTable pp w 5422 ⟨boot_heap w.params, #[], boot_drawn, boot_toks, os⟩
theorem runF1 (w : World) (os : OsState) : (topAt (w.withFollow "special-get-raises" false) os).map (fun s => ((osn s).1, (osn s).2.1, (osn s).2.2.1)) = some (osg.1, osg.2.1, osg.2.2.1) := by
  unfold topAt topFrom osn osg
  rw [PySem.W.Fast.te14082659384304107361, PySem.W.Fast.te14364793385576792824, PySem.W.Fast.te5923862056798008813, PySem.W.Fast.te8920871248978507458, PySem.W.Fast.te4187177175401517315]
  delta PySem.W.Fast.tw4187177175401517315 openGood
  dsimp only
  kernel_rfl
theorem runF2 (w : World) (os : OsState) : (topAt (w.withFollow "special-get-raises" false) os).map (fun s => (osn s).2.2.2) = some osg.2.2.2 := by
  unfold topAt topFrom osn osg
  rw [PySem.W.Fast.te14082659384304107361, PySem.W.Fast.te14364793385576792824, PySem.W.Fast.te5923862056798008813, PySem.W.Fast.te8920871248978507458, PySem.W.Fast.te4187177175401517315]
  delta PySem.W.Fast.tw4187177175401517315 openGood
  dsimp only
  kernel_rfl
theorem runF3 (w : World) (os : OsState) : (topAt (w.withFollow "special-get-raises" false) os).map (fun s => obsK (frH s.heap asL)) = some (valK (w.withFollow "special-get-raises" false).params) := by
  unfold topAt topFrom
  rw [PySem.W.Fast.te14082659384304107361, PySem.W.Fast.te14364793385576792824, PySem.W.Fast.te5923862056798008813, PySem.W.Fast.te8920871248978507458]
  kernel_rfl
theorem runT1 (w : World) (os : OsState) : (topAt (w.withFollow "special-get-raises" true) os).map (fun s => ((osn s).1, (osn s).2.1, (osn s).2.2.1)) = some (osg.1, osg.2.1, osg.2.2.1) := by
  unfold topAt topFrom osn osg
  rw [PySem.W.Fast.te14082659384304107361, PySem.W.Fast.te14364793385576792824, PySem.W.Fast.te5923862056798008813, PySem.W.Fast.te8920871248978507458, PySem.W.Fast.te4187177175401517315]
  delta PySem.W.Fast.tw4187177175401517315 openGood
  dsimp only
  kernel_rfl
theorem runT2 (w : World) (os : OsState) : (topAt (w.withFollow "special-get-raises" true) os).map (fun s => (osn s).2.2.2) = some osg.2.2.2 := by
  unfold topAt topFrom osn osg
  rw [PySem.W.Fast.te14082659384304107361, PySem.W.Fast.te14364793385576792824, PySem.W.Fast.te5923862056798008813, PySem.W.Fast.te8920871248978507458, PySem.W.Fast.te4187177175401517315]
  delta PySem.W.Fast.tw4187177175401517315 openGood
  dsimp only
  kernel_rfl
theorem runT3 (w : World) (os : OsState) : (topAt (w.withFollow "special-get-raises" true) os).map (fun s => obsK (frH s.heap asL)) = some (valK (w.withFollow "special-get-raises" true).params) := by
  unfold topAt topFrom
  rw [PySem.W.Fast.te14082659384304107361, PySem.W.Fast.te14364793385576792824, PySem.W.Fast.te5923862056798008813, PySem.W.Fast.te8920871248978507458]
  kernel_rfl
theorem runF (w : World) (os : OsState) : (topAt (w.withFollow "special-get-raises" false) os).map look = some (osg, valK (w.withFollow "special-get-raises" false).params) := join3 (f := osn) (a := osg) (runF1 w os) (runF2 w os) (runF3 w os)
theorem runT (w : World) (os : OsState) : (topAt (w.withFollow "special-get-raises" true) os).map look = some (osg, valK (w.withFollow "special-get-raises" true).params) := join3 (f := osn) (a := osg) (runT1 w os) (runT2 w os) (runT3 w os)
end Mine
end

section
open PySem PySem.W PyProof.Rows
set_option Elab.async false
set_option maxRecDepth 1000000
set_option maxHeartbeats 0
namespace Mine
theorem said_names : namesResolve pp = true := by kernel_rfl
theorem said_looks : looksOpen pp = true := by
  unfold looksOpen
  repeat' with_reducible refine look_both ?_ ?_
  case refine_1.refine_1.refine_1.refine_2 => exact said_names
  all_goals kernel_rfl
theorem said_look : looksOpen (OpenLaw.row PySem.Challenge.rw_xw0150_01).prog = true := said_looks
theorem said_row : OpenRow.wellSaid (OpenLaw.row PySem.Challenge.rw_xw0150_01) = true := by
  unfold OpenRow.wellSaid OpenRow.partSaid
  repeat' with_reducible refine look_both ?_ ?_
  any_goals with_reducible exact said_look
  all_goals kernel_rfl
theorem said : OpenLaw.wellSaid PySem.Challenge.rw_xw0150_01 = true := by
  unfold OpenLaw.wellSaid
  repeat' with_reducible refine look_both ?_ ?_
  any_goals with_reducible exact said_row
  all_goals kernel_rfl
theorem said_bare : (OpenLaw.row PySem.Challenge.rw_xw0150_01).prog.bare := ⟨rfl, rfl, rfl, rfl, rfl, by decide +kernel⟩
end Mine
end

section
open PySem PySem.W PySem.Calls PyProof.Rows
set_option linter.unusedVariables false
namespace Mine

structure X where
  prog : Program
  w : World
  K : Frag
  hB : Heap
  G : Addr
  BI : Addr
  mg : Str → Option Value
  mb : Str → Option Value
  cls : Str → Option Addr
  fn : Str → Str → Option Addr

noncomputable abbrev Rho := List (Addr × Addr)
noncomputable def Wr (ρ : Rho) : List Addr := ρ.map (·.2)

noncomputable def Frozen (o : Obj) : Prop :=
  (o.cls = .type "tuple" ∧ ∃ xs n, o.data = .seq xs n) ∨ (o.cls = .type "range" ∧ ∃ xs, o.data = .fields xs) ∨ o.data = .plain

structure Step (D : List Addr) (h h' : Heap) : Prop where
  keep : ∀ b o, b ∉ D → h.get? b = some o → h'.get? b = some o
  fz : ∀ b o, Frozen o → h.get? b = some o → h'.get? b = some o
  live : ∀ b o, h.get? b = some o → ∃ o', h'.get? b = some o'

noncomputable abbrev dctD (es : List (List Nat × Int)) : List (PyData × PyData) := es.map fun e => (PyData.str ⟨e.1.toArray⟩, PyData.int e.2)

mutual
noncomputable def VR (x : X) (h : Heap) (ρ : Rho) : V → Value → Prop
  | .none, w => w = .none
  | .bool b, w => w = .bool b
  | .int i, w => ∃ t, w = .int i t
  | .str l, w => ∃ t, w = .str ⟨l.toArray⟩ t
  | .tup vs, w => ∃ a ws, w = .ref a ∧ h.IsTuple a ws.toArray ∧ VRs x h ρ vs ws
  | .ref i, w => ∃ p, ρ[i]? = some p ∧ w = .ref p.1
  | .rng n, w => ∃ a t u v, w = .ref a ∧ IsRange h a 0 n 1 t u v ∧ 0 ≤ n ∧ n < 2 ^ 31
  | .dct es, w => ∃ a, w = .ref a ∧ StrTab x.prog x.w x.hB a (dctD es)
  | .ints l, w => ∃ a ws, w = .ref a ∧ x.hB.IsList a ws.toArray ∧ IntsAre ws l ∧ l.length < 64
noncomputable def VRs (x : X) (h : Heap) (ρ : Rho) : List V → List Value → Prop
  | [], [] => True
  | v :: vs, w :: ws => VR x h ρ v w ∧ VRs x h ρ vs ws
  | _, _ => False
end

noncomputable abbrev lstOf (ws : List Value) (n : Nat) : Obj := { cls := .type "list", dict := none, data := .seq ws.toArray n, slots := #[] }
noncomputable abbrev dctOf (es : List DictEntry) (n : Nat) : Obj := { cls := .type "dict", data := .dict es.toArray n }

noncomputable def FRs (x : X) (h : Heap) (ρ : Rho) : List (Str × V) → List DictEntry → Prop
  | [], [] => True
  | (n, v) :: r, e :: es => (∃ t, e.key = .str n t) ∧ VR x h ρ v e.val ∧ FRs x h ρ r es
  | _, _ => False

noncomputable def OR (x : X) (h : Heap) (ρ : Rho) (p : Addr × Addr) : Ob → Prop
  | .list vs => p.1 = p.2 ∧ ∃ ws n, h.get? p.2 = some (lstOf ws n) ∧ VRs x h ρ vs ws
  | .inst c fs => ∃ C es n, x.cls c = some C ∧ h.get? p.1 = some (instObj C p.2) ∧ h.get? p.2 = some (dctOf es n) ∧ FRs x h ρ fs es

structure Gd (x : X) (ρ : Rho) (os : Obs) (h : Heap) : Prop where
  base : ∀ b o, x.hB.get? b = some o → h.get? b = some o
  len : ρ.length = os.length
  obj : ∀ (i : Nat) (p : Addr × Addr) (ob : Ob), ρ[i]? = some p → os[i]? = some ob → OR x h ρ p ob
  off : ∀ a ∈ Wr ρ, x.hB.get? a = none
  nd : (Wr ρ).Nodup

noncomputable def Ext (h : Heap) (ρ ρ' : Rho) : Prop := ∃ r, ρ' = ρ ++ r ∧ ∀ p ∈ r, h.get? p.2 = none

noncomputable def own (env : Env) : List Addr := env.locals :: env.cells.map (·.2)

structure LR (x : X) (env : Env) (ρ : Rho) (l : Loc) (h : Heap) : Prop where
  ns : ∃ m, h.Ns env.locals m ∧ ∀ y v, l.lookup y = some v → env.kindOf y = some .local → ∃ w, m y = some w ∧ VR x h ρ v w
  cell : ∀ y v, l.lookup y = some v → (env.kindOf y = some .cell ∨ env.kindOf y = some .free) →
    ∃ a o w, env.cells.lookup y = some a ∧ h.get? a = some o ∧ o.data = .cell (some w) ∧ VR x h ρ v w
  live : ∀ y a, env.cells.lookup y = some a → ∃ o v, h.get? a = some o ∧ o.data = .cell v
  one : env.cells.length ≤ 1
  offW : ∀ a ∈ own env, a ∉ Wr ρ
  offB : ∀ a ∈ own env, x.hB.get? a = none
  livs : ∀ a ∈ own env, ∃ o, h.get? a = some o

structure Mv (x : X) (D : List Addr) (ρ : Rho) (s : Shared) (ρ' : Rho) (o' : Obs) (s' : Shared) : Prop where
  eq : ∃ tk, s' = { s with heap := s'.heap, toks := tk }
  ext : Ext s.heap ρ ρ'
  good : Gd x ρ' o' s'.heap
  step : Step (D ++ Wr ρ) s.heap s'.heap

theorem Step.refl (D : List Addr) (h : Heap) : Step D h h := ⟨fun _ _ _ e => e, fun _ _ _ e => e, fun _ o e => ⟨o, e⟩⟩
theorem Step.trans {D : List Addr} {h₁ h₂ h₃ : Heap} (a : Step D h₁ h₂) (b : Step D h₂ h₃) : Step D h₁ h₃ :=
  ⟨fun p o n e => b.keep p o n (a.keep p o n e), fun p o f e => b.fz p o f (a.fz p o f e), fun p o e => let ⟨o', e'⟩ := a.live p o e; b.live p o' e'⟩
theorem Step.mono {D D' : List Addr} {h h' : Heap} (a : Step D h h') (hd : ∀ b o, b ∈ D → h.get? b = some o → b ∈ D') : Step D' h h' :=
  ⟨fun p o n e => a.keep p o (fun q => n (hd p o q e)) e, a.fz, a.live⟩
theorem Step.push (D : List Addr) (h : Heap) (o : Obj) : Step D h (h.push o) :=
  ⟨fun _ _ _ e => Heap.get?_push_of_some o e, fun _ _ _ e => Heap.get?_push_of_some o e, fun _ o' e => ⟨o', Heap.get?_push_of_some o e⟩⟩
theorem Step.of_sameBut {a : Addr} {h h' : Heap} {o o' : Obj} (e : h.get? a = some o) (e' : h'.get? a = some o') (nf : ¬ Frozen o) (hs : Heap.SameBut a h h') : Step [a] h h' :=
  ⟨fun b ob n q => (hs.2 b (by simpa using n)).trans q, fun b ob f q => by
    by_cases hb : b = a
    · subst hb; rw [e] at q; cases q; exact (nf f).elim
    · exact (hs.2 b hb).trans q, fun b ob q => by
    by_cases hb : b = a
    · subst hb; exact ⟨o', e'⟩
    · exact ⟨ob, (hs.2 b hb).trans q⟩⟩
theorem get_size (h : Heap) : h.get? h.objs.size = none := by
  cases e : h.get? h.objs.size with
  | none => rfl
  | some o => exact absurd (Heap.lt_size e) (Nat.lt_irrefl _)

theorem not_frozen_dict {o : Obj} {es ep} (h : o.data = .dict es ep) : ¬ Frozen o := by
  rintro (⟨-, xs, n, e⟩ | ⟨-, xs, e⟩ | e) <;> rw [h] at e <;> cases e
theorem not_frozen_cell {o : Obj} {v} (h : o.data = .cell v) : ¬ Frozen o := by
  rintro (⟨-, xs, n, e⟩ | ⟨-, xs, e⟩ | e) <;> rw [h] at e <;> cases e
theorem not_frozen_list {ws n} : ¬ Frozen (lstOf ws n) := by
  rintro (⟨e, -⟩ | ⟨e, -⟩ | e)
  · simp at e
  · simp at e
  · cases e
theorem not_frozen_fields {o : Obj} {xs} (h : o.data = .fields xs) (hc : o.cls ≠ .type "range") : ¬ Frozen o := by
  rintro (⟨-, ys, n, e⟩ | ⟨c, -⟩ | e)
  · rw [h] at e; cases e
  · exact hc c
  · rw [h] at e; cases e

theorem Ext.refl (h : Heap) (ρ : Rho) : Ext h ρ ρ := ⟨[], by simp, by simp⟩
theorem Ext.trans {D : List Addr} {h h₁ : Heap} {ρ ρ₁ ρ₂ : Rho} (a : Ext h ρ ρ₁) (st : Step D h h₁) (b : Ext h₁ ρ₁ ρ₂) : Ext h ρ ρ₂ := by
  obtain ⟨r, rfl, hr⟩ := a
  obtain ⟨r', rfl, hr'⟩ := b
  refine ⟨r ++ r', by simp, fun p hp => ?_⟩
  rcases List.mem_append.mp hp with hp | hp
  · exact hr p hp
  · cases e : h.get? p.2 with
    | none => rfl
    | some o => obtain ⟨o', e'⟩ := st.live _ _ e; rw [hr' p hp] at e'; cases e'
theorem Ext.wr {h : Heap} {ρ ρ' : Rho} (a : Ext h ρ ρ') {b : Addr} {o : Obj} (hb : b ∈ Wr ρ') (e : h.get? b = some o) : b ∈ Wr ρ := by
  obtain ⟨r, rfl, hr⟩ := a
  unfold Wr at hb ⊢
  rw [List.map_append, List.mem_append] at hb
  rcases hb with hb | hb
  · exact hb
  · obtain ⟨p, hp, rfl⟩ := List.mem_map.mp hb
    rw [hr p hp] at e; cases e

theorem pre_get {ρ ρ' : Rho} (a : ρ <+: ρ') {i : Nat} {p} (e : ρ[i]? = some p) : ρ'[i]? = some p := by
  obtain ⟨r, rfl⟩ := a
  have : i < ρ.length := (List.getElem?_eq_some_iff.mp e).1
  rw [List.getElem?_append_left this]; exact e
theorem Ext.pre {h : Heap} {ρ ρ' : Rho} (a : Ext h ρ ρ') : ρ <+: ρ' := let ⟨r, e, _⟩ := a; ⟨r, e.symm⟩
theorem IsTuple.fz {D : List Addr} {h h' : Heap} {a items} (st : Step D h h') (t : h.IsTuple a items) : h'.IsTuple a items := by
  obtain ⟨o, ho, hc, n, hd⟩ := t
  exact ⟨o, st.fz a o (.inl ⟨hc, _, _, hd⟩) ho, hc, n, hd⟩

mutual
theorem VR.mono {x : X} {D : List Addr} {h h' : Heap} {ρ ρ' : Rho} (st : Step D h h') (ex : ρ <+: ρ') : ∀ {v : V} {w : Value}, VR x h ρ v w → VR x h' ρ' v w
  | .none, _, q => by simp only [VR] at q ⊢; exact q
  | .bool _, _, q => by simp only [VR] at q ⊢; exact q
  | .int _, _, q => by simp only [VR] at q ⊢; exact q
  | .str _, _, q => by simp only [VR] at q ⊢; exact q
  | .tup vs, _, q => by
    simp only [VR] at q ⊢
    obtain ⟨a, ws, rfl, ht, hv⟩ := q
    exact ⟨a, ws, rfl, IsTuple.fz st ht, VRs.mono st ex hv⟩
  | .ref _, _, q => by
    simp only [VR] at q ⊢
    obtain ⟨p, hp, rfl⟩ := q
    exact ⟨p, pre_get ex hp, rfl⟩
  | .rng _, _, q => by
    simp only [VR] at q ⊢
    obtain ⟨a, t, u, v, rfl, hr, hn⟩ := q
    exact ⟨a, t, u, v, rfl, st.fz _ _ (.inr (.inl ⟨rfl, _, rfl⟩)) hr, hn⟩
  | .dct _, _, q => by simp only [VR] at q ⊢; exact q
  | .ints _, _, q => by simp only [VR] at q ⊢; exact q
theorem VRs.mono {x : X} {D : List Addr} {h h' : Heap} {ρ ρ' : Rho} (st : Step D h h') (ex : ρ <+: ρ') : ∀ {v : List V} {w : List Value}, VRs x h ρ v w → VRs x h' ρ' v w
  | [], [], _ => by simp only [VRs]
  | v :: vs, w :: ws, q => by
    simp only [VRs] at q ⊢
    exact ⟨VR.mono st ex q.1, VRs.mono st ex q.2⟩
  | [], _ :: _, q => by simp only [VRs] at q
  | _ :: _, [], q => by simp only [VRs] at q
end
theorem FRs.mono {x : X} {D : List Addr} {h h' : Heap} {ρ ρ' : Rho} (st : Step D h h') (ex : ρ <+: ρ') : ∀ {v : List (Str × V)} {w : List DictEntry}, FRs x h ρ v w → FRs x h' ρ' v w
  | [], [], _ => by simp only [FRs]
  | (n, v) :: vs, w :: ws, q => by
    simp only [FRs] at q ⊢
    exact ⟨q.1, VR.mono st ex q.2.1, FRs.mono st ex q.2.2⟩
  | [], _ :: _, q => by simp only [FRs] at q
  | _ :: _, [], q => by simp only [FRs] at q

structure StepK (D : List Addr) (h h' : Heap) : Prop where
  keep : ∀ b o, b ∉ D → h.get? b = some o → h'.get? b = some o
  fz : ∀ b o, Frozen o → h.get? b = some o → h'.get? b = some o
theorem IsTuple.fzK {D : List Addr} {h h' : Heap} {a items} (st : StepK D h h') (t : h.IsTuple a items) : h'.IsTuple a items := by
  obtain ⟨o, ho, hc, n, hd⟩ := t
  exact ⟨o, st.fz a o (.inl ⟨hc, _, _, hd⟩) ho, hc, n, hd⟩
mutual
theorem VR.monoK {x : X} {D : List Addr} {h h' : Heap} {ρ ρ' : Rho} (st : StepK D h h') (ex : ρ <+: ρ') : ∀ {v : V} {w : Value}, VR x h ρ v w → VR x h' ρ' v w
  | .none, _, q => by simp only [VR] at q ⊢; exact q
  | .bool _, _, q => by simp only [VR] at q ⊢; exact q
  | .int _, _, q => by simp only [VR] at q ⊢; exact q
  | .str _, _, q => by simp only [VR] at q ⊢; exact q
  | .tup vs, _, q => by
    simp only [VR] at q ⊢
    obtain ⟨a, ws, rfl, ht, hv⟩ := q
    exact ⟨a, ws, rfl, IsTuple.fzK st ht, VRs.monoK st ex hv⟩
  | .ref _, _, q => by
    simp only [VR] at q ⊢
    obtain ⟨p, hp, rfl⟩ := q
    exact ⟨p, pre_get ex hp, rfl⟩
  | .rng _, _, q => by
    simp only [VR] at q ⊢
    obtain ⟨a, t, u, v, rfl, hr, hn⟩ := q
    exact ⟨a, t, u, v, rfl, st.fz _ _ (.inr (.inl ⟨rfl, _, rfl⟩)) hr, hn⟩
  | .dct _, _, q => by simp only [VR] at q ⊢; exact q
  | .ints _, _, q => by simp only [VR] at q ⊢; exact q
theorem VRs.monoK {x : X} {D : List Addr} {h h' : Heap} {ρ ρ' : Rho} (st : StepK D h h') (ex : ρ <+: ρ') : ∀ {v : List V} {w : List Value}, VRs x h ρ v w → VRs x h' ρ' v w
  | [], [], _ => by simp only [VRs]
  | v :: vs, w :: ws, q => by
    simp only [VRs] at q ⊢
    exact ⟨VR.monoK st ex q.1, VRs.monoK st ex q.2⟩
  | [], _ :: _, q => by simp only [VRs] at q
  | _ :: _, [], q => by simp only [VRs] at q
end
theorem FRs.monoK {x : X} {D : List Addr} {h h' : Heap} {ρ ρ' : Rho} (st : StepK D h h') (ex : ρ <+: ρ') : ∀ {v : List (Str × V)} {w : List DictEntry}, FRs x h ρ v w → FRs x h' ρ' v w
  | [], [], _ => by simp only [FRs]
  | (n, v) :: vs, w :: ws, q => by
    simp only [FRs] at q ⊢
    exact ⟨q.1, VR.monoK st ex q.2.1, FRs.monoK st ex q.2.2⟩
  | [], _ :: _, q => by simp only [FRs] at q
  | _ :: _, [], q => by simp only [FRs] at q

theorem VRs.length {x : X} {h : Heap} {ρ : Rho} : ∀ {vs : List V} {ws : List Value}, VRs x h ρ vs ws → vs.length = ws.length
  | [], [], _ => rfl
  | v :: vs, w :: ws, q => by simp only [VRs] at q; simp [VRs.length q.2]
  | [], _ :: _, q => by simp only [VRs] at q
  | _ :: _, [], q => by simp only [VRs] at q
theorem VRs.get {x : X} {h : Heap} {ρ : Rho} : ∀ {vs : List V} {ws : List Value} {i : Nat} {v : V}, VRs x h ρ vs ws → vs[i]? = some v → ∃ w, ws[i]? = some w ∧ VR x h ρ v w
  | [], [], _, _, _, e => by simp at e
  | v :: vs, w :: ws, 0, v', q, e => by
    simp only [VRs] at q; simp only [List.getElem?_cons_zero, Option.some.injEq] at e; subst e
    exact ⟨w, rfl, q.1⟩
  | v :: vs, w :: ws, i + 1, v', q, e => by
    simp only [VRs] at q; simp only [List.getElem?_cons_succ] at e ⊢
    exact VRs.get q.2 e
  | [], _ :: _, _, _, q, _ => by simp only [VRs] at q
  | _ :: _, [], _, _, q, _ => by simp only [VRs] at q
theorem VRs.append {x : X} {h : Heap} {ρ : Rho} : ∀ {vs us : List V} {ws zs : List Value}, VRs x h ρ vs ws → VRs x h ρ us zs → VRs x h ρ (vs ++ us) (ws ++ zs)
  | [], us, [], zs, _, q => q
  | v :: vs, us, w :: ws, zs, p, q => by
    simp only [VRs, List.cons_append] at p ⊢
    exact ⟨p.1, VRs.append p.2 q⟩
  | [], _, _ :: _, _, q, _ => by simp only [VRs] at q
  | _ :: _, _, [], _, q, _ => by simp only [VRs] at q
theorem VRs.set {x : X} {h : Heap} {ρ : Rho} : ∀ {vs : List V} {ws : List Value} {i : Nat} {v : V} {w : Value}, VRs x h ρ vs ws → VR x h ρ v w → VRs x h ρ (vs.set i v) (ws.set i w)
  | [], [], _, _, _, _, _ => by simp [VRs]
  | v :: vs, w :: ws, 0, v', w', q, e => by
    simp only [VRs, List.set_cons_zero] at q ⊢
    exact ⟨e, q.2⟩
  | v :: vs, w :: ws, i + 1, v', w', q, e => by
    simp only [VRs, List.set_cons_succ] at q ⊢
    exact ⟨q.1, VRs.set q.2 e⟩
  | [], _ :: _, _, _, _, q, _ => by simp only [VRs] at q
  | _ :: _, [], _, _, _, q, _ => by simp only [VRs] at q
theorem VRs.one {x : X} {h : Heap} {ρ : Rho} {v : V} {w : Value} (q : VR x h ρ v w) : VRs x h ρ [v] [w] := by simp only [VRs]; exact ⟨q, trivial⟩

theorem OR.mono {x : X} {D : List Addr} {h h' : Heap} {ρ ρ' : Rho} (st : Step D h h') (ex : ρ <+: ρ') {p : Addr × Addr} (hp : p.2 ∉ D) : ∀ {ob : Ob}, OR x h ρ p ob → OR x h' ρ' p ob
  | .list vs, q => by
    simp only [OR] at q ⊢
    obtain ⟨e, ws, n, hg, hv⟩ := q
    exact ⟨e, ws, n, st.keep _ _ hp hg, VRs.mono st ex hv⟩
  | .inst c fs, q => by
    simp only [OR] at q ⊢
    obtain ⟨C, es, n, hC, h1, h2, hf⟩ := q
    exact ⟨C, es, n, hC, st.fz _ _ (.inr (.inr rfl)) h1, st.keep _ _ hp h2, FRs.mono st ex hf⟩

theorem OR.monoK {x : X} {D : List Addr} {h h' : Heap} {ρ ρ' : Rho} (st : StepK D h h') (ex : ρ <+: ρ') {p : Addr × Addr} (hp : p.2 ∉ D) : ∀ {ob : Ob}, OR x h ρ p ob → OR x h' ρ' p ob
  | .list vs, q => by
    simp only [OR] at q ⊢
    obtain ⟨e, ws, n, hg, hv⟩ := q
    exact ⟨e, ws, n, st.keep _ _ hp hg, VRs.monoK st ex hv⟩
  | .inst c fs, q => by
    simp only [OR] at q ⊢
    obtain ⟨C, es, n, hC, h1, h2, hf⟩ := q
    exact ⟨C, es, n, hC, st.fz _ _ (.inr (.inr rfl)) h1, st.keep _ _ hp h2, FRs.monoK st ex hf⟩

theorem mem_wr {ρ : Rho} {i : Nat} {p} (e : ρ[i]? = some p) : p.2 ∈ Wr ρ := by
  have := List.mem_of_getElem? e
  exact List.mem_map_of_mem this
theorem wr_get {ρ : Rho} {i : Nat} {p} (e : ρ[i]? = some p) : (Wr ρ)[i]? = some p.2 := by
  unfold Wr; rw [List.getElem?_map, e]; rfl

theorem Gd.step {x : X} {D : List Addr} {h h' : Heap} {ρ : Rho} {os : Obs} (g : Gd x ρ os h) (st : Step D h h') (hd : ∀ a ∈ D, a ∉ Wr ρ) (hb : ∀ a ∈ D, x.hB.get? a = none) : Gd x ρ os h' :=
  ⟨fun b o e => st.keep b o (fun q => by rw [hb b q] at e; cases e) (g.base b o e), g.len,
    fun i p ob hp ho => OR.mono st (List.prefix_refl ρ) (fun q => hd _ q (mem_wr hp)) (g.obj i p ob hp ho), g.off, g.nd⟩

theorem Gd.grow {x : X} {h : Heap} {ρ : Rho} {os : Obs} {p : Addr × Addr} {ob : Ob} (g : Gd x ρ os h) (ho : OR x h (ρ ++ [p]) p ob) (hb : x.hB.get? p.2 = none) (hn : p.2 ∉ Wr ρ) : Gd x (ρ ++ [p]) (os ++ [ob]) h := by
  have ex : ρ <+: (ρ ++ [p]) := ⟨[p], rfl⟩
  refine ⟨g.base, by simp [g.len], fun i q ob' hq ho' => ?_, fun a ha => ?_, ?_⟩
  · by_cases hi : i < ρ.length
    · rw [List.getElem?_append_left hi] at hq
      rw [List.getElem?_append_left (by rw [← g.len]; exact hi)] at ho'
      exact OR.mono (D := []) (Step.refl _ _) ex (by simp) (g.obj i q ob' hq ho')
    · have hl := (List.getElem?_eq_some_iff.mp hq).1
      simp only [List.length_append, List.length_singleton] at hl
      have e : i = ρ.length := by omega
      subst e
      rw [List.getElem?_append_right (Nat.le_refl _)] at hq
      rw [g.len, List.getElem?_append_right (Nat.le_refl _)] at ho'
      simp only [Nat.sub_self, List.getElem?_cons_zero, Option.some.injEq] at hq ho'
      subst hq; subst ho'; exact ho
  · unfold Wr at ha
    rw [List.map_append, List.mem_append] at ha
    rcases ha with ha | ha
    · exact g.off a ha
    · simp only [List.map_cons, List.map_nil, List.mem_singleton] at ha; subst ha; exact hb
  · unfold Wr
    rw [List.map_append, List.nodup_append]
    exact ⟨g.nd, by simp, fun a ha b hb' => by
      simp only [List.map_cons, List.map_nil, List.mem_singleton] at hb'; subst hb'
      rintro rfl; exact hn ha⟩

theorem Gd.write {x : X} {h h' : Heap} {ρ : Rho} {os : Obs} {i : Nat} {p : Addr × Addr} {ob : Ob} (g : Gd x ρ os h) (hp : ρ[i]? = some p) (st : Step [p.2] h h') (ho : OR x h' ρ p ob) : Gd x ρ (os.set i ob) h' := by
  refine ⟨fun b o e => st.keep b o (fun q => ?_) (g.base b o e), by simp [g.len], fun j q ob' hq ho' => ?_, g.off, g.nd⟩
  · simp only [List.mem_singleton] at q; subst q
    rw [g.off _ (mem_wr hp)] at e; cases e
  · by_cases hij : i = j
    · subst hij
      rw [hp] at hq; cases hq
      rw [List.getElem?_set_self (by have := (List.getElem?_eq_some_iff.mp hp).1; rw [← g.len]; exact this)] at ho'
      cases ho'; exact ho
    · rw [List.getElem?_set_ne hij] at ho'
      refine OR.mono st (List.prefix_refl ρ) (fun q' => ?_) (g.obj j q ob' hq ho')
      simp only [List.mem_singleton] at q'
      have a1 := wr_get hp
      have a2 := wr_get hq
      rw [q', ← a1] at a2
      have hl1 := (List.getElem?_eq_some_iff.mp (wr_get hp)).1
      have := (List.getElem?_inj hl1 g.nd).mp a2.symm
      exact hij this

theorem mv_new {x : X} {D : List Addr} {ρ : Rho} {o : Obs} {s : Shared} (g : Gd x ρ o s.heap) : Mv x D ρ s ρ o s := ⟨⟨s.toks, rfl⟩, Ext.refl _ _, g, Step.refl _ _⟩
theorem Mv.trans {x : X} {D : List Addr} {ρ ρ₁ ρ₂ : Rho} {s s₁ s₂ : Shared} {o₁ o₂ : Obs} (a : Mv x D ρ s ρ₁ o₁ s₁) (b : Mv x D ρ₁ s₁ ρ₂ o₂ s₂) : Mv x D ρ s ρ₂ o₂ s₂ := by
  obtain ⟨tk, e⟩ := a.eq
  obtain ⟨tk', e'⟩ := b.eq
  refine ⟨⟨tk', by rw [e', e]⟩, a.ext.trans a.step b.ext, b.good, ?_⟩
  refine ⟨fun c o n e => b.step.keep c o (fun q => ?_) (a.step.keep c o n e), fun c o f e => b.step.fz c o f (a.step.fz c o f e), fun c o e => let ⟨o', e'⟩ := a.step.live c o e; b.step.live c o' e'⟩
  simp only [List.mem_append] at n q
  rcases q with q | q
  · exact n (.inl q)
  · exact n (.inr (a.ext.wr q e))
theorem Mv.wide {x : X} {D D' : List Addr} {ρ ρ₁ : Rho} {s s₁ : Shared} {o₁ : Obs} (a : Mv x D ρ s ρ₁ o₁ s₁) (hd : ∀ b o, b ∈ D → s.heap.get? b = some o → b ∈ D') : Mv x D' ρ s ρ₁ o₁ s₁ :=
  ⟨a.eq, a.ext, a.good, a.step.mono fun b o q e => by
    rcases List.mem_append.mp q with q | q
    · exact List.mem_append.mpr (.inl (hd b o q e))
    · exact List.mem_append.mpr (.inr q)⟩
theorem Mv.any {x : X} {D : List Addr} {ρ ρ₁ : Rho} {s s₁ : Shared} {o₁ : Obs} (a : Mv x [] ρ s ρ₁ o₁ s₁) : Mv x D ρ s ρ₁ o₁ s₁ := a.wide fun _ _ q => by cases q
theorem Mv.vr {x : X} {D : List Addr} {ρ ρ₁ : Rho} {s s₁ : Shared} {o₁ : Obs} (a : Mv x D ρ s ρ₁ o₁ s₁) {v w} (q : VR x s.heap ρ v w) : VR x s₁.heap ρ₁ v w := VR.mono a.step a.ext.pre q
theorem Mv.vrs {x : X} {D : List Addr} {ρ ρ₁ : Rho} {s s₁ : Shared} {o₁ : Obs} (a : Mv x D ρ s ρ₁ o₁ s₁) {v w} (q : VRs x s.heap ρ v w) : VRs x s₁.heap ρ₁ v w := VRs.mono a.step a.ext.pre q
theorem mv_tok {x : X} {D : List Addr} {ρ : Rho} {o : Obs} {s : Shared} (g : Gd x ρ o s.heap) (tk : Tok) : Mv x D ρ s ρ o { s with toks := tk } := ⟨⟨tk, rfl⟩, Ext.refl _ _, g, Step.refl _ _⟩
theorem mv_push {x : X} {D : List Addr} {ρ : Rho} {o : Obs} {s : Shared} (g : Gd x ρ o s.heap) (ob : Obj) (tk : Tok) : Mv x D ρ s ρ o { s with heap := s.heap.push ob, toks := tk } :=
  ⟨⟨tk, rfl⟩, Ext.refl _ _, g.step (D := []) (Step.push _ _ _) (by simp) (by simp), Step.push _ _ _⟩
theorem mv_side {x : X} {D : List Addr} {ρ : Rho} {o : Obs} {s : Shared} {h' : Heap} (g : Gd x ρ o s.heap) (st : Step [] s.heap h') (tk : Tok) : Mv x D ρ s ρ o { s with heap := h', toks := tk } :=
  ⟨⟨tk, rfl⟩, Ext.refl _ _, g.step st (by simp) (by simp), st.mono (by simp)⟩
theorem mv_write {x : X} {D : List Addr} {ρ : Rho} {o : Obs} {s : Shared} {h' : Heap} {i : Nat} {p : Addr × Addr} {ob : Ob} (g : Gd x ρ o s.heap) (hp : ρ[i]? = some p) (st : Step [p.2] s.heap h') (ho : OR x h' ρ p ob) (tk : Tok) :
    Mv x D ρ s ρ (o.set i ob) { s with heap := h', toks := tk } :=
  ⟨⟨tk, rfl⟩, Ext.refl _ _, g.write hp st ho, st.mono fun b _ q _ => by simp only [List.mem_singleton] at q; subst q; exact List.mem_append.mpr (.inr (mem_wr hp))⟩
theorem mv_grow {x : X} {D : List Addr} {ρ : Rho} {o : Obs} {s : Shared} {h' : Heap} {p : Addr × Addr} {ob : Ob} (g : Gd x ρ o s.heap) (st : Step [] s.heap h') (hf : s.heap.get? p.2 = none) (ho : OR x h' (ρ ++ [p]) p ob) (tk : Tok) :
    Mv x D ρ s (ρ ++ [p]) (o ++ [ob]) { s with heap := h', toks := tk } := by
  have nb : x.hB.get? p.2 = none := by
    cases e : x.hB.get? p.2 with
    | none => rfl
    | some o' => rw [g.base _ _ e] at hf; cases hf
  have nw : p.2 ∉ Wr ρ := fun q => by
    obtain ⟨i, hi, e⟩ := List.mem_iff_getElem.mp q
    have hi' : i < ρ.length := by simpa [Wr] using hi
    have e1 : (ρ[i]).2 = p.2 := by simpa [Wr] using e
    have e2 : ρ[i]? = some ρ[i] := List.getElem?_eq_getElem hi'
    have e3 : o[i]? = some (o[i]'(by rw [← g.len]; exact hi')) := List.getElem?_eq_getElem _
    have := g.obj i _ _ e2 e3
    cases q2 : o[i]'(by rw [← g.len]; exact hi') with
    | list vs => rw [q2] at this; simp only [OR] at this; obtain ⟨-, ws, n, hg, -⟩ := this; rw [e1, hf] at hg; cases hg
    | inst c fs => rw [q2] at this; simp only [OR] at this; obtain ⟨C, es, n, -, -, hg, -⟩ := this; rw [e1, hf] at hg; cases hg
  refine ⟨⟨tk, rfl⟩, ⟨[p], rfl, fun q hq => by simp only [List.mem_singleton] at hq; subst hq; exact hf⟩, ?_, st.mono (by simp)⟩
  exact (g.step st (by simp) (by simp)).grow ho nb nw

theorem LR.mv {x : X} {env : Env} {ρ ρ₁ : Rho} {l : Loc} {s s₁ : Shared} {o₁ : Obs} (L : LR x env ρ l s.heap) (a : Mv x [] ρ s ρ₁ o₁ s₁) : LR x env ρ₁ l s₁.heap := by
  have k : ∀ b ∈ own env, ∀ o, s.heap.get? b = some o → s₁.heap.get? b = some o := fun b hb o e => a.step.keep b o (by simpa using L.offW b hb) e
  have hc : ∀ y c, env.cells.lookup y = some c → c ∈ own env := fun y c e => by
    unfold own
    refine List.mem_cons_of_mem _ ?_
    obtain ⟨l₁, l₂, q, -⟩ := List.lookup_eq_some_iff.mp e
    rw [q]; simp
  refine ⟨?_, fun y v e kd => ?_, fun y c e => ?_, L.one, fun b hb q => ?_, L.offB, fun b hb => ?_⟩
  · obtain ⟨m, ⟨o, es, ep, ho, hd, hk, hm⟩, hv⟩ := L.ns
    refine ⟨m, ⟨o, es, ep, k _ (by simp [own]) _ ho, hd, hk, hm⟩, fun y v e kd => ?_⟩
    obtain ⟨w, hw, q⟩ := hv y v e kd
    exact ⟨w, hw, a.vr q⟩
  · obtain ⟨c, o, w, h1, h2, h3, h4⟩ := L.cell y v e kd
    exact ⟨c, o, w, h1, k _ (hc y c h1) _ h2, h3, a.vr h4⟩
  · obtain ⟨o, v, h1, h2⟩ := L.live y c e
    exact ⟨o, v, k _ (hc y c e) _ h1, h2⟩
  · obtain ⟨o, e⟩ := L.livs b hb
    exact L.offW b hb (a.ext.wr q e)
  · obtain ⟨o, e⟩ := L.livs b hb
    exact ⟨o, k b hb o e⟩

end Mine
end

section
open PySem
set_option linter.unusedVariables false
namespace Mine

noncomputable def b_Word_init (c : Cfg) : SM := (thenS (setAttrM (locM "self") "kind" (locM "kind"))
  (thenS (setAttrM (locM "self") "text" (locM "text"))
  (thenS (setAttrM (locM "self") "line" (locM "line"))
  (thenS (setAttrM (locM "self") "column" (locM "column"))
  (thenS (setAttrM (locM "self") "value" (locM "value"))
  (thenS (setAttrM (locM "self") "is_first" (locM "is_first"))
  (thenS (setAttrM (locM "self") "end" (locM "end"))
  nextS)))))))

noncomputable def b_Word_place (c : Cfg) : SM := (thenS (retM (tupM [(attrM (locM "self") "line"), (attrM (locM "self") "column")]))
  nextS)

noncomputable def b_Signs_init (c : Cfg) : SM := (thenS (setAttrM (locM "self") "text" (locM "text"))
  (thenS (setAttrM (locM "self") "at" (retE (.int 0)))
  (thenS (setAttrM (locM "self") "line" (retE (.int 1)))
  (thenS (setAttrM (locM "self") "column" (retE (.int 1)))
  nextS))))

noncomputable def b_Signs_sign (c : Cfg) : SM := (thenS (assignM "place" (binM .Add (attrM (locM "self") "at") (locM "ahead")))
  (thenS (retM (iteM (testM (cmpM .Lt (locM "place") (bltM "len" [(attrM (locM "self") "text")]))) (subM (attrM (locM "self") "text") (locM "place")) (retE (.str (Str.ofString "").cps.toList))))
  nextS))

noncomputable def b_Signs_starts (c : Cfg) : SM := (thenS (retM (cmpM .Eq (sliceM (attrM (locM "self") "text") (attrM (locM "self") "at") (binM .Add (attrM (locM "self") "at") (bltM "len" [(locM "some")]))) (locM "some")))
  nextS)

noncomputable def b_Signs_step (c : Cfg) : SM := (thenS (assignM "found" (methM c "sign" (locM "self") []))
  (thenS (augAttrM (locM "self") "at" .Add (retE (.int 1)))
  (thenS (ifM (orT [(andT [(testM (cmpM .NotEq (locM "found") (retE (.str (Str.ofString "").cps.toList)))), (testM (cmpM .In (locM "found") (retE (.str (Str.ofString "\n\x0c").cps.toList))))]), (andT [(testM (cmpM .Eq (locM "found") (retE (.str (Str.ofString "\r").cps.toList)))), (testM (cmpM .NotEq (methM c "sign" (locM "self") []) (retE (.str (Str.ofString "\n").cps.toList))))])]) (thenS (augAttrM (locM "self") "line" .Add (retE (.int 1)))
  (thenS (setAttrM (locM "self") "column" (retE (.int 1)))
  nextS)) (thenS (ifM (testM (cmpM .Eq (locM "found") (retE (.str (Str.ofString "\t").cps.toList)))) (thenS (setAttrM (locM "self") "column" (binM .Add (binM .Add (binM .Mult (binM .FloorDiv (binM .Sub (attrM (locM "self") "column") (retE (.int 1))) (globM c "TAB")) (globM c "TAB")) (globM c "TAB")) (retE (.int 1))))
  nextS) (thenS (augAttrM (locM "self") "column" .Add (retE (.int 1)))
  nextS))
  nextS))
  (thenS (retM (locM "found"))
  nextS))))

noncomputable def b_Signs_take (c : Cfg) : SM := (thenS (assignM "begin" (attrM (locM "self") "at"))
  (thenS (whileM c (andT [(testM (cmpM .NotEq (methM c "sign" (locM "self") []) (retE (.str (Str.ofString "").cps.toList)))), (testM (cmpM .In (methM c "sign" (locM "self") []) (locM "letters")))]) (thenS (exprM (methM c "step" (locM "self") []))
  nextS))
  (thenS (retM (sliceM (attrM (locM "self") "text") (locM "begin") (attrM (locM "self") "at")))
  nextS)))

noncomputable def b_Signs_place (c : Cfg) : SM := (thenS (retM (tupM [(attrM (locM "self") "line"), (attrM (locM "self") "column")]))
  nextS)

noncomputable def b_is_among (c : Cfg) : SM := (thenS (retM (andM [(cmpM .NotEq (locM "sign") (retE (.str (Str.ofString "").cps.toList))), (cmpM .In (locM "sign") (locM "letters"))]))
  nextS)

noncomputable def b_is_bare (c : Cfg) : SM := (thenS (retM (andM [(cmpM .NotEq (locM "sign") (retE (.str (Str.ofString "").cps.toList))), (cmpM .GtE (bltM "ord" [(locM "sign")]) (retE (.int 32))), (cmpM .NotEq (bltM "ord" [(locM "sign")]) (globM c "DELETE"))]))
  nextS)

noncomputable def b_name_letters (c : Cfg) : SM := (thenS (retM (binM .Add (binM .Add (binM .Add (globM c "SMALL") (globM c "GREAT")) (globM c "DIGITS")) (retE (.str (Str.ofString "'").cps.toList))))
  nextS)

noncomputable def b_is_line_comment (c : Cfg) : SM := (thenS (ifM (notT (testM (methM c "starts" (locM "signs") [(retE (.str (Str.ofString "--").cps.toList))]))) (thenS (retM (retE (.bool false)))
  nextS) nextS)
  (thenS (assignM "ahead" (retE (.int 2)))
  (thenS (whileM c (testM (cmpM .Eq (methM c "sign" (locM "signs") [(locM "ahead")]) (retE (.str (Str.ofString "-").cps.toList)))) (thenS (augNameM "ahead" .Add (retE (.int 1)))
  nextS))
  (thenS (retM (boolM (notT (testM (funM c "is_symbol" [(methM c "sign" (locM "signs") [(locM "ahead")])])))))
  nextS))))

noncomputable def b_skip_between (c : Cfg) : SM := (thenS (assignM "line" (attrM (locM "signs") "line"))
  (thenS (assignM "going" (retE (.bool true)))
  (thenS (whileM c (testM (locM "going")) (thenS (ifM (testM (funM c "is_among" [(methM c "sign" (locM "signs") []), (retE (.str (Str.ofString " \t\n\r\x0c\x0b").cps.toList))])) (thenS (exprM (methM c "step" (locM "signs") []))
  nextS) (thenS (ifM (testM (funM c "is_line_comment" [(locM "signs")])) (thenS (whileM c (testM (cmpM .NotIn (methM c "sign" (locM "signs") []) (tupM [(retE (.str (Str.ofString "").cps.toList)), (retE (.str (Str.ofString "\n").cps.toList)), (retE (.str (Str.ofString "\r").cps.toList)), (retE (.str (Str.ofString "\x0c").cps.toList))]))) (thenS (exprM (methM c "step" (locM "signs") []))
  nextS))
  nextS) (thenS (ifM (testM (methM c "starts" (locM "signs") [(retE (.str (Str.ofString "{-").cps.toList))])) (thenS (exprM (funM c "skip_nested" [(locM "signs")]))
  nextS) (thenS (assignM "going" (retE (.bool false)))
  nextS))
  nextS))
  nextS))
  nextS))
  (thenS (retM (cmpM .Gt (attrM (locM "signs") "line") (locM "line")))
  nextS))))

noncomputable def b_number_of (c : Cfg) : SM := (thenS (assignM "found" (retE (.int 0)))
  (thenS (forM c (some (.one "digit")) (locM "digits") (thenS (assignM "found" (binM .Add (binM .Mult (locM "found") (locM "base")) (methM c "index" (retE (.str (Str.ofString "0123456789abcdef").cps.toList)) [(methM c "lower" (locM "digit") [])])))
  (thenS (ifM (testM (cmpM .GtE (locM "found") (globM c "TOO_GREAT"))) (thenS failS
  nextS) nextS)
  nextS)))
  (thenS (retM (locM "found"))
  nextS)))

noncomputable def b_checked_sign (c : Cfg) : SM := (thenS (ifM (testM (cmpM .Gt (locM "number") (globM c "MOST_SIGN"))) (thenS failS
  nextS) nextS)
  (thenS (retM (bltM "chr" [(locM "number")]))
  nextS))

noncomputable def b_named_escape (c : Cfg) : SM := (thenS (unpackM ["best", "number"] (tupM [(retE (.str (Str.ofString "").cps.toList)), (retE .none)]))
  (thenS (forM c (some (.one "at")) (bltM "range" [(bltM "len" [(globM c "NAMED_ESCAPES")])]) (thenS (ifM (andT [(testM (methM c "starts" (locM "signs") [(subM (globM c "NAMED_ESCAPES") (locM "at"))])), (testM (cmpM .Gt (bltM "len" [(subM (globM c "NAMED_ESCAPES") (locM "at"))]) (bltM "len" [(locM "best")])))]) (thenS (swapM ["best", "number"] (tupM [(subM (globM c "NAMED_ESCAPES") (locM "at")), (locM "at")]))
  nextS) nextS)
  nextS))
  (thenS (ifM (testM (methM c "starts" (locM "signs") [(retE (.str (Str.ofString "DEL").cps.toList))])) (thenS (swapM ["best", "number"] (tupM [(retE (.str (Str.ofString "DEL").cps.toList)), (globM c "DELETE")]))
  nextS) nextS)
  (thenS (forM c (some (.one "turn")) (bltM "range" [(bltM "len" [(locM "best")])]) (thenS (exprM (methM c "step" (locM "signs") []))
  nextS))
  (thenS (retM (iteM (testM (cmpM .Is (locM "number") (retE .none))) (retE .none) (bltM "chr" [(locM "number")])))
  nextS)))))

noncomputable def b_read_escape (c : Cfg) : SM := (thenS (assignM "place" (methM c "place" (locM "signs") []))
  (thenS (assignM "sign" (methM c "sign" (locM "signs") []))
  (thenS (ifM (testM (funM c "is_among" [(locM "sign"), (globM c "DIGITS")])) (thenS (retM (funM c "checked_sign" [(funM c "number_of" [(methM c "take" (locM "signs") [(globM c "DIGITS")]), (retE (.int 10)), (locM "place")]), (locM "place")]))
  nextS) nextS)
  (thenS (forM c (some (.many ["letter", "letters", "base"])) (tupM [(tupM [(retE (.str (Str.ofString "x").cps.toList)), (binM .Add (globM c "DIGITS") (retE (.str (Str.ofString "abcdefABCDEF").cps.toList))), (retE (.int 16))]), (tupM [(retE (.str (Str.ofString "o").cps.toList)), (retE (.str (Str.ofString "01234567").cps.toList)), (retE (.int 8))])]) (thenS (ifM (andT [(testM (cmpM .Eq (locM "sign") (locM "letter"))), (testM (funM c "is_among" [(methM c "sign" (locM "signs") [(retE (.int 1))]), (locM "letters")]))]) (thenS (exprM (methM c "step" (locM "signs") []))
  (thenS (retM (funM c "checked_sign" [(funM c "number_of" [(methM c "take" (locM "signs") [(locM "letters")]), (locM "base"), (locM "place")]), (locM "place")]))
  nextS)) nextS)
  nextS))
  (thenS (ifM (andT [(testM (cmpM .Eq (locM "sign") (retE (.str (Str.ofString "^").cps.toList)))), (testM (cmp2M .LtE .LtE (retE (.str (Str.ofString "@").cps.toList)) (methM c "sign" (locM "signs") [(retE (.int 1))]) (retE (.str (Str.ofString "_").cps.toList))))]) (thenS (exprM (methM c "step" (locM "signs") []))
  (thenS (retM (bltM "chr" [(binM .Sub (bltM "ord" [(methM c "step" (locM "signs") [])]) (retE (.int 64)))]))
  nextS)) nextS)
  (thenS (ifM (andT [(testM (cmpM .NotEq (locM "sign") (retE (.str (Str.ofString "").cps.toList)))), (testM (cmpM .In (locM "sign") (globM c "PLAIN_ESCAPES")))]) (thenS (exprM (methM c "step" (locM "signs") []))
  (thenS (retM (bltM "chr" [(subM (globM c "PLAIN_ESCAPES") (locM "sign"))]))
  nextS)) nextS)
  (thenS (assignM "found" (funM c "named_escape" [(locM "signs")]))
  (thenS (ifM (testM (cmpM .Is (locM "found") (retE .none))) (thenS failS
  nextS) nextS)
  (thenS (retM (locM "found"))
  nextS)))))))))

noncomputable def b_read_char (c : Cfg) : SM := (thenS (assignM "place" (methM c "place" (locM "signs") []))
  (thenS (exprM (methM c "step" (locM "signs") []))
  (thenS (assignM "sign" (methM c "step" (locM "signs") []))
  (thenS (ifM (orT [(notT (testM (funM c "is_bare" [(locM "sign")]))), (testM (cmpM .Eq (locM "sign") (retE (.str (Str.ofString "'").cps.toList))))]) (thenS failS
  nextS) nextS)
  (thenS (ifM (testM (cmpM .Eq (locM "sign") (retE (.str (Str.ofString "\\").cps.toList)))) (thenS (assignM "sign" (funM c "read_escape" [(locM "signs")]))
  nextS) nextS)
  (thenS (ifM (testM (cmpM .NotEq (methM c "step" (locM "signs") []) (retE (.str (Str.ofString "'").cps.toList)))) (thenS failS
  nextS) nextS)
  (thenS (retM (locM "sign"))
  nextS)))))))

noncomputable def b_read_text (c : Cfg) : SM := (thenS (assignM "place" (methM c "place" (locM "signs") []))
  (thenS (exprM (methM c "step" (locM "signs") []))
  (thenS (assignM "found" (listM []))
  (thenS (whileM c (testM (cmpM .NotEq (methM c "sign" (locM "signs") []) (retE (.str (Str.ofString "\"").cps.toList)))) (thenS (assignM "sign" (methM c "step" (locM "signs") []))
  (thenS (ifM (notT (testM (funM c "is_bare" [(locM "sign")]))) (thenS failS
  nextS) nextS)
  (thenS (ifM (testM (cmpM .NotEq (locM "sign") (retE (.str (Str.ofString "\\").cps.toList)))) (thenS (exprM (methM c "append" (locM "found") [(locM "sign")]))
  nextS) (thenS (ifM (testM (cmpM .Eq (methM c "sign" (locM "signs") []) (retE (.str (Str.ofString "&").cps.toList)))) (thenS (exprM (methM c "step" (locM "signs") []))
  nextS) (thenS (ifM (testM (funM c "is_among" [(methM c "sign" (locM "signs") []), (retE (.str (Str.ofString " \t\n\r\x0c\x0b").cps.toList))])) (thenS (exprM (funM c "skip_gap" [(locM "signs"), (locM "place")]))
  nextS) (thenS (exprM (methM c "append" (locM "found") [(funM c "read_escape" [(locM "signs")])]))
  nextS))
  nextS))
  nextS))
  nextS))))
  (thenS (exprM (methM c "step" (locM "signs") []))
  (thenS (retM (methM c "join" (retE (.str (Str.ofString "").cps.toList)) [(locM "found")]))
  nextS))))))

noncomputable def b_symbol_kind (c : Cfg) : SM := (thenS (ifM (testM (cmpM .In (locM "text") (globM c "OPS"))) (thenS (retM (retE (.str (Str.ofString "op").cps.toList)))
  nextS) nextS)
  (thenS (retM (iteM (testM (cmpM .Eq (subM (locM "text") (retE (.int 0))) (retE (.str (Str.ofString ":").cps.toList)))) (retE (.str (Str.ofString "consym").cps.toList)) (retE (.str (Str.ofString "varsym").cps.toList))))
  nextS))

noncomputable def b_read_word (c : Cfg) : SM := (thenS (assignM "sign" (methM c "sign" (locM "signs") []))
  (thenS (ifM (testM (cmpM .Eq (locM "sign") (retE (.str (Str.ofString "").cps.toList)))) (thenS (retM (tupM [(retE (.str (Str.ofString "end").cps.toList)), (retE (.str (Str.ofString "").cps.toList)), (retE .none)]))
  nextS) nextS)
  (thenS (ifM (testM (funM c "is_among" [(locM "sign"), (globM c "SPECIALS")])) (thenS (retM (tupM [(retE (.str (Str.ofString "special").cps.toList)), (methM c "step" (locM "signs") []), (retE .none)]))
  nextS) nextS)
  (thenS (ifM (testM (funM c "is_among" [(locM "sign"), (globM c "DIGITS")])) (thenS (assignM "begin" (attrM (locM "signs") "at"))
  (thenS (assignM "value" (funM c "read_number" [(locM "signs")]))
  (thenS (retM (tupM [(retE (.str (Str.ofString "int").cps.toList)), (sliceM (attrM (locM "signs") "text") (locM "begin") (attrM (locM "signs") "at")), (locM "value")]))
  nextS))) nextS)
  (thenS (ifM (testM (funM c "is_among" [(locM "sign"), (globM c "SMALL")])) (thenS (assignM "name" (methM c "take" (locM "signs") [(funM c "name_letters" [])]))
  (thenS (retM (tupM [(iteM (testM (cmpM .In (locM "name") (globM c "KEYS"))) (retE (.str (Str.ofString "key").cps.toList)) (retE (.str (Str.ofString "var").cps.toList))), (locM "name"), (retE .none)]))
  nextS)) nextS)
  (thenS (ifM (testM (funM c "is_among" [(locM "sign"), (globM c "GREAT")])) (thenS (retM (funM c "read_great_name" [(locM "signs")]))
  nextS) nextS)
  (thenS (ifM (testM (funM c "is_among" [(locM "sign"), (globM c "SYMBOLS")])) (thenS (assignM "text" (methM c "take" (locM "signs") [(globM c "SYMBOLS")]))
  (thenS (retM (tupM [(funM c "symbol_kind" [(locM "text")]), (locM "text"), (retE .none)]))
  nextS)) nextS)
  (thenS (assignM "begin" (attrM (locM "signs") "at"))
  (thenS (ifM (testM (cmpM .Eq (locM "sign") (retE (.str (Str.ofString "'").cps.toList)))) (thenS (assignM "value" (funM c "read_char" [(locM "signs")]))
  (thenS (retM (tupM [(retE (.str (Str.ofString "char").cps.toList)), (sliceM (attrM (locM "signs") "text") (locM "begin") (attrM (locM "signs") "at")), (locM "value")]))
  nextS)) nextS)
  (thenS (ifM (testM (cmpM .Eq (locM "sign") (retE (.str (Str.ofString "\"").cps.toList)))) (thenS (assignM "value" (funM c "read_text" [(locM "signs")]))
  (thenS (retM (tupM [(retE (.str (Str.ofString "text").cps.toList)), (sliceM (attrM (locM "signs") "text") (locM "begin") (attrM (locM "signs") "at")), (locM "value")]))
  nextS)) nextS)
  (thenS failS
  nextS)))))))))))

noncomputable def b_words_of (c : Cfg) : SM := (thenS (assignM "signs" (newM c "Signs" [(locM "text")]))
  (thenS (assignM "found" (listM []))
  (thenS (assignM "is_first" (retE (.bool true)))
  (thenS (whileM c (orT [(testM (cmpM .Eq (locM "found") (listM []))), (testM (cmpM .NotEq (attrM (subM (locM "found") (negM (retE (.int 1)))) "kind") (retE (.str (Str.ofString "end").cps.toList))))]) (thenS (assignM "is_first" (orM [(funM c "skip_between" [(locM "signs")]), (locM "is_first")]))
  (thenS (unpackM ["line", "column"] (methM c "place" (locM "signs") []))
  (thenS (unpackM ["kind", "name", "value"] (funM c "read_word" [(locM "signs")]))
  (thenS (exprM (methM c "append" (locM "found") [(newM c "Word" [(locM "kind"), (locM "name"), (locM "line"), (locM "column"), (locM "value"), (locM "is_first"), (methM c "place" (locM "signs") [])])]))
  (thenS (assignM "is_first" (retE (.bool false)))
  nextS))))))
  (thenS (retM (locM "found"))
  nextS)))))

noncomputable def b_law_trunk (c : Cfg) : SM := (thenS (assignM "told" (iteM (testM (cmpM .Gt (bltM "len" [(locM "script")]) (retE (.int 0)))) (subM (locM "script") (retE (.int 0))) (retE (.int 0))))
  (thenS (assignM "size" (iteM (testM (cmpM .GtE (locM "told") (retE (.int 0)))) (locM "told") (binM .Sub (retE (.int 29)) (binM .Mult (retE (.int 2)) (locM "told")))))
  (thenS (ifM (testM (cmpM .Eq (locM "told") (retE (.int 0)))) (thenS (retM (listM [(retE (.int 0)), (retE (.int 0))]))
  nextS) nextS)
  (thenS (retM (listM [(iteM (testM (cmpM .GtE (locM "size") (binM .Pow (retE (.int 10)) (retE (.int 15))))) (locM "size") (retE (.int 0))), (binM .Mod (binM .Add (binM .Add (binM .Mult (binM .Mod (locM "size") (retE (.int 1999867))) (retE (.int 2))) (bltM "int" [(cmpM .Lt (locM "told") (retE (.int 0)))])) (retE (.int 61))) (retE (.int 2147483399)))]))
  nextS))))

noncomputable def b_law_pull (c : Cfg) : SM := (thenS (ifM (testM (cmpM .Gt (subM (locM "trunk") (retE (.int 0))) (retE (.int 0)))) (thenS (assignM "found" (binM .Mod (subM (locM "trunk") (retE (.int 0))) (locM "many")))
  (thenS (setItemM (locM "trunk") (retE (.int 0)) (binM .FloorDiv (subM (locM "trunk") (retE (.int 0))) (locM "many")))
  (thenS (retM (locM "found"))
  nextS))) nextS)
  (thenS (ifM (testM (cmpM .Eq (subM (locM "trunk") (retE (.int 1))) (retE (.int 0)))) (thenS (retM (retE (.int 0)))
  nextS) nextS)
  (thenS (setItemM (locM "trunk") (retE (.int 1)) (binM .Mod (binM .Add (binM .Mult (subM (locM "trunk") (retE (.int 1))) (retE (.int 40692))) (retE (.int 79))) (retE (.int 2147483399))))
  (thenS (retM (binM .Mod (binM .FloorDiv (subM (locM "trunk") (retE (.int 1))) (retE (.int 32))) (locM "many")))
  nextS))))

noncomputable def b_law_one (c : Cfg) : SM := (thenS (retM (subM (locM "things") (funM c "_law_pull" [(locM "trunk"), (bltM "len" [(locM "things")])])))
  nextS)

noncomputable def b_law_named (c : Cfg) : SM := (thenS (assignM "told" (retE (.str (Str.ofString "NUL SOH STX ETX EOT ENQ ACK BEL BS HT LF VT FF CR SO SI DLE DC1 DC2 DC3 DC4 NAK SYN ETB CAN EM SUB ESC").cps.toList)))
  (thenS (retM (binM .Add (methM c "split" (locM "told") [(retE (.str (Str.ofString " ").cps.toList))]) (listM [(retE (.str (Str.ofString "FS").cps.toList)), (retE (.str (Str.ofString "GS").cps.toList)), (retE (.str (Str.ofString "RS").cps.toList)), (retE (.str (Str.ofString "US").cps.toList)), (retE (.str (Str.ofString "SP").cps.toList))])))
  nextS))

noncomputable def b_law_escape (c : Cfg) : SM := (thenS (assignM "way" (funM c "_law_pull" [(locM "trunk"), (retE (.int 5))]))
  (thenS (ifM (testM (cmpM .Eq (locM "way") (retE (.int 0)))) (thenS (retM (funM c "_law_one" [(locM "trunk"), (listM [(tupM [(retE (.str (Str.ofString "\\a").cps.toList)), (retE (.int 7))]), (tupM [(retE (.str (Str.ofString "\\b").cps.toList)), (retE (.int 8))]), (tupM [(retE (.str (Str.ofString "\\t").cps.toList)), (retE (.int 9))]), (tupM [(retE (.str (Str.ofString "\\n").cps.toList)), (retE (.int 10))]), (tupM [(retE (.str (Str.ofString "\\v").cps.toList)), (retE (.int 11))]), (tupM [(retE (.str (Str.ofString "\\f").cps.toList)), (retE (.int 12))]), (tupM [(retE (.str (Str.ofString "\\r").cps.toList)), (retE (.int 13))]), (tupM [(retE (.str (Str.ofString "\\\\").cps.toList)), (retE (.int 92))]), (tupM [(retE (.str (Str.ofString "\\\"").cps.toList)), (retE (.int 34))]), (tupM [(retE (.str (Str.ofString "\\'").cps.toList)), (retE (.int 39))])])]))
  nextS) nextS)
  (thenS (ifM (testM (cmpM .Eq (locM "way") (retE (.int 1)))) (thenS (assignM "names" (funM c "_law_named" []))
  (thenS (assignM "place" (funM c "_law_pull" [(locM "trunk"), (binM .Add (bltM "len" [(locM "names")]) (retE (.int 1)))]))
  (thenS (retM (iteM (testM (cmpM .Lt (locM "place") (bltM "len" [(locM "names")]))) (tupM [(binM .Add (retE (.str (Str.ofString "\\").cps.toList)) (subM (locM "names") (locM "place"))), (locM "place")]) (tupM [(retE (.str (Str.ofString "\\DEL").cps.toList)), (retE (.int 127))])))
  nextS))) nextS)
  (thenS (ifM (testM (cmpM .Eq (locM "way") (retE (.int 2)))) (thenS (assignM "place" (funM c "_law_pull" [(locM "trunk"), (retE (.int 32))]))
  (thenS (retM (tupM [(binM .Add (retE (.str (Str.ofString "\\^").cps.toList)) (subM (retE (.str (Str.ofString "@ABCDEFGHIJKLMNOPQRSTUVWXYZ[\\]^_").cps.toList)) (locM "place"))), (locM "place")]))
  nextS)) nextS)
  (thenS (assignM "number" (funM c "_law_one" [(locM "trunk"), (listM [(retE (.int 0)), (retE (.int 9)), (retE (.int 65)), (retE (.int 255)), (retE (.int 8364)), (retE (.int 1114111)), (funM c "_law_pull" [(locM "trunk"), (retE (.int 400))])])]))
  (thenS (ifM (testM (cmpM .Eq (locM "way") (retE (.int 3)))) (thenS (retM (tupM [(binM .Add (binM .Add (retE (.str (Str.ofString "\\").cps.toList)) (binM .Mult (retE (.str (Str.ofString "0").cps.toList)) (funM c "_law_pull" [(locM "trunk"), (retE (.int 2))]))) (bltM "str" [(locM "number")])), (locM "number")]))
  nextS) nextS)
  (thenS (retM (funM c "_law_based" [(locM "number"), (funM c "_law_one" [(locM "trunk"), (listM [(retE (.int 8)), (retE (.int 16))])])]))
  nextS)))))))

noncomputable def b_law_based (c : Cfg) : SM := (thenS (swapM ["figures", "left"] (tupM [(subM (retE (.str (Str.ofString "0123456789abcdef").cps.toList)) (binM .Mod (locM "number") (locM "base"))), (binM .FloorDiv (locM "number") (locM "base"))]))
  (thenS (whileM c (testM (cmpM .Gt (locM "left") (retE (.int 0)))) (thenS (swapM ["figures", "left"] (tupM [(binM .Add (subM (retE (.str (Str.ofString "0123456789aBCdEF").cps.toList)) (binM .Mod (locM "left") (locM "base"))) (locM "figures")), (binM .FloorDiv (locM "left") (locM "base"))]))
  nextS))
  (thenS (retM (tupM [(binM .Add (iteM (testM (cmpM .Eq (locM "base") (retE (.int 8)))) (retE (.str (Str.ofString "\\o").cps.toList)) (retE (.str (Str.ofString "\\x").cps.toList))) (locM "figures")), (locM "number")]))
  nextS)))

noncomputable def b_law_text (c : Cfg) : SM := (thenS (unpackM ["raw", "value"] (tupM [(retE (.str (Str.ofString "").cps.toList)), (retE (.str (Str.ofString "").cps.toList))]))
  (thenS (forM c (some (.one "turn")) (bltM "range" [(funM c "_law_pull" [(locM "trunk"), (retE (.int 7))])]) (thenS (ifM (testM (cmpM .Eq (funM c "_law_pull" [(locM "trunk"), (retE (.int 4))]) (retE (.int 0)))) (thenS (assignM "sign" (funM c "_law_one" [(locM "trunk"), (listM [(retE (.str (Str.ofString "z").cps.toList)), (retE (.str (Str.ofString " ").cps.toList)), (retE (.str (Str.ofString "?").cps.toList)), (retE (.str (Str.ofString "'").cps.toList)), (retE (.str (Str.ofString "~").cps.toList)), (bltM "chr" [(retE (.int 233))])])]))
  (thenS (swapM ["raw", "value"] (tupM [(binM .Add (locM "raw") (locM "sign")), (binM .Add (locM "value") (locM "sign"))]))
  nextS)) (thenS (unpackM ["told", "number"] (funM c "_law_escape" [(locM "trunk")]))
  (thenS (swapM ["raw", "value"] (tupM [(binM .Add (locM "raw") (locM "told")), (binM .Add (locM "value") (bltM "chr" [(locM "number")]))]))
  nextS)))
  nextS))
  (thenS (retM (tupM [(retE (.str (Str.ofString "text").cps.toList)), (binM .Add (binM .Add (retE (.str (Str.ofString "\"").cps.toList)) (locM "raw")) (retE (.str (Str.ofString "\"").cps.toList))), (locM "value")]))
  nextS)))

noncomputable def b_law_sign (c : Cfg) : SM := (thenS (ifM (testM (cmpM .Eq (funM c "_law_pull" [(locM "trunk"), (retE (.int 3))]) (retE (.int 0)))) (thenS (assignM "sign" (funM c "_law_one" [(locM "trunk"), (listM [(retE (.str (Str.ofString "a").cps.toList)), (retE (.str (Str.ofString " ").cps.toList)), (retE (.str (Str.ofString "\"").cps.toList)), (retE (.str (Str.ofString "0").cps.toList)), (retE (.str (Str.ofString "~").cps.toList)), (bltM "chr" [(retE (.int 233))]), (retE (.str (Str.ofString "-").cps.toList))])]))
  (thenS (retM (tupM [(retE (.str (Str.ofString "char").cps.toList)), (binM .Add (binM .Add (retE (.str (Str.ofString "'").cps.toList)) (locM "sign")) (retE (.str (Str.ofString "'").cps.toList))), (locM "sign")]))
  nextS)) nextS)
  (thenS (unpackM ["told", "number"] (funM c "_law_escape" [(locM "trunk")]))
  (thenS (retM (tupM [(retE (.str (Str.ofString "char").cps.toList)), (binM .Add (binM .Add (retE (.str (Str.ofString "'").cps.toList)) (locM "told")) (retE (.str (Str.ofString "'").cps.toList))), (bltM "chr" [(locM "number")])]))
  nextS)))

noncomputable def b_law_name (c : Cfg) : SM := (thenS (assignM "keys" (retE (.str (Str.ofString "case class data der\x69v\x69ng do else \x69f \x69mport \x69n \x69nf\x69x \x69nf\x69xl \x69nf\x69xr \x69nstance let module newtype of then type").cps.toList)))
  (thenS (swapM ["key", "way"] (tupM [(funM c "_law_one" [(locM "trunk"), (binM .Add (methM c "split" (locM "keys") [(retE (.str (Str.ofString " ").cps.toList))]) (listM [(retE (.str (Str.ofString "where").cps.toList)), (retE (.str (Str.ofString "_").cps.toList))]))]), (funM c "_law_pull" [(locM "trunk"), (retE (.int 4))])]))
  (thenS (ifM (testM (cmpM .Lt (locM "way") (retE (.int 2)))) (thenS (retM (tupM [(retE (.str (Str.ofString "key").cps.toList)), (locM "key"), (retE .none)]))
  nextS) nextS)
  (thenS (retM (tupM [(retE (.str (Str.ofString "var").cps.toList)), (iteM (testM (cmpM .Eq (locM "way") (retE (.int 2)))) (binM .Add (retE (.str (Str.ofString "x").cps.toList)) (locM "key")) (binM .Add (locM "key") (funM c "_law_one" [(locM "trunk"), (listM [(retE (.str (Str.ofString "'").cps.toList)), (retE (.str (Str.ofString "1").cps.toList)), (retE (.str (Str.ofString "_").cps.toList)), (retE (.str (Str.ofString "X").cps.toList))])]))), (retE .none)]))
  nextS))))

noncomputable def b_law_operator (c : Cfg) : SM := (thenS (assignM "kept" (listM [(retE (.str (Str.ofString "..").cps.toList)), (retE (.str (Str.ofString ":").cps.toList)), (retE (.str (Str.ofString "::").cps.toList)), (retE (.str (Str.ofString "=").cps.toList)), (retE (.str (Str.ofString "\\").cps.toList)), (retE (.str (Str.ofString "|").cps.toList)), (retE (.str (Str.ofString "<-").cps.toList)), (retE (.str (Str.ofString "->").cps.toList)), (retE (.str (Str.ofString "@").cps.toList)), (retE (.str (Str.ofString "~").cps.toList)), (retE (.str (Str.ofString "=>").cps.toList))]))
  (thenS (assignM "text" (binM .Add (funM c "_law_one" [(locM "trunk"), (locM "kept")]) (funM c "_law_one" [(locM "trunk"), (listM [(retE (.str (Str.ofString "").cps.toList)), (retE (.str (Str.ofString "").cps.toList)), (retE (.str (Str.ofString "!").cps.toList)), (retE (.str (Str.ofString ":").cps.toList)), (retE (.str (Str.ofString ".").cps.toList)), (retE (.str (Str.ofString "$").cps.toList))])])))
  (thenS (ifM (testM (cmpM .In (locM "text") (locM "kept"))) (thenS (retM (tupM [(retE (.str (Str.ofString "op").cps.toList)), (locM "text"), (retE .none)]))
  nextS) nextS)
  (thenS (retM (tupM [(iteM (testM (cmpM .Eq (subM (locM "text") (retE (.int 0))) (retE (.str (Str.ofString ":").cps.toList)))) (retE (.str (Str.ofString "consym").cps.toList)) (retE (.str (Str.ofString "varsym").cps.toList))), (locM "text"), (retE .none)]))
  nextS))))

noncomputable def b_law_word (c : Cfg) : SM := (thenS (assignM "way" (funM c "_law_pull" [(locM "trunk"), (retE (.int 6))]))
  (thenS (ifM (testM (cmpM .Lt (locM "way") (retE (.int 2)))) (thenS (retM (funM c "_law_text" [(locM "trunk")]))
  nextS) nextS)
  (thenS (ifM (testM (cmpM .Eq (locM "way") (retE (.int 2)))) (thenS (retM (funM c "_law_sign" [(locM "trunk")]))
  nextS) nextS)
  (thenS (ifM (testM (cmpM .Eq (locM "way") (retE (.int 3)))) (thenS (retM (funM c "_law_name" [(locM "trunk")]))
  nextS) nextS)
  (thenS (retM (iteM (testM (cmpM .Eq (locM "way") (retE (.int 4)))) (funM c "_law_operator" [(locM "trunk")]) (tupM [(retE (.str (Str.ofString "special").cps.toList)), (funM c "_law_one" [(locM "trunk"), (retE (.str (Str.ofString "()[],;`{}").cps.toList))]), (retE .none)])))
  nextS)))))

noncomputable def b_law_is_right (c : Cfg) : SM := (thenS (swapM ["column", "due"] (tupM [(retE (.int 1)), (listM [])]))
  (thenS (forM c (some (.many ["kind", "text", "value"])) (locM "words") (thenS (exprM (methM c "append" (locM "due") [(tupM [(locM "kind"), (locM "text"), (locM "value"), (retE (.int 1)), (locM "column")])]))
  (thenS (assignM "column" (binM .Add (binM .Add (locM "column") (bltM "len" [(locM "text")])) (retE (.int 1))))
  nextS)))
  (thenS (exprM (methM c "append" (locM "due") [(tupM [(retE (.str (Str.ofString "end").cps.toList)), (retE (.str (Str.ofString "").cps.toList)), (retE .none), (retE (.int 1)), (bltM "max" [(retE (.int 1)), (binM .Sub (locM "column") (retE (.int 1)))])])]))
  (thenS (assignM "found" (funM c "words_of" [(methM c "join" (retE (.str (Str.ofString " ").cps.toList)) [(compM c (some (.many ["kind", "text", "value"])) [] (locM "words") (locM "text"))])]))
  (thenS (retM (cmpM .Eq (compM c (some (.one "word")) [] (locM "found") (tupM [(attrM (locM "word") "kind"), (attrM (locM "word") "text"), (attrM (locM "word") "value"), (attrM (locM "word") "line"), (attrM (locM "word") "column")])) (locM "due")))
  nextS)))))

noncomputable def b_law (c : Cfg) : SM := (thenS (assignM "told" (methM c "join" (retE (.str (Str.ofString "").cps.toList)) [(compM c (some (.one "number")) [] (listM [(retE (.int 7)), (retE (.int 27)), (retE (.int 13)), (retE (.int 11)), (retE (.int 8)), (retE (.int 127)), (retE (.int 92))]) (bltM "chr" [(locM "number")]))]))
  (thenS (assignM "row" (listM [(tupM [(retE (.str (Str.ofString "text").cps.toList)), (retE (.str (Str.ofString "\"\\a\\ESC\\^M\\v\\b\\DEL\\\\\"").cps.toList)), (locM "told")]), (tupM [(retE (.str (Str.ofString "key").cps.toList)), (retE (.str (Str.ofString "infixr").cps.toList)), (retE .none)]), (tupM [(retE (.str (Str.ofString "op").cps.toList)), (retE (.str (Str.ofString "=>").cps.toList)), (retE .none)])]))
  (thenS (ifM (notT (testM (funM c "_law_is_right" [(locM "row")]))) (thenS (retM (retE (.bool false)))
  nextS) nextS)
  (thenS (assignM "trunk" (funM c "_law_trunk" [(locM "script")]))
  (thenS (retM (funM c "_law_is_right" [(compM c (some (.one "turn")) ["trunk"] (bltM "range" [(funM c "_law_pull" [(locM "trunk"), (retE (.int 7))])]) (funM c "_law_word" [(locM "trunk")]))]))
  nextS)))))

noncomputable def tab : List (Str × Str × Fn) := [
  (Str.ofString "Word", Str.ofString "__init__", ⟨["self", "kind", "text", "line", "column", "value", "is_first", "end"], [.none, .bool false, .none], b_Word_init⟩),
  (Str.ofString "Word", Str.ofString "place", ⟨["self"], [], b_Word_place⟩),
  (Str.ofString "Signs", Str.ofString "__init__", ⟨["self", "text"], [], b_Signs_init⟩),
  (Str.ofString "Signs", Str.ofString "sign", ⟨["self", "ahead"], [.int 0], b_Signs_sign⟩),
  (Str.ofString "Signs", Str.ofString "starts", ⟨["self", "some"], [], b_Signs_starts⟩),
  (Str.ofString "Signs", Str.ofString "step", ⟨["self"], [], b_Signs_step⟩),
  (Str.ofString "Signs", Str.ofString "take", ⟨["self", "letters"], [], b_Signs_take⟩),
  (Str.ofString "Signs", Str.ofString "place", ⟨["self"], [], b_Signs_place⟩),
  (Str.ofString "", Str.ofString "is_among", ⟨["sign", "letters"], [], b_is_among⟩),
  (Str.ofString "", Str.ofString "is_bare", ⟨["sign"], [], b_is_bare⟩),
  (Str.ofString "", Str.ofString "name_letters", ⟨[], [], b_name_letters⟩),
  (Str.ofString "", Str.ofString "is_line_comment", ⟨["signs"], [], b_is_line_comment⟩),
  (Str.ofString "", Str.ofString "skip_between", ⟨["signs"], [], b_skip_between⟩),
  (Str.ofString "", Str.ofString "number_of", ⟨["digits", "base", "place"], [], b_number_of⟩),
  (Str.ofString "", Str.ofString "checked_sign", ⟨["number", "place"], [], b_checked_sign⟩),
  (Str.ofString "", Str.ofString "named_escape", ⟨["signs"], [], b_named_escape⟩),
  (Str.ofString "", Str.ofString "read_escape", ⟨["signs"], [], b_read_escape⟩),
  (Str.ofString "", Str.ofString "read_char", ⟨["signs"], [], b_read_char⟩),
  (Str.ofString "", Str.ofString "read_text", ⟨["signs"], [], b_read_text⟩),
  (Str.ofString "", Str.ofString "symbol_kind", ⟨["text"], [], b_symbol_kind⟩),
  (Str.ofString "", Str.ofString "read_word", ⟨["signs"], [], b_read_word⟩),
  (Str.ofString "", Str.ofString "words_of", ⟨["text"], [], b_words_of⟩),
  (Str.ofString "", Str.ofString "_law_trunk", ⟨["script"], [], b_law_trunk⟩),
  (Str.ofString "", Str.ofString "_law_pull", ⟨["trunk", "many"], [], b_law_pull⟩),
  (Str.ofString "", Str.ofString "_law_one", ⟨["trunk", "things"], [], b_law_one⟩),
  (Str.ofString "", Str.ofString "_law_named", ⟨[], [], b_law_named⟩),
  (Str.ofString "", Str.ofString "_law_escape", ⟨["trunk"], [], b_law_escape⟩),
  (Str.ofString "", Str.ofString "_law_based", ⟨["number", "base"], [], b_law_based⟩),
  (Str.ofString "", Str.ofString "_law_text", ⟨["trunk"], [], b_law_text⟩),
  (Str.ofString "", Str.ofString "_law_sign", ⟨["trunk"], [], b_law_sign⟩),
  (Str.ofString "", Str.ofString "_law_name", ⟨["trunk"], [], b_law_name⟩),
  (Str.ofString "", Str.ofString "_law_operator", ⟨["trunk"], [], b_law_operator⟩),
  (Str.ofString "", Str.ofString "_law_word", ⟨["trunk"], [], b_law_word⟩),
  (Str.ofString "", Str.ofString "_law_is_right", ⟨["words"], [], b_law_is_right⟩)]

end Mine
end

section
open PySem PySem.W PySem.Calls PyProof.Rows
set_option linter.unusedVariables false
namespace Mine

structure Room (A : Around) (n : Nat) : Prop where
  hd : A.handled = none
  dp : A.depth + 10 * n ≤ 900
  un : A.units + 20 * n ≤ 9000

structure EnvOk (sc : Scope) (env : Env) : Prop where
  scp : env.scope = sc
  kind : sc.kind = .function
  g : env.globals = mainGlobals
  b : env.builtins = builtinsNs
  cl : ∀ y, sc.names.lookup y = some .cell → ∃ c, env.cells.lookup y = some c

structure XOk (x : X) : Prop where
  kin : x.K.In x.hB
  g : x.hB.Ns mainGlobals x.mg
  b : x.hB.Ns builtinsNs x.mb
  lim : x.hB.NoLimit

noncomputable def SimE (x : X) (n : Nat) (sc : Scope) (m : EM V) (e : Expr) : Prop :=
  ∀ (A : Around) (env : Env) (ρ : Rho) (l : Loc) (o : Obs) (s : Shared) (v : V) (o' : Obs) (Q : Value → Shared → Prop) (E : Value → Shared → Prop),
    Room A n → EnvOk sc env → Gd x ρ o s.heap → LR x env ρ l s.heap → m l o = some (v, o') →
    (∀ ρ' s' w, Mv x [] ρ s ρ' o' s' → VR x s'.heap ρ' v w → Q w s') → wpAny (model x.prog x.w) A (eval e env) Q E s

noncomputable def SimL (x : X) (n : Nat) (sc : Scope) (ms : List (EM V)) (es : List Expr) : Prop := (ms.length = es.length ∧ ∀ env, starEach es env = es.map fun e => (false, eval e env)) ∧
  ∀ (A : Around) (env : Env) (ρ : Rho) (l : Loc) (o : Obs) (s : Shared) (vs : List V) (o' : Obs) (pos : Pos) (Q : List Value → Shared → Prop) (E : Value → Shared → Prop),
    Room A n → EnvOk sc env → Gd x ρ o s.heap → LR x env ρ l s.heap → seqM ms l o = some (vs, o') →
    (∀ ρ' s' ws, Mv x [] ρ s ρ' o' s' → VRs x s'.heap ρ' vs ws → Q ws s') → wpAny (model x.prog x.w) A (spliced (backTo pos (starEach es env))) Q E s

noncomputable def SimT (x : X) (n : Nat) (sc : Scope) (m : EM Bool) (e : Expr) : Prop :=
  ∀ (A : Around) (env : Env) (ρ : Rho) (l : Loc) (o : Obs) (s : Shared) (b : Bool) (o' : Obs) (Q : Bool → Shared → Prop) (E : Value → Shared → Prop),
    Room A n → EnvOk sc env → Gd x ρ o s.heap → LR x env ρ l s.heap → m l o = some (b, o') →
    (∀ ρ' s', Mv x [] ρ s ρ' o' s' → Q b s') → wpAny (model x.prog x.w) A (isTrue e env (eval e env)) Q E s

noncomputable def SimTs (x : X) (n : Nat) (sc : Scope) (op : BoolOp) (m : EM Bool) (es : List Expr) : Prop :=
  ∀ (A : Around) (env : Env) (ρ : Rho) (l : Loc) (o : Obs) (s : Shared) (b : Bool) (o' : Obs) (Q : Bool → Shared → Prop) (E : Value → Shared → Prop),
    Room A n → EnvOk sc env → Gd x ρ o s.heap → LR x env ρ l s.heap → m l o = some (b, o') →
    (∀ ρ' s', Mv x [] ρ s ρ' o' s' → Q b s') → wpAny (model x.prog x.w) A (allTrue op es env) Q E s

section
variable {x : X} {n : Nat} {sc : Scope}

theorem bind2 {α β : Type} {a : Option α} {f : α → Option β} {b : β} (h : a.bind f = some b) : ∃ p, a = some p ∧ f p = some b := Option.bind_eq_some_iff.mp h
theorem map2 {α β : Type} {a : Option α} {f : α → β} {b : β} (h : a.map f = some b) : ∃ p, a = some p ∧ f p = b := Option.map_eq_some_iff.mp h

theorem tok1 {ρ : Rho} {o : Obs} {s : Shared} (g : Gd x ρ o s.heap) : Mv x [] ρ s ρ o { s with toks := s.toks + 1 } := mv_tok g _

theorem simE_none {k pos} : SimE x n sc (retE .none) (.Constant .none k pos) := by
  intro A env ρ l o s v o' Q E hr he hg hl hm hQ
  cases hm
  exact wpAny_Constant_none (hQ ρ s _ (mv_new hg) (by simp only [VR]))
theorem simE_bool {b k pos} : SimE x n sc (retE (.bool b)) (.Constant (.bool b) k pos) := by
  intro A env ρ l o s v o' Q E hr he hg hl hm hQ
  cases hm
  exact wpAny_Constant_bool (hQ ρ s _ (mv_new hg) (by simp only [VR]))
theorem simE_int {i k pos} : SimE x n sc (retE (.int i)) (.Constant (.int i) k pos) := by
  intro A env ρ l o s v o' Q E hr he hg hl hm hQ
  cases hm
  exact wpAny_Constant_int (hQ ρ _ _ (tok1 hg) (by simp only [VR]; exact ⟨_, rfl⟩))
theorem simE_str {y : Str} {k pos} : SimE x n sc (retE (.str y.cps.toList)) (.Constant (.str y) k pos) := by
  intro A env ρ l o s v o' Q E hr he hg hl hm hQ
  cases hm
  refine wpAny_Constant_str (hQ ρ _ _ (tok1 hg) ?_)
  simp only [VR]; exact ⟨s.toks, by simp⟩

theorem simE_local {y : Str} {pos} (hk : sc.names.lookup y = some .local) (hd : (y == ("__debug__" : Str)) = false := by decide) : SimE x n sc (locM y) (.Name y pos) := by
  intro A env ρ l o s v o' Q E hr he hg hl hm hQ
  obtain ⟨v', hv, e⟩ := map2 hm
  cases e
  have hk' : env.kindOf y = some .local := by unfold Env.kindOf; rw [he.scp]; exact hk
  obtain ⟨m, hn, hv'⟩ := hl.ns
  obtain ⟨w, hw, q⟩ := hv' y v hv hk'
  exact wpAny_Name (wpAny_loadName_local (by rw [he.scp]; exact he.kind) hk' hn hw (hQ ρ s w (mv_new hg) q)) hd

theorem simE_cell {y : Str} {pos} (hk : sc.names.lookup y = some .cell) (hd : (y == ("__debug__" : Str)) = false := by decide) : SimE x n sc (locM y) (.Name y pos) := by
  intro A env ρ l o s v o' Q E hr he hg hl hm hQ
  obtain ⟨v', hv, e⟩ := map2 hm
  cases e
  have hk' : env.kindOf y = some .cell := by unfold Env.kindOf; rw [he.scp]; exact hk
  obtain ⟨a, ob, w, h1, h2, h3, q⟩ := hl.cell y v hv (.inl hk')
  exact wpAny_Name (wpAny_loadName_cell (by rw [he.scp]; exact he.kind) hk' h1 ⟨ob, h2, h3⟩ (hQ ρ s w (mv_new hg) q)) hd

noncomputable def GlobOk (x : X) (glob : Str → Option V) : Prop :=
  ∀ y v, glob y = some v → ∃ w, x.mg y = some w ∧ ∀ h ρ, (∀ b o, x.hB.get? b = some o → h.get? b = some o) → VR x h ρ v w

theorem simE_glob {c : Cfg} {y : Str} {pos} (X : XOk x) (hG : GlobOk x c.glob) (hk : sc.names.lookup y = some .globalImplicit) (hd : (y == ("__debug__" : Str)) = false := by decide) : SimE x n sc (globM c y) (.Name y pos) := by
  intro A env ρ l o s v o' Q E hr he hg hl hm hQ
  obtain ⟨v', hv, e⟩ := map2 hm
  cases e
  have hk' : env.kindOf y = some .globalImplicit := by unfold Env.kindOf; rw [he.scp]; exact hk
  obtain ⟨w, hw, q⟩ := hG y v hv
  exact Name_function_global (by rw [he.scp]; exact he.kind) hk' (loadGlobal_global (by rw [he.g]; exact X.g.keeps hg.base) hw (hQ ρ s w (mv_new hg) (q _ _ hg.base))) hd

theorem simL_nil : SimL x n sc [] [] := by
  refine ⟨⟨rfl, fun _ => rfl⟩, ?_⟩
  intro A env ρ l o s vs o' pos Q E hr he hg hl hm hQ
  cases hm
  exact wpAny_items_nil (hQ ρ s _ (mv_new hg) (by simp only [VRs]))
theorem simL_cons {m : EM V} {ms : List (EM V)} {e : Expr} {es : List Expr} (h : SimE x n sc m e) (hs : SimL x n sc ms es) (hstar : ∀ es env, starEach (e :: es) env = (false, eval e env) :: starEach es env := by intro _ _; kernel_rfl) : SimL x n sc (m :: ms) (e :: es) := by
  refine ⟨⟨by rw [List.length_cons, List.length_cons, hs.1.1], fun env => by rw [hstar es env, hs.1.2 env]; rfl⟩, ?_⟩
  intro A env ρ l o s vs o' pos Q E hr he hg hl hm hQ
  obtain ⟨p, hp, hm⟩ := bind2 hm
  obtain ⟨q, hq, hm⟩ := bind2 hm
  cases hm
  refine wpAny_items_cons (h A env ρ l o s p.1 p.2 _ E hr he hg hl hp fun ρ₁ s₁ w M₁ q₁ => ?_) (hstar es env)
  refine hs.2 A env ρ₁ l p.2 s₁ q.1 q.2 pos _ E hr he M₁.good (hl.mv M₁) hq fun ρ₂ s₂ ws M₂ q₂ => ?_
  exact hQ ρ₂ s₂ _ (M₁.trans M₂) (by simp only [VRs]; exact ⟨M₂.vr q₁, q₂⟩)

theorem simT_value {m : EM V} {e : Expr} (h : SimE x n sc m e) (he' : ∀ env whole, isTrue e env whole = (do let v ← whole; standAt e.pos; holding [v] (truthy v)) := by intro _ _; kernel_rfl) : SimT x n sc (testM m) e := by
  intro A env ρ l o s b o' Q E hr he hg hl hm hQ
  obtain ⟨p, hp, hm⟩ := bind2 hm
  obtain ⟨b', hb, hm⟩ := map2 hm
  cases hm
  refine wpAny_isTrue_value (h A env ρ l o s p.1 p.2 _ E hr he hg hl hp fun ρ₁ s₁ w M₁ q₁ => ?_) (he' env _)
  cases hv : p.1 <;> rw [hv] at hb q₁ <;> first | cases hb | skip
  simp only [VR] at q₁
  subst q₁
  exact wpAny_truthy_bool (hQ ρ₁ s₁ M₁)

theorem simT_not {m : EM Bool} {e : Expr} {pos} (h : SimT x n sc m e) : SimT x n sc (notT m) (.UnaryOp .Not e pos) := by
  intro A env ρ l o s b o' Q E hr he hg hl hm hQ
  obtain ⟨p, hp, hm⟩ := map2 hm
  cases hm
  exact wpAny_isTrue_Not (h A env ρ l o s p.1 p.2 _ E hr he hg hl hp fun ρ₁ s₁ M₁ => hQ ρ₁ s₁ M₁)

theorem simTs_and_nil : SimTs x n sc .And (andT []) [] := by
  intro A env ρ l o s b o' Q E hr he hg hl hm hQ
  cases hm
  exact wpAny_allTrue_And_nil (hQ ρ s (mv_new hg))
theorem simTs_or_nil : SimTs x n sc .Or (orT []) [] := by
  intro A env ρ l o s b o' Q E hr he hg hl hm hQ
  cases hm
  exact wpAny_allTrue_Or_nil (hQ ρ s (mv_new hg))
theorem simTs_and_cons {m : EM Bool} {ms : List (EM Bool)} {e : Expr} {es : List Expr} (h : SimT x n sc m e) (hs : SimTs x n sc .And (andT ms) es) : SimTs x n sc .And (andT (m :: ms)) (e :: es) := by
  intro A env ρ l o s b o' Q E hr he hg hl hm hQ
  obtain ⟨p, hp, hm⟩ := bind2 hm
  refine wpAny_allTrue_And_cons (h A env ρ l o s p.1 p.2 _ E hr he hg hl hp fun ρ₁ s₁ M₁ => ?_)
  cases hb : p.1 <;> rw [hb] at hm
  · cases hm; exact hQ ρ₁ s₁ M₁
  · exact hs A env ρ₁ l p.2 s₁ b o' _ E hr he M₁.good (hl.mv M₁) hm fun ρ₂ s₂ M₂ => hQ ρ₂ s₂ (M₁.trans M₂)
theorem simTs_or_cons {m : EM Bool} {ms : List (EM Bool)} {e : Expr} {es : List Expr} (h : SimT x n sc m e) (hs : SimTs x n sc .Or (orT ms) es) : SimTs x n sc .Or (orT (m :: ms)) (e :: es) := by
  intro A env ρ l o s b o' Q E hr he hg hl hm hQ
  obtain ⟨p, hp, hm⟩ := bind2 hm
  refine wpAny_allTrue_Or_cons (h A env ρ l o s p.1 p.2 _ E hr he hg hl hp fun ρ₁ s₁ M₁ => ?_)
  cases hb : p.1 <;> rw [hb] at hm
  · exact hs A env ρ₁ l p.2 s₁ b o' _ E hr he M₁.good (hl.mv M₁) hm fun ρ₂ s₂ M₂ => hQ ρ₂ s₂ (M₁.trans M₂)
  · cases hm; exact hQ ρ₁ s₁ M₁
theorem simT_and {ms : List (EM Bool)} {es : List Expr} {pos} (h : SimTs x n sc .And (andT ms) es) : SimT x n sc (andT ms) (.BoolOp .And es pos) := by
  intro A env ρ l o s b o' Q E hr he hg hl hm hQ
  exact wpAny_isTrue_BoolOp (h A env ρ l o s b o' _ E hr he hg hl hm hQ)
theorem simT_or {ms : List (EM Bool)} {es : List Expr} {pos} (h : SimTs x n sc .Or (orT ms) es) : SimT x n sc (orT ms) (.BoolOp .Or es pos) := by
  intro A env ρ l o s b o' Q E hr he hg hl hm hQ
  exact wpAny_isTrue_BoolOp (h A env ρ l o s b o' _ E hr he hg hl hm hQ)

noncomputable def SimB (x : X) (n : Nat) (sc : Scope) (op : BoolOp) (m : EM V) (es : List Expr) : Prop :=
  ∀ (A : Around) (env : Env) (ρ : Rho) (l : Loc) (o : Obs) (s : Shared) (v : V) (o' : Obs) (pos : Pos) (Q : Value → Shared → Prop) (E : Value → Shared → Prop),
    Room A n → EnvOk sc env → Gd x ρ o s.heap → LR x env ρ l s.heap → m l o = some (v, o') →
    (∀ ρ' s' w, Mv x [] ρ s ρ' o' s' → VR x s'.heap ρ' v w → Q w s') → wpAny (model x.prog x.w) A (boolOp pos op (evalEach es env)) Q E s

theorem simB_one {op : BoolOp} {m : EM V} {e : Expr} (h : SimE x n sc m e) : SimB x n sc op m [e] := by
  intro A env ρ l o s v o' pos Q E hr he hg hl hm hQ
  show wpAny _ A (eval e env) Q E s
  exact h A env ρ l o s v o' Q E hr he hg hl hm hQ
theorem simB_oneA {m : EM V} {e : Expr} (h : SimE x n sc m e) : SimB x n sc .And (andM [m]) [e] := simB_one h
theorem simB_oneO {m : EM V} {e : Expr} (h : SimE x n sc m e) : SimB x n sc .Or (orM [m]) [e] := simB_one h
theorem simB_and {m m' : EM V} {ms : List (EM V)} {e e' : Expr} {es : List Expr} (h : SimE x n sc m e) (hs : SimB x n sc .And (andM (m' :: ms)) (e' :: es)) : SimB x n sc .And (andM (m :: m' :: ms)) (e :: e' :: es) := by
  intro A env ρ l o s v o' pos Q E hr he hg hl hm hQ
  obtain ⟨p, hp, hm⟩ := bind2 hm
  show wpAny _ A (do
    let v ← eval e env
    standAt pos
    let t ← holding [v] (truthy v)
    match BoolOp.And, t with
    | .And, false | .Or, true => pure v
    | _, _ => boolOp pos .And (evalEach (e' :: es) env)) Q E s
  refine wpAny_bind (h A env ρ l o s p.1 p.2 _ E hr he hg hl hp fun ρ₁ s₁ w M₁ q₁ => wpAny_bind (wpAny_standAt (wpAny_bind (wpAny_holding ?_))))
  cases hv : p.1 <;> rw [hv] at hm <;> simp only [truthyV] at hm <;> first | cases hm | skip
  rename_i b
  have q₁' := q₁
  rw [hv] at q₁'
  simp only [VR] at q₁'
  subst q₁'
  refine wpAny_truthy_bool ?_
  cases b
  · cases hm; exact wpAny_pure (hQ ρ₁ s₁ _ M₁ q₁)
  · exact hs A env ρ₁ l p.2 s₁ v o' pos _ E hr he M₁.good (hl.mv M₁) hm fun ρ₂ s₂ w M₂ q => hQ ρ₂ s₂ w (M₁.trans M₂) q
theorem simE_and {ms : List (EM V)} {es : List Expr} {pos} (h : SimB x n sc .And (andM ms) es) : SimE x n sc (andM ms) (.BoolOp .And es pos) := by
  intro A env ρ l o s v o' Q E hr he hg hl hm hQ
  exact h A env ρ l o s v o' pos Q E hr he hg hl hm hQ
theorem simB_or {m m' : EM V} {ms : List (EM V)} {e e' : Expr} {es : List Expr} (h : SimE x n sc m e) (hs : SimB x n sc .Or (orM (m' :: ms)) (e' :: es)) : SimB x n sc .Or (orM (m :: m' :: ms)) (e :: e' :: es) := by
  intro A env ρ l o s v o' pos Q E hr he hg hl hm hQ
  obtain ⟨p, hp, hm⟩ := bind2 hm
  show wpAny _ A (do
    let v ← eval e env
    standAt pos
    let t ← holding [v] (truthy v)
    match BoolOp.Or, t with
    | .And, false | .Or, true => pure v
    | _, _ => boolOp pos .Or (evalEach (e' :: es) env)) Q E s
  refine wpAny_bind (h A env ρ l o s p.1 p.2 _ E hr he hg hl hp fun ρ₁ s₁ w M₁ q₁ => wpAny_bind (wpAny_standAt (wpAny_bind (wpAny_holding ?_))))
  cases hv : p.1 <;> rw [hv] at hm <;> simp only [truthyV] at hm <;> first | cases hm | skip
  rename_i b
  have q₁' := q₁
  rw [hv] at q₁'
  simp only [VR] at q₁'
  subst q₁'
  refine wpAny_truthy_bool ?_
  cases b
  · exact hs A env ρ₁ l p.2 s₁ v o' pos _ E hr he M₁.good (hl.mv M₁) hm fun ρ₂ s₂ w M₂ q => hQ ρ₂ s₂ w (M₁.trans M₂) q
  · cases hm; exact wpAny_pure (hQ ρ₁ s₁ _ M₁ q₁)
theorem simE_or {ms : List (EM V)} {es : List Expr} {pos} (h : SimB x n sc .Or (orM ms) es) : SimE x n sc (orM ms) (.BoolOp .Or es pos) := by
  intro A env ρ l o s v o' Q E hr he hg hl hm hQ
  exact h A env ρ l o s v o' pos Q E hr he hg hl hm hQ

theorem simE_not {m : EM V} {e : Expr} {pos} (h : SimE x n sc m e) : SimE x n sc (boolM (notT (testM m))) (.UnaryOp .Not e pos) := by
  intro A env ρ l o s v o' Q E hr he hg hl hm hQ
  obtain ⟨p, hp, hm⟩ := map2 hm
  obtain ⟨p₁, hp, hm₁⟩ := map2 hp
  obtain ⟨p₂, hp₂, hm₂⟩ := bind2 hp
  obtain ⟨b, hb, hm₃⟩ := map2 hm₂
  subst hm₃ hm₁
  cases hm
  refine wpAny_UnaryOp (h A env ρ l o s p₂.1 p₂.2 _ E hr he hg hl hp₂ fun ρ₁ s₁ w M₁ q₁ => ?_)
  cases hv : p₂.1 <;> rw [hv] at hb q₁ <;> first | cases hb | skip
  simp only [VR] at q₁
  subst q₁
  exact not_value (wpAny_truthy_bool (hQ ρ₁ s₁ _ M₁ (by simp only [VR])))

theorem simE_if {t : EM Bool} {a b : EM V} {et ea eb : Expr} {pos} (ht : SimT x n sc t et) (ha : SimE x n sc a ea) (hb : SimE x n sc b eb) : SimE x n sc (iteM t a b) (.IfExp et ea eb pos) := by
  intro A env ρ l o s v o' Q E hr he hg hl hm hQ
  obtain ⟨p, hp, hm⟩ := bind2 hm
  refine wpAny_IfExp ?_
  refine ht A env ρ l o s p.1 p.2 _ E hr he hg hl hp fun ρ₁ s₁ M₁ => ?_
  cases hc : p.1 <;> rw [hc] at hm
  · exact hb A env ρ₁ l p.2 s₁ v o' _ E hr he M₁.good (hl.mv M₁) hm fun ρ₂ s₂ w M₂ q => hQ ρ₂ s₂ w (M₁.trans M₂) q
  · exact ha A env ρ₁ l p.2 s₁ v o' _ E hr he M₁.good (hl.mv M₁) hm fun ρ₂ s₂ w M₂ q => hQ ρ₂ s₂ w (M₁.trans M₂) q
end

end Mine
end

section
open PySem PySem.W PySem.Calls PyProof.Rows PySem.SeqAt
set_option linter.unusedVariables false
namespace Mine


section
variable {x : X} {n : Nat} {sc : Scope}

theorem vrNone {h : Heap} {ρ : Rho} {w : Value} : VR x h ρ .none w → w = .none := fun q => by simpa only [VR] using q
theorem vrBool {h : Heap} {ρ : Rho} {w : Value} {b : Bool} : VR x h ρ (.bool b) w → w = .bool b := fun q => by simpa only [VR] using q
theorem vrInt {h : Heap} {ρ : Rho} {w : Value} {i : Int} : VR x h ρ (.int i) w → ∃ t, w = .int i t := fun q => by simpa only [VR] using q
theorem vrStr {h : Heap} {ρ : Rho} {w : Value} {l : List Nat} : VR x h ρ (.str l) w → ∃ t, w = .str ⟨l.toArray⟩ t := fun q => by simpa only [VR] using q
theorem vrTup {h : Heap} {ρ : Rho} {w : Value} {vs : List V} : VR x h ρ (.tup vs) w → ∃ a ws, w = .ref a ∧ h.IsTuple a ws.toArray ∧ VRs x h ρ vs ws := fun q => by simpa only [VR] using q
theorem vrRef {h : Heap} {ρ : Rho} {w : Value} {i : Nat} : VR x h ρ (.ref i) w → ∃ p, ρ[i]? = some p ∧ w = .ref p.1 := fun q => by simpa only [VR] using q
theorem vrRng {h : Heap} {ρ : Rho} {w : Value} {i : Int} : VR x h ρ (.rng i) w → ∃ a t u v, w = .ref a ∧ IsRange h a 0 i 1 t u v ∧ 0 ≤ i ∧ i < 2 ^ 31 := fun q => by simpa only [VR] using q
theorem vrDct {h : Heap} {ρ : Rho} {w : Value} {es : List (List Nat × Int)} : VR x h ρ (.dct es) w → ∃ a, w = .ref a ∧ StrTab x.prog x.w x.hB a (dctD es) := fun q => by simpa only [VR] using q
theorem vrInts {h : Heap} {ρ : Rho} {w : Value} {l : List Int} : VR x h ρ (.ints l) w → ∃ a ws, w = .ref a ∧ x.hB.IsList a ws.toArray ∧ IntsAre ws l ∧ l.length < 64 := fun q => by simpa only [VR] using q
theorem vr_int {h : Heap} {ρ : Rho} (i : Int) (t : Tok) : VR x h ρ (.int i) (.int i t) := by simp only [VR]; exact ⟨t, rfl⟩
theorem vr_str {h : Heap} {ρ : Rho} (l : List Nat) (t : Tok) : VR x h ρ (.str l) (.str ⟨l.toArray⟩ t) := by simp only [VR]; exact ⟨t, rfl⟩
theorem vr_bool {h : Heap} {ρ : Rho} (b : Bool) : VR x h ρ (.bool b) (.bool b) := by simp only [VR]


theorem append_mk (a b : List Nat) : (Str.mk a.toArray) ++ (Str.mk b.toArray) = Str.mk (a ++ b).toArray := by
  apply Str.ext'
  show (a.toArray ++ b.toArray) = _
  simp

theorem binV_sim {op : Operator} {va vb v : V} {wa wb : Value} {A : Around} {s : Shared} {ρ : Rho} {o : Obs} {Q : Value → Shared → Prop} {E : Value → Shared → Prop}
    (hg : Gd x ρ o s.heap) (qa : VR x s.heap ρ va wa) (qb : VR x s.heap ρ vb wb) (h : binV op va vb = some v)
    (hQ : ∀ s' w, Mv x [] ρ s ρ o s' → VR x s'.heap ρ v w → Q w s') : wpAny (model x.prog x.w) A (binaryOp op wa wb) Q E s := by
  unfold binV at h
  split at h
  · cases h; obtain ⟨t, rfl⟩ := vrInt qa; obtain ⟨u, rfl⟩ := vrInt qb
    exact add_int (hQ _ _ (tok1 hg) (vr_int _ _))
  · cases h; obtain ⟨t, rfl⟩ := vrInt qa; obtain ⟨u, rfl⟩ := vrInt qb
    exact sub_int (hQ _ _ (tok1 hg) (vr_int _ _))
  · split at h
    · rename_i hc
      cases h; obtain ⟨t, rfl⟩ := vrInt qa; obtain ⟨u, rfl⟩ := vrInt qb
      exact mul_int (hQ _ _ (tok1 hg) (vr_int _ _)) (IntMulOk.of_left (intBits_le_64 (by omega) (by omega)))
    · cases h
  · split at h
    · rename_i a b hc
      cases h; obtain ⟨t, rfl⟩ := vrInt qa; obtain ⟨u, rfl⟩ := vrInt qb
      refine floordiv_int (by omega) (hQ _ _ (tok1 hg) (vr_int _ _)) (.inl ?_)
      unfold Builtin.divisionGoesByPylong
      have hb : ((if b == 0 then 0 else b.natAbs.log2 / 30 + 1) : Nat) ≤ 300 := by
        split
        · omega
        · have h1 : b.natAbs < 2 ^ 31 := by omega
          have h2 : b.natAbs.log2 < 31 := (Nat.log2_lt (by omega)).mpr h1
          omega
      simp only [Bool.and_eq_false_iff, decide_eq_false_iff_not]
      exact .inl (by omega)
    · cases h
  · split at h
    · cases h
    · rename_i hc
      cases h; obtain ⟨t, rfl⟩ := vrInt qa; obtain ⟨u, rfl⟩ := vrInt qb
      exact mod_int' hc (hQ _ _ (tok1 hg) (vr_int _ _))
  · split at h
    · rename_i hc
      cases h; obtain ⟨t, rfl⟩ := vrInt qa; obtain ⟨u, rfl⟩ := vrInt qb
      obtain ⟨rfl, rfl⟩ := hc
      exact pow_int (by decide) (by decide +kernel) (hQ _ _ (tok1 hg) (vr_int _ _))
    · cases h
  · split at h
    · rename_i a b hc
      cases h; obtain ⟨t, rfl⟩ := vrStr qa; obtain ⟨u, rfl⟩ := vrStr qb
      refine add_str (fun t' tk => ?_) (by rw [fact_mk, fact_mk, sizeLine_eq]; exact hc)
      rw [append_mk]
      exact hQ _ _ (mv_tok hg tk) (vr_str _ _)
    · cases h
  · split at h
    · rename_i a b hc
      cases h; obtain ⟨t, rfl⟩ := vrStr qa; obtain ⟨u, rfl⟩ := vrInt qb
      obtain ⟨h0, h1, h2⟩ := hc
      refine SB.mul ⟨?_, ?_, ?_⟩ (fun t' tk => ?_)
      · simp only [Bool.or_eq_false_iff, decide_eq_false_iff_not]; omega
      · intro h3 h4; rw [show b = 1 from by omega] at h4; simp at h4
      · intro h3 h4; rw [show b = 1 from by omega] at h4; simp at h4
      · rcases (show b = 0 ∨ b = 1 from by omega) with rfl | rfl
        · have e : Txt.mul (Str.mk a.toArray) 0 = Str.mk ([] : List Nat).toArray := by unfold Txt.mul; simp; rfl
          rw [e]
          exact hQ _ _ (mv_tok hg tk) (by simpa using vr_str (x := x) [] _)
        · have e : Txt.mul (Str.mk a.toArray) 1 = Str.mk a.toArray := by unfold Txt.mul; simp
          rw [e]
          exact hQ _ _ (mv_tok hg tk) (by simpa using vr_str (x := x) a _)
    · cases h
  · cases h

theorem isList_of {ws : List Value} {k : Nat} {h : Heap} {a : Addr} (e : h.get? a = some (lstOf ws k)) : h.IsList a ws.toArray := ⟨_, e, rfl, _, rfl⟩

theorem new_list {ρ : Rho} {o : Obs} {s : Shared} {vs : List V} {ws : List Value} (hg : Gd x ρ o s.heap) (q : VRs x s.heap ρ vs ws) :
    Mv x [] ρ s (ρ ++ [(s.heap.objs.size, s.heap.objs.size)]) (o ++ [.list vs]) { s with heap := s.heap.push (lstOf ws 0) } ∧
      VR x (s.heap.push (lstOf ws 0)) (ρ ++ [(s.heap.objs.size, s.heap.objs.size)]) (.ref o.length) (.ref s.heap.objs.size) := by
  refine ⟨mv_grow (p := (s.heap.objs.size, s.heap.objs.size)) hg (Step.push _ _ _) (get_size _) ?_ s.toks, ?_⟩
  · unfold OR
    exact ⟨rfl, ws, 0, Heap.get?_push_size _ rfl, VRs.mono (Step.push [] _ _) ⟨_, rfl⟩ q⟩
  · unfold VR
    exact ⟨(s.heap.objs.size, s.heap.objs.size), by rw [← hg.len, List.getElem?_append_right (Nat.le_refl _)]; simp, rfl⟩

theorem simE_bin {op : Operator} {a b : EM V} {ea eb : Expr} {pos} (ha : SimE x n sc a ea) (hb : SimE x n sc b eb) : SimE x n sc (binM op a b) (.BinOp ea op eb pos) := by
  intro A env ρ l o s v o' Q E hr he hg hl hm hQ
  obtain ⟨p, hp, hm1⟩ := bind2 hm
  obtain ⟨q, hq, hm2⟩ := bind2 hm1
  clear hm hm1
  refine wpAny_BinOp (ha A env ρ l o s p.1 p.2 _ E hr he hg hl hp fun ρ₁ s₁ wa M₁ qa => ?_)
  refine hb A env ρ₁ l p.2 s₁ q.1 q.2 _ E hr he M₁.good (hl.mv M₁) hq fun ρ₂ s₂ wb M₂ qb => ?_
  have qa' := M₂.vr qa
  have M := M₁.trans M₂
  split at hm2
  · rename_i i j e1 e2
    rw [e1] at qa'; rw [e2] at qb
    split at hm2
    · rename_i xs ys f1 f2
      split at hm2
      · rename_i hc
        cases hm2
        obtain ⟨pa, ha1, rfl⟩ := vrRef qa'
        obtain ⟨pb, hb1, rfl⟩ := vrRef qb
        have ra := M.good.obj _ _ _ ha1 f1
        have rb := M.good.obj _ _ _ hb1 f2
        simp only [OR] at ra rb
        obtain ⟨ea1, wsa, na, ga, va⟩ := ra
        obtain ⟨eb1, wsb, nb, gb, vb⟩ := rb
        rw [ea1, eb1]
        have hsz : wsa.length + wsb.length ≤ 1000 := by rw [← va.length, ← vb.length]; exact hc
        refine concat_meets ⟨_, ga, rfl⟩ ⟨_, gb, rfl⟩ noFill_list_add seq_list_add PySem.F.slot_list_add PySem.F.entry_list_add (PySem.F.args_list_add_2 _ _) (list_addW pa.2 pb.2 wsa.toArray wsb.toArray na nb none none #[] #[] (by rw [sizeLine_eq]; simp; omega)) ⟨ga, gb, ?_⟩
        have e : wsa.toArray ++ wsb.toArray = (wsa ++ wsb).toArray := by simp
        rw [e]
        have N := new_list M.good (va.append vb)
        exact hQ _ _ _ (M.trans N.1) N.2
      · cases hm2
    · cases hm2
  · obtain ⟨v', hv, hm3⟩ := map2 hm2
    cases hm3
    exact binV_sim M₂.good qa' qb hv fun s' w M₃ q₃ => hQ _ _ _ (M.trans M₃) q₃

theorem simE_neg {a : EM V} {ea : Expr} {pos} (ha : SimE x n sc a ea) : SimE x n sc (negM a) (.UnaryOp .USub ea pos) := by
  intro A env ρ l o s v o' Q E hr he hg hl hm hQ
  obtain ⟨p, hp, hm1⟩ := bind2 hm
  clear hm
  refine wpAny_UnaryOp (ha A env ρ l o s p.1 p.2 _ E hr he hg hl hp fun ρ₁ s₁ wa M₁ qa => ?_)
  split at hm1
  · rename_i i e
    cases hm1
    rw [e] at qa
    obtain ⟨t, rfl⟩ := vrInt qa
    exact neg_int (hQ _ _ _ (M₁.trans (tok1 M₁.good)) (vr_int _ _))
  · cases hm1

theorem strs_of {h : Heap} {ρ : Rho} : ∀ {vs : List V} {ws : List Value} {ys : List (List Nat)}, strsOf vs = some ys → VRs x h ρ vs ws → StrsAre ws (ys.map fun y => Str.mk y.toArray)
  | [], ws, ys, e, q => by
    cases e
    cases ws with
    | nil => exact .nil
    | cons w ws => simp only [VRs] at q
  | v :: vs, ws, ys, e, q => by
    cases ws with
    | nil => simp only [VRs] at q
    | cons w ws =>
      simp only [VRs] at q
      cases v <;> simp only [strsOf] at e <;> first | cases e | skip
      obtain ⟨ys', e', rfl⟩ := map2 e
      obtain ⟨t, rfl⟩ := vrStr q.1
      exact .cons _ _ (strs_of e' q.2)

theorem beq_mk (a b : List Nat) : (Str.mk a.toArray == Str.mk b.toArray) = (a == b) := by
  rw [Bool.eq_iff_iff, beq_iff_eq, beq_iff_eq]
  constructor
  · intro h; injection h with h; simpa using h
  · rintro rfl; rfl

theorem any_mk (a : List Nat) (ys : List (List Nat)) : (ys.map fun y => Str.mk y.toArray).any (· == Str.mk a.toArray) = ys.any (fun y => y == a) := by
  rw [List.any_map]; congr 1; funext y; exact beq_mk y a

theorem eqA_at {A : Around} {s : Shared} {ρ : Rho} {a b : V} {wa wb : Value} (e : eqA a b = true) (qa : VR x s.heap ρ a wa) (qb : VR x s.heap ρ b wb) : EqAt A s wa wb true := by
  cases a <;> cases b <;> simp only [eqA] at e <;> first | cases e | skip
  · rw [vrNone qa, vrNone qb]; exact EqAt.same _
  · obtain ⟨t, rfl⟩ := vrInt qa; obtain ⟨u, rfl⟩ := vrInt qb
    have e' := of_decide_eq_true e; subst e'
    have := EqAt.int_int (A := A) (s := s) ‹Int› t ‹Int› u
    rwa [beq_self_eq_true] at this
  · obtain ⟨t, rfl⟩ := vrStr qa; obtain ⟨u, rfl⟩ := vrStr qb
    have e' := eq_of_beq e; subst e'
    have := EqAt.str_str (A := A) (s := s) (Str.mk ‹List Nat›.toArray) t (Str.mk ‹List Nat›.toArray) u
    rwa [beq_self_eq_true] at this

theorem eqAs_at {A : Around} {s : Shared} {ρ : Rho} : ∀ {a b : List V} {wa wb : List Value}, eqAs a b = true → VRs x s.heap ρ a wa → VRs x s.heap ρ b wb → wa.length = wb.length ∧ ∀ j (h1 : j < wa.length) (h2 : j < wb.length), EqAt A s wa[j] wb[j] true
  | [], [], [], [], _, _, _ => ⟨rfl, fun j h1 => by simp at h1⟩
  | a :: r, b :: q, wa :: ra, wb :: rb, e, qa, qb => by
    simp only [eqAs, Bool.and_eq_true] at e
    simp only [VRs] at qa qb
    obtain ⟨i1, i2⟩ := eqAs_at (A := A) e.2 qa.2 qb.2
    refine ⟨by simp [i1], fun j h1 h2 => ?_⟩
    cases j with
    | zero => exact eqA_at e.1 qa.1 qb.1
    | succ j => exact i2 j (by simpa using h1) (by simpa using h2)
  | [], _ :: _, _, _, e, _, _ => by simp only [eqAs] at e; cases e
  | _ :: _, [], _, _, e, _, _ => by simp only [eqAs] at e; cases e
  | [], [], _ :: _, _, _, qa, _ => by simp only [VRs] at qa
  | [], [], [], _ :: _, _, _, qb => by simp only [VRs] at qb
  | _ :: _, _ :: _, [], _, _, qa, _ => by simp only [VRs] at qa
  | _ :: _, _ :: _, _ :: _, [], _, _, qb => by simp only [VRs] at qb

theorem all_true (k : Nat) (f : Nat → Bool) (h : ∀ j, j < k → f j = true) : (List.range k).all f = true := by
  rw [List.all_eq_true]; intro j hj; exact h j (List.mem_range.mp hj)

theorem eqV_at {A : Around} {s : Shared} {ρ : Rho} {a b : V} {wa wb : Value} (hu : A.units < 9800) (e : eqV a b = true) (qa : VR x s.heap ρ a wa) (qb : VR x s.heap ρ b wb) : EqAt A s wa wb true := by
  cases a <;> cases b <;> simp only [eqV] at e <;> first | cases e | skip
  obtain ⟨la, wsa, rfl, ta, va⟩ := vrTup qa
  obtain ⟨lb, wsb, rfl, tb, vb⟩ := vrTup qb
  by_cases hne : la = lb
  · subst hne; exact EqAt.same _
  · obtain ⟨hlen, hall⟩ := eqAs_at (A := A.in1) e va vb
    refine EqAt.of_refs hne ?_
    have := RcAt.tuples (A := A) (e := fun _ => true) ta tb (by rw [cLine_is]; omega) (fun j h1 h2 => by
      have h1' : j < wsa.length := by simpa using h1
      have h2' : j < wsb.length := by simpa using h2
      have := hall j h1' h2'
      simpa using this)
    have e2 : ((List.range (min wsa.toArray.size wsb.toArray.size)).all (fun _ => true) && wsa.toArray.size == wsb.toArray.size) = true := by
      rw [all_true _ _ (fun _ _ => rfl)]; simp [hlen]
    rwa [e2] at this

theorem eqVs_at {A : Around} {s : Shared} {ρ : Rho} (hu : A.units < 9800) : ∀ {a b : List V} {wa wb : List Value}, eqVs a b = true → VRs x s.heap ρ a wa → VRs x s.heap ρ b wb → wa.length = wb.length ∧ ∀ j (h1 : j < wa.length) (h2 : j < wb.length), EqAt A s wa[j] wb[j] true
  | [], [], [], [], _, _, _ => ⟨rfl, fun j h1 => by simp at h1⟩
  | a :: r, b :: q, wa :: ra, wb :: rb, e, qa, qb => by
    simp only [eqVs, Bool.and_eq_true] at e
    simp only [VRs] at qa qb
    obtain ⟨i1, i2⟩ := eqVs_at hu e.2 qa.2 qb.2
    refine ⟨by simp [i1], fun j h1 h2 => ?_⟩
    cases j with
    | zero => exact eqV_at hu e.1 qa.1 qb.1
    | succ j => exact i2 j (by simpa using h1) (by simpa using h2)
  | [], _ :: _, _, _, e, _, _ => by simp only [eqVs] at e; cases e
  | _ :: _, [], _, _, e, _, _ => by simp only [eqVs] at e; cases e
  | [], [], _ :: _, _, _, qa, _ => by simp only [VRs] at qa
  | [], [], [], _ :: _, _, _, qb => by simp only [VRs] at qb
  | _ :: _, _ :: _, [], _, _, qa, _ => by simp only [VRs] at qa
  | _ :: _, _ :: _, _ :: _, [], _, _, qb => by simp only [VRs] at qb

theorem one1_eq {a : List Nat} (h : one1 a = true) : ∃ c, a = [c] := by
  cases a with
  | nil => cases h
  | cons c r => cases r with
    | nil => exact ⟨c, rfl⟩
    | cons _ _ => cases h

theorem lookup_dct (a : List Nat) : ∀ es : List (List Nat × Int), (Spec.lookup (PyData.str (Str.mk a.toArray)) (dctD es)) = (dctGet a es).map PyData.int
  | [] => rfl
  | e :: r => by
    have ih := lookup_dct a r
    show (if Spec.same (PyData.str (Str.mk e.1.toArray)) (PyData.str (Str.mk a.toArray)) = true then some (PyData.int e.2) else Spec.lookup _ (dctD r)) = _
    rw [ih]
    have e2 : Spec.same (PyData.str (Str.mk e.1.toArray)) (PyData.str (Str.mk a.toArray)) = (a == e.1) := by
      show (Str.mk e.1.toArray == Str.mk a.toArray) = _
      rw [beq_mk, Bool.beq_comm]
    rw [e2]
    simp only [dctGet]
    cases h : a == e.1 <;> simp

theorem dctGet_any (a : List Nat) : ∀ es : List (List Nat × Int), (dctGet a es).isSome = es.any fun e => a == e.1
  | [] => rfl
  | e :: r => by
    simp only [dctGet, List.any_cons]
    cases h : a == e.1
    · simpa using dctGet_any a r
    · simp

theorem cmpV_sim {op : CmpOp} {va vb : V} {b : Bool} {wa wb : Value} {A : Around} {s : Shared} {ρ : Rho} {o : Obs} {Q : Value → Shared → Prop} {E : Value → Shared → Prop}
    (hr : Room A n) (hg : Gd x ρ o s.heap) (qa : VR x s.heap ρ va wa) (qb : VR x s.heap ρ vb wb) (h : cmpV op va vb o = some b)
    (hQ : ∀ s', Mv x [] ρ s ρ o s' → Q (.bool b) s') : wpAny (model x.prog x.w) A (compareOp op wa wb) Q E s := by
  have hu : A.units ≤ 9000 := by have := hr.un; omega
  have hQ0 := hQ s (mv_new hg)
  unfold cmpV at h
  split at h
  · unfold cmpEq at h
    split at h
    · cases h; obtain ⟨t, rfl⟩ := vrInt qa; obtain ⟨u, rfl⟩ := vrInt qb; exact eq_int hQ0
    · cases h; obtain ⟨t, rfl⟩ := vrStr qa; obtain ⟨u, rfl⟩ := vrStr qb; exact eq_str (by rw [beq_mk]; exact hQ0)
    · split at h
      · rename_i i j xs ys f1 f2
        obtain ⟨pa, ha1, rfl⟩ := vrRef qa
        obtain ⟨pb, hb1, rfl⟩ := vrRef qb
        have ra := hg.obj _ _ _ ha1 f1
        have rb := hg.obj _ _ _ hb1 f2
        simp only [OR] at ra rb
        obtain ⟨ea1, wsa, na, ga, va⟩ := ra
        obtain ⟨eb1, wsb, nb, gb, vb⟩ := rb
        rw [ea1, eb1]
        split at h
        · cases h
          have hwb : wsb = [] := by have := vb.length; simpa using this.symm
          subst hwb
          have hl := va.length
          cases xs with
          | nil =>
            have hwa : wsa = [] := by simpa using hl.symm
            subst hwa
            refine eq_listAt (e := fun _ => true) (isList_of ga) (isList_of gb) rfl (by rw [cLine_is]; omega) (fun j h1 => by simp at h1) ?_
            simpa using hQ0
          | cons _ _ =>
            refine eq_list_lengthsAt (isList_of ga) (isList_of gb) ?_ (by rw [cLine_is]; omega) hQ0
            simp only [List.length_cons] at hl
            simp only [List.size_toArray, List.length_nil, bne_iff_ne]
            omega
        · split at h
          · rename_i hc
            cases h
            obtain ⟨hlen, hall⟩ := eqVs_at (A := A.in1) (by show A.units + 1 < 9800; omega) hc.2 va vb
            refine eq_listAt (e := fun _ => true) (isList_of ga) (isList_of gb) (by simpa using hlen) (by rw [cLine_is]; omega) (fun j h1 h2 => ?_) ?_
            · have h1' : j < wsa.length := by simpa using h1
              have h2' : j < wsb.length := by simpa using h2
              simpa using hall j h1' h2'
            · rw [all_true _ _ (fun _ _ => rfl)]; exact hQ0
          · cases h
      · cases h
    · cases h
  · unfold cmpNe at h
    split at h
    · cases h; obtain ⟨t, rfl⟩ := vrInt qa; obtain ⟨u, rfl⟩ := vrInt qb; exact ne_int hQ0
    · cases h; obtain ⟨t, rfl⟩ := vrStr qa; obtain ⟨u, rfl⟩ := vrStr qb; exact ne_str (by unfold bne; rw [beq_mk]; exact hQ0)
    · cases h
  · unfold cmpInt at h
    split at h
    · cases h; obtain ⟨t, rfl⟩ := vrInt qa; obtain ⟨u, rfl⟩ := vrInt qb; exact lt_int hQ0
    · cases h
  · unfold cmpLe at h
    split at h
    · cases h; obtain ⟨t, rfl⟩ := vrInt qa; obtain ⟨u, rfl⟩ := vrInt qb; exact le_int hQ0
    · split at h
      · rename_i a b' hc
        cases h; obtain ⟨t, rfl⟩ := vrStr qa; obtain ⟨u, rfl⟩ := vrStr qb
        rw [Bool.and_eq_true] at hc
        obtain ⟨c, rfl⟩ := one1_eq hc.1
        obtain ⟨d, rfl⟩ := one1_eq hc.2
        refine P.le_str ?_
        have : (!decide ((Str.mk [d].toArray).cps.toList < (Str.mk [c].toArray).cps.toList)) = strLe [c] [d] := by
          have e : ([d] < [c]) ↔ d < c := by simp [List.cons_lt_cons_iff]
          show (!decide ([d] < [c])) = decide (c ≤ d)
          rw [Bool.eq_iff_iff]; simp only [e, Bool.not_eq_true', decide_eq_false_iff_not, decide_eq_true_eq]; omega
        rw [this]; exact hQ0
      · cases h
    · cases h
  · unfold cmpInt at h
    split at h
    · cases h; obtain ⟨t, rfl⟩ := vrInt qa; obtain ⟨u, rfl⟩ := vrInt qb; exact gt_int hQ0
    · cases h
  · unfold cmpInt at h
    split at h
    · cases h; obtain ⟨t, rfl⟩ := vrInt qa; obtain ⟨u, rfl⟩ := vrInt qb; exact ge_int hQ0
    · cases h
  · unfold cmpIn at h
    split at h
    · split at h
      · rename_i a b' hc
        cases h; obtain ⟨t, rfl⟩ := vrStr qa; obtain ⟨u, rfl⟩ := vrStr qb
        obtain ⟨c, rfl⟩ := one1_eq hc
        refine PyProof.Rows.in_str ?_
        have := StrLaws.found_one (Str.mk b'.toArray) c
        rw [show (Str.mk [c].toArray) = (⟨#[c]⟩ : Str) from rfl, this]
        have e : decide (c ∈ (Str.mk b'.toArray).cps.toList) = b'.contains ([c].headD 0) := by
          simp
        rw [e]; exact hQ0
      · cases h
    · obtain ⟨ys, e, rfl⟩ := map2 h
      obtain ⟨t, rfl⟩ := vrStr qa
      obtain ⟨a, ws, rfl, ht, hv⟩ := vrTup qb
      exact in_tuple_strs ht (by simpa using strs_of e hv) (by rw [any_mk]; exact hQ0)
    · split at h
      · rename_i vs e0
        obtain ⟨ys, e, rfl⟩ := map2 h
        obtain ⟨t, rfl⟩ := vrStr qa
        obtain ⟨p, hp, rfl⟩ := vrRef qb
        have r := hg.obj _ _ _ hp e0
        simp only [OR] at r
        obtain ⟨ep, ws, k, hgt, hv⟩ := r
        rw [ep]
        exact in_list_strs (isList_of hgt) (strs_of e hv) (by rw [any_mk]; exact hQ0)
      · cases h
    · cases h
      obtain ⟨t, rfl⟩ := vrStr qa
      obtain ⟨a, rfl, T⟩ := vrDct qb
      refine in_strTab (TabAt.keep T hg.base) ?_
      rw [lookup_dct, Option.isSome_map, dctGet_any]
      exact hQ _ (tok1 hg)
    · cases h
  · unfold cmpIs at h
    split at h
    · cases h; rw [vrNone qa, vrNone qb]; exact is_none (by simpa using hQ0)
    · cases h; obtain ⟨t, rfl⟩ := vrInt qa; rw [vrNone qb]; exact is_none hQ0
    · cases h; obtain ⟨t, rfl⟩ := vrStr qa; rw [vrNone qb]; exact is_none hQ0
    · cases h
  · cases h

theorem simE_cmp {op : CmpOp} {a b : EM V} {ea eb : Expr} {pos} (ha : SimE x n sc a ea) (hb : SimE x n sc b eb) (hm' : behindInMarks op eb = false := by with_unfolding_all rfl) : SimE x n sc (cmpM op a b) (.Compare ea [op] [eb] pos) := by
  intro A env ρ l o s v o' Q E hr he hg hl hm hQ
  obtain ⟨p, hp, hm⟩ := bind2 hm
  obtain ⟨q, hq, hm⟩ := bind2 hm
  obtain ⟨r, hr', hm⟩ := map2 hm
  cases hm
  refine wpAny_Compare1 (ha A env ρ l o s p.1 p.2 _ E hr he hg hl hp fun ρ₁ s₁ wa M₁ qa => ?_) hm'
  refine hb A env ρ₁ l p.2 s₁ q.1 q.2 _ E hr he M₁.good (hl.mv M₁) hq fun ρ₂ s₂ wb M₂ qb => ?_
  exact cmpV_sim hr M₂.good (M₂.vr qa) qb hr' fun s₃ M₃ => hQ _ _ _ ((M₁.trans M₂).trans M₃) (vr_bool _)

theorem simT_cmp {op : CmpOp} {a b : EM V} {ea eb : Expr} {pos} (ha : SimE x n sc a ea) (hb : SimE x n sc b eb) (hm' : behindInMarks op eb = false := by with_unfolding_all rfl) : SimT x n sc (testM (cmpM op a b)) (.Compare ea [op] [eb] pos) := by
  intro A env ρ l o s v o' Q E hr he hg hl hm hQ
  obtain ⟨p', hp', hm⟩ := bind2 hm
  obtain ⟨p, hp, hp'⟩ := bind2 hp'
  obtain ⟨q, hq, hp'⟩ := bind2 hp'
  obtain ⟨r, hr', hp'⟩ := map2 hp'
  subst hp'
  obtain ⟨b', hb', hm⟩ := map2 hm
  cases hm
  cases hb'
  refine wpAny_isTrue_Compare1 (ha A env ρ l o s p.1 p.2 _ E hr he hg hl hp fun ρ₁ s₁ wa M₁ qa => ?_) hm'
  refine hb A env ρ₁ l p.2 s₁ q.1 q.2 _ E hr he M₁.good (hl.mv M₁) hq fun ρ₂ s₂ wb M₂ qb => ?_
  exact cmpV_sim hr M₂.good (M₂.vr qa) qb hr' fun s₃ M₃ => wpAny_truthy_bool (hQ _ _ ((M₁.trans M₂).trans M₃))
end

end Mine
end

section
open PySem PySem.W PySem.Calls PyProof.Rows PySem.SeqAt
set_option linter.unusedVariables false
namespace Mine

structure ClsOk (x : X) (c : Str) (C : Addr) : Prop where
  ga : findIn x.K (.ref C) "__getattribute__" = some (some (.builtin "object.__getattribute__"))
  gt : findIn x.K (.ref C) "__getattr__" = some none
  sa : findIn x.K (.ref C) "__setattr__" = some (some (.builtin "object.__setattr__"))
  hd : hasDictIn x.K C = true
  po : plainOver x.K C = true
  mkr : makesIn x.K C = true
  kp : keepIn x.K (.ref C) = true
  attr : ∀ nm ∈ attrNames, findIn x.K (.ref C) nm = some none
  meth : ∀ m a, x.fn c m = some a → findIn x.K (.ref C) m = some (some (.ref a)) ∧ typeIn x.K (.ref a) = some (.type "function")

noncomputable def ClsAll (x : X) : Prop := ∀ c C, x.cls c = some C → ClsOk x c C

section
variable {x : X} {n : Nat} {sc : Scope}

theorem kin (X : XOk x) {ρ : Rho} {o : Obs} {h : Heap} (g : Gd x ρ o h) : x.K.In h := fun a ob e => g.base _ _ (X.kin a ob e)

theorem simE_list {ms : List (EM V)} {es : List Expr} {pos} (h : SimL x n sc ms es) (hlen' : Nat.ble es.length 100 = true := by kernel_rfl) : SimE x n sc (listM ms) (.List es pos) := by
  intro A env ρ l o s v o' Q E hr he hg hl hm hQ
  obtain ⟨p, hp, hm1⟩ := map2 hm
  cases hm1
  have hlen := Nat.le_of_ble_eq_true hlen'
  have hml := h.1.1
  refine wpAny_List (h.2 A env ρ l o s p.1 p.2 pos _ E hr he hg hl hp fun ρ₁ s₁ ws M₁ q₁ => ⟨?_, ?_⟩)
  · have e1 : p.1.length = ms.length := by
      have : ∀ (ms : List (EM V)) o vs o', seqM ms l o = some (vs, o') → vs.length = ms.length := by
        intro ms
        induction ms with
        | nil => intro o vs o' e; cases e; rfl
        | cons m r ih =>
          intro o vs o' e
          obtain ⟨p, hp, e⟩ := bind2 e
          obtain ⟨q, hq, e⟩ := bind2 e
          cases e
          simp [ih _ _ _ hq]
      exact this ms o p.1 p.2 hp
    rw [← q₁.length, e1, hml, sizeLine_eq]; omega
  · have N := new_list M₁.good q₁
    exact hQ _ _ _ (M₁.trans N.1) N.2

theorem seqM_len {l : Loc} : ∀ {ms : List (EM V)} {o : Obs} {vs : List V} {o' : Obs}, seqM ms l o = some (vs, o') → vs.length = ms.length
  | [], _, _, _, e => by cases e; rfl
  | m :: r, _, _, _, e => by
    obtain ⟨p, hp, e⟩ := bind2 e
    obtain ⟨q, hq, e⟩ := bind2 e
    cases e
    simp [seqM_len hq]

theorem simE_tup {ms : List (EM V)} {es : List Expr} {k pos} (h : SimL x n sc ms es) (hlen' : Nat.ble es.length 100 = true := by kernel_rfl) : SimE x n sc (tupM ms) (.Tuple es k pos) := by
  intro A env ρ l o s v o' Q E hr he hg hl hm hQ
  obtain ⟨p, hp, hm1⟩ := map2 hm
  cases hm1
  have hlen := Nat.le_of_ble_eq_true hlen'
  have hml := h.1.1
  refine wpAny_Tuple (h.2 A env ρ l o s p.1 p.2 pos _ E hr he hg hl hp fun ρ₁ s₁ ws M₁ q₁ => ⟨?_, ?_⟩)
  · rw [← q₁.length, seqM_len hp, hml, sizeLine_eq]; omega
  · have M₂ : Mv x [] ρ₁ s₁ ρ₁ p.2 { s₁ with heap := s₁.heap.push { cls := .type "tuple", data := .seq ws.toArray } } := mv_push M₁.good _ s₁.toks
    refine hQ _ _ _ (M₁.trans M₂) ?_
    simp only [VR]
    exact ⟨_, ws, rfl, ⟨_, Heap.get?_push_size _ rfl, rfl, 0, rfl⟩, M₂.vrs q₁⟩

theorem simT_cmp2 {op₁ op₂ : CmpOp} {a b d : EM V} {ea eb ed : Expr} {pos} (ha : SimE x n sc a ea) (hb : SimE x n sc b eb) (hd : SimE x n sc d ed)
    (hm' : lastMarks [op₁, op₂] [eb, ed] = false := by with_unfolding_all rfl) : SimT x n sc (testM (cmp2M op₁ op₂ a b d)) (.Compare ea [op₁, op₂] [eb, ed] pos) := by
  intro A env ρ l o s v o' Q E hr he hg hl hm hQ
  obtain ⟨p', hp', hm1⟩ := bind2 hm
  obtain ⟨p, hp, hp1⟩ := bind2 hp'
  obtain ⟨q, hq, hp2⟩ := bind2 hp1
  obtain ⟨r, hr', hp3⟩ := bind2 hp2
  clear hm hp' hp1 hp2
  refine isTrue_chain (ha A env ρ l o s p.1 p.2 _ E hr he hg hl hp fun ρ₁ s₁ wa M₁ qa => ?_) hm'
  show wpAny _ A (do
    let rv ← holding [wa] (eval eb env)
    standAt pos
    let c ← holding [wa, rv] (compareOp op₁ wa rv)
    release [wa, rv] [c]
    if ← holding [c, rv] (truthy c) then testChain pos rv [op₂] [eval ed env] else pure false) Q E s₁
  refine wpAny_bind (wpAny_holding (hb A env ρ₁ l p.2 s₁ q.1 q.2 _ E hr he M₁.good (hl.mv M₁) hq fun ρ₂ s₂ wb M₂ qb => ?_))
  refine wpAny_bind (wpAny_standAt (wpAny_bind (wpAny_holding ?_)))
  refine cmpV_sim hr M₂.good (M₂.vr qa) qb hr' fun s₃ M₃ => ?_
  refine wpAny_bind (wpAny_release (wpAny_bind (wpAny_holding (wpAny_truthy_bool ?_))))
  have M := (M₁.trans M₂).trans M₃
  cases r with
  | false =>
    cases hp3
    obtain ⟨b', hb', hm2⟩ := map2 hm1
    cases hb'; cases hm2
    exact wpAny_pure (hQ _ _ M)
  | true =>
    obtain ⟨u, hu, hp4⟩ := bind2 hp3
    obtain ⟨r2, hr2, hp5⟩ := map2 hp4
    subst hp5
    obtain ⟨b', hb', hm2⟩ := map2 hm1
    cases hb'; cases hm2
    show wpAny _ A (do
      let rv ← holding [wb] (eval ed env)
      standAt pos
      let c ← operate [wb, rv] (compareOp op₂ wb rv)
      holding [c] (truthy c)) Q E s₃
    refine wpAny_bind (wpAny_holding (hd A env ρ₂ l q.2 s₃ u.1 u.2 _ E hr he M₃.good (hl.mv M) hu fun ρ₄ s₄ wd M₄ qd => ?_))
    refine wpAny_bind (wpAny_standAt (wpAny_bind (wpAny_operateT ?_)))
    refine cmpV_sim hr M₄.good (M₄.vr (M₃.vr qb)) qd hr2 fun s₅ M₅ => ?_
    exact wpAny_holding (wpAny_truthy_bool (hQ _ _ ((M.trans M₄).trans M₅)))

theorem isStr_iff {k : Value} {a b : Str} {t : Tok} (e : k = .str a t) : k.isStr b = (a == b) := by subst e; rfl

theorem FRs.find {h : Heap} {ρ : Rho} {nm : Str} {v : V} : ∀ {fs : List (Str × V)} {es : List DictEntry}, FRs x h ρ fs es → fs.lookup nm = some v → ∃ e, es.find? (·.key.isStr nm) = some e ∧ VR x h ρ v e.val
  | [], [], _, e => by simp at e
  | (a, u) :: r, d :: es, q, e => by
    simp only [FRs] at q
    obtain ⟨⟨t, hk⟩, hv, hr⟩ := q
    rw [List.lookup_cons] at e
    rw [List.find?_cons, isStr_iff hk]
    by_cases h1 : nm = a
    · subst h1
      simp only [beq_self_eq_true] at e ⊢
      cases e
      exact ⟨d, rfl, hv⟩
    · have h2 : (nm == a) = false := beq_eq_false_iff_ne.mpr h1
      have h3 : (a == nm) = false := beq_eq_false_iff_ne.mpr (Ne.symm h1)
      simp only [h2] at e
      simp only [h3]
      exact FRs.find hr e
  | [], _ :: _, q, _ => by simp only [FRs] at q
  | _ :: _, [], q, _ => by simp only [FRs] at q
theorem FRs.length {h : Heap} {ρ : Rho} : ∀ {fs : List (Str × V)} {es : List DictEntry}, FRs x h ρ fs es → fs.length = es.length
  | [], [], _ => rfl
  | (a, u) :: r, d :: es, q => by simp only [FRs] at q; simp [FRs.length q.2.2]
  | [], _ :: _, q => by simp only [FRs] at q
  | _ :: _, [], q => by simp only [FRs] at q
theorem FRs.plain {h : Heap} {ρ : Rho} : ∀ {fs : List (Str × V)} {es : List DictEntry}, FRs x h ρ fs es → ∀ e ∈ es, e.refKey = false
  | [], [], _, e, he => by cases he
  | (a, u) :: r, d :: es, q, e, he => by
    simp only [FRs] at q
    rcases List.mem_cons.mp he with rfl | he
    · obtain ⟨t, hk⟩ := q.1; simp [DictEntry.refKey, hk]
    · exact FRs.plain q.2.2 e he
  | [], _ :: _, q, _, _ => by simp only [FRs] at q
  | _ :: _, [], q, _, _ => by simp only [FRs] at q
theorem FRs.put {h : Heap} {ρ : Rho} {nm : Str} {v : V} {w : Value} {hs : Int} {t : Tok} (qv : VR x h ρ v w) : ∀ {fs : List (Str × V)} {es : List DictEntry}, FRs x h ρ fs es → FRs x h ρ (Mine.putL nm v fs) (PySem.W.putL nm hs (.str nm t) w es)
  | [], [], _ => by simp only [Mine.putL, PySem.W.putL, FRs]; exact ⟨⟨t, rfl⟩, qv, trivial⟩
  | (a, u) :: r, d :: es, q => by
    simp only [FRs] at q
    obtain ⟨⟨t', hk⟩, hv, hr⟩ := q
    simp only [Mine.putL, PySem.W.putL, isStr_iff hk]
    by_cases h1 : a = nm
    · subst h1
      simp only [beq_self_eq_true, if_true, FRs]
      exact ⟨⟨t', hk⟩, qv, hr⟩
    · have h3 : (a == nm) = false := beq_eq_false_iff_ne.mpr h1
      simp only [h3, if_neg h1, Bool.false_eq_true, if_false, FRs]
      exact ⟨⟨t', hk⟩, hv, FRs.put qv hr⟩
  | [], _ :: _, q => by simp only [FRs] at q
  | _ :: _, [], q => by simp only [FRs] at q

theorem vr_handed {h : Heap} {ρ : Rho} : ∀ {v : V} {w : Value}, VR x h ρ v w → handedIn w = true
  | .none, w, q => by rw [vrNone q]; rfl
  | .bool _, w, q => by rw [vrBool q]; rfl
  | .int _, w, q => by obtain ⟨t, rfl⟩ := vrInt q; rfl
  | .str _, w, q => by obtain ⟨t, rfl⟩ := vrStr q; rfl
  | .tup _, w, q => by obtain ⟨a, ws, rfl, _⟩ := vrTup q; rfl
  | .ref _, w, q => by obtain ⟨a, _, rfl⟩ := vrRef q; rfl
  | .rng _, w, q => by obtain ⟨a, _, _, _, rfl, _⟩ := vrRng q; rfl
  | .dct _, w, q => by obtain ⟨a, rfl, _⟩ := vrDct q; rfl
  | .ints _, w, q => by obtain ⟨a, ws, rfl, _⟩ := vrInts q; rfl

theorem inst_at {ρ : Rho} {o : Obs} {h : Heap} {i : Nat} {p : Addr × Addr} {c : Str} {fs : List (Str × V)} (g : Gd x ρ o h) (hp : ρ[i]? = some p) (ho : o[i]? = some (.inst c fs)) :
    ∃ C es k, x.cls c = some C ∧ InstAt h p.1 (instObj C p.2) C (some (dctOf es k)) ∧ h.get? p.2 = some (dctOf es k) ∧ FRs x h ρ fs es := by
  have r := g.obj _ _ _ hp ho
  simp only [OR] at r
  obtain ⟨C, es, k, hC, h1, h2, hf⟩ := r
  exact ⟨C, es, k, hC, ⟨h1, rfl, rfl, h2⟩, h2, hf⟩

theorem get_attr {ρ : Rho} {o : Obs} {A : Around} {s : Shared} {i : Nat} {c : Str} {fs : List (Str × V)} {nm : Str} {v : V} {w : Value} {expr : Bool} {Q : Value → Shared → Prop} {E : Value → Shared → Prop}
    (X : XOk x) (CA : ClsAll x) (hn : nm ∈ attrNames) (g : Gd x ρ o s.heap) (q : VR x s.heap ρ (.ref i) w) (ho : o[i]? = some (.inst c fs)) (hv : fs.lookup nm = some v)
    (hQ : ∀ s' u, Mv x [] ρ s ρ o s' → VR x s'.heap ρ v u → Q u s') : wpAny (model x.prog x.w) A (getAttr w nm expr) Q E s := by
  obtain ⟨p, hp, rfl⟩ := vrRef q
  obtain ⟨C, es, k, hC, I, hd, hf⟩ := inst_at g hp ho
  obtain ⟨e, he, hve⟩ := FRs.find hf hv
  have K := CA c C hC
  refine get_value (kin X g) I K.ga (findObj_own K.hd (K.attr nm hn) rfl ?_) (vr_handed hve) (hQ _ _ (tok1 g) hve)
  rw [lookIn_dict]
  unfold getL
  rw [he]

theorem simE_attr {a : EM V} {ea : Expr} {nm : Str} {pos} (X : XOk x) (CA : ClsAll x) (ha : SimE x n sc a ea) (hn : nm ∈ attrNames := by decide)
    (he' : ∀ env, eval (.Attribute ea nm pos) env = (do
      let o ← eval ea env
      standAt pos.atName
      let r ← holding [o] (getAttr o nm true)
      letTemporaryGo ea o r
      pure r) := by intro _; with_unfolding_all rfl) : SimE x n sc (attrM a nm) (.Attribute ea nm pos) := by
  intro A env ρ l o s v o' Q E hr he hg hl hm hQ
  obtain ⟨p, hp, hm1⟩ := bind2 hm
  clear hm
  rw [he' env]
  refine wpAny_bind (ha A env ρ l o s p.1 p.2 _ E hr he hg hl hp fun ρ₁ s₁ w M₁ q => ?_)
  refine wpAny_bind (wpAny_standAt (wpAny_bind (wpAny_holding ?_)))
  split at hm1
  · rename_i i ei
    rw [ei] at q
    split at hm1
    · rename_i c fs ho
      obtain ⟨v', hv, hm2⟩ := map2 hm1
      cases hm2
      refine get_attr X CA hn M₁.good q ho hv fun s₂ u M₂ qu => ?_
      exact wpAny_bind (wpAny_letTemporaryGo (wpAny_pure (hQ _ _ _ (M₁.trans M₂) qu)))
    · cases hm1
  · cases hm1

theorem pick_at {α : Type} {xs : List α} {i : Int} {v : α} (h : pickV xs i = some v) : ∃ j, seqIndex? i xs.length = some j ∧ xs[j]? = some v := by
  unfold pickV at h
  split at h
  · rename_i h0
    have hl := (List.getElem?_eq_some_iff.mp h).1
    refine ⟨i.toNat, ?_, h⟩
    simp only [seqIndex?, if_neg (show ¬ i < 0 by omega)]
    simp; omega
  · split at h
    · rename_i h0 h1
      have hl := (List.getElem?_eq_some_iff.mp h).1
      refine ⟨(i + xs.length).toNat, ?_, h⟩
      simp only [seqIndex?, if_pos (show i < 0 by omega)]
      simp; omega
    · cases h

theorem subV_sim {va vb v : V} {wa wb : Value} {A : Around} {s : Shared} {ρ : Rho} {o : Obs} {Q : Value → Shared → Prop} {E : Value → Shared → Prop} {value slice : Expr}
    (hg : Gd x ρ o s.heap) (qa : VR x s.heap ρ va wa) (qb : VR x s.heap ρ vb wb) (h : subV va vb o = some v)
    (hs : ∀ o i, subscripted slice false o i = operate [o, i] (getItem o i))
    (hQ : ∀ s' w, Mv x [] ρ s ρ o s' → VR x s'.heap ρ v w → Q w s') : wpAny (model x.prog x.w) A (subscriptTail value slice wa wb) Q E s := by
  have key : ∀ {o i : Value} {T id : String}, s.TypeIs o T → typeLookup (.type T) "__getitem__" = pure (some (.builtin id)) → wpAny (model x.prog x.w) A (getItem o i) Q E s → wpAny (model x.prog x.w) A (subscriptTail value slice o i) Q E s := by
    intro o i T id hT hl h
    unfold subscriptTail
    rw [getitemInPython_of_ne hT.not_modules]
    refine wpAny_bind (wpAny_bind (wpAny_specialOf hT hl ?_))
    refine wpAny_pure (wpAny_bind ?_)
    show wpAny _ A (subscripted slice false o i) _ E s
    rw [hs]
    exact wpAny_operating (wpAny_mono h (fun r s₃ h₃ => wpAny_bind (wpAny_letTemporaryGo (wpAny_pure h₃))) fun _ _ x => x)
  unfold subV at h
  split at h
  · split at h
    · rename_i l i h0
      obtain ⟨c, hc, rfl⟩ := map2 h
      obtain ⟨t, rfl⟩ := vrStr qa; obtain ⟨u, rfl⟩ := vrInt qb
      obtain ⟨j, hj1, hj2⟩ := pick_at (xs := l) (i := i) (v := c) (by unfold pickV; rw [if_pos h0.1]; exact hc)
      refine key (typeIs_str _ _ _) F.slot_str_getitem.lookup (P.getItem_str (c := c) ?_ ?_ (hQ _ _ (tok1 hg) (vr_str _ _)))
      · simp only [Bool.or_eq_false_iff, decide_eq_false_iff_not]; omega
      · rw [fact_mk, hj1]; simpa using hj2
    · cases h
  · split at h
    · rename_i vs i h0
      obtain ⟨a, ws, rfl, ht, hv⟩ := vrTup qa; obtain ⟨u, rfl⟩ := vrInt qb
      obtain ⟨w, hw, q⟩ := hv.get h
      obtain ⟨j, hj1, hj2⟩ := pick_at (xs := ws) (i := i) (v := w) (by unfold pickV; rw [if_pos h0.1]; exact hw)
      refine key ht.typeIs slot_tuple_getitem.lookup (getItem_tuple ht (by omega) (by omega) (by simpa using hj1) (by simpa using hj2) (hQ _ _ (mv_new hg) q))
    · cases h
  · split at h
    · rename_i j i h0
      split at h
      · rename_i vs e0
        obtain ⟨p, hp, rfl⟩ := vrRef qa; obtain ⟨u, rfl⟩ := vrInt qb
        have r := hg.obj _ _ _ hp e0
        simp only [OR] at r
        obtain ⟨ep, ws, k, hgt, hv⟩ := r
        rw [ep]
        have hlen := hv.length
        unfold pickV at h
        split at h
        · rename_i h1
          obtain ⟨w, hw, q⟩ := hv.get h
          exact key (isList_of hgt).typeIs slot_list_getitem.lookup (wpAny_getItem_list (isList_of hgt) h1 (by omega) (by simpa using hw) (hQ _ _ (mv_new hg) q))
        · split at h
          · rename_i h1 h2
            obtain ⟨w, hw, q⟩ := hv.get h
            refine key (isList_of hgt).typeIs slot_list_getitem.lookup (wpAny_getItem_list_neg (isList_of hgt) (by omega) ?_ (by omega) ?_ (hQ _ _ (mv_new hg) q))
            · simp; omega
            · simp only [List.size_toArray, ← hlen]; simpa using hw
          · cases h
      · cases h
    · cases h
  · rename_i es y
    obtain ⟨i, hi, rfl⟩ := map2 h
    obtain ⟨a, rfl, T⟩ := vrDct qa; obtain ⟨u, rfl⟩ := vrStr qb
    have T' := TabAt.keep T hg.base
    refine key (T := "dict") ?_ F.slot_dict_getitem.lookup (getItem_tab PyProof.V.same_str (strKind_is _ _ _ _) T' (dv := .int i) (by rw [lookup_dct, hi]; rfl) fun v hv => ?_)
    · obtain ⟨_, kvs, hd, _⟩ := T'
      exact hd.typeIs
    · cases hv s.heap
      exact hQ _ _ (tok1 hg) (vr_int _ _)
  · split at h
    · rename_i l i h0
      obtain ⟨j, hj, rfl⟩ := map2 h
      obtain ⟨a, ws, rfl, hl, hi, hlen⟩ := vrInts qa; obtain ⟨u, rfl⟩ := vrInt qb
      obtain ⟨t, ht⟩ := hi.get i.toNat _ hj
      have hl' : s.heap.IsList a ws.toArray := let ⟨o, ho, r⟩ := hl; ⟨o, hg.base _ _ ho, r⟩
      exact key hl'.typeIs slot_list_getitem.lookup (wpAny_getItem_list hl' h0.1 (by omega) (by simpa using ht) (hQ _ _ (mv_new hg) (vr_int _ _)))
    · cases h
  · cases h

theorem simE_sub {a b : EM V} {ea eb : Expr} {pos} (ha : SimE x n sc a ea) (hb : SimE x n sc b eb)
    (hs : ∀ o i, subscripted eb false o i = operate [o, i] (getItem o i) := by intro _ _; with_unfolding_all rfl) : SimE x n sc (subM a b) (.Subscript ea eb pos) := by
  intro A env ρ l o s v o' Q E hr he hg hl hm hQ
  obtain ⟨p, hp, hm1⟩ := bind2 hm
  obtain ⟨q, hq, hm2⟩ := bind2 hm1
  obtain ⟨r, hr', hm3⟩ := map2 hm2
  cases hm3
  refine Subscript_ (ha A env ρ l o s p.1 p.2 _ E hr he hg hl hp fun ρ₁ s₁ wa M₁ qa => ?_)
  refine hb A env ρ₁ l p.2 s₁ q.1 q.2 _ E hr he M₁.good (hl.mv M₁) hq fun ρ₂ s₂ wb M₂ qb => ?_
  exact subV_sim M₂.good (M₂.vr qa) qb hr' hs fun s₃ w M₃ q₃ => hQ _ _ _ ((M₁.trans M₂).trans M₃) q₃

theorem pick_range (l : List Nat) (a : Nat) : ∀ k, a + k ≤ l.length → ((List.range k).map (a + ·)).filterMap (l[·]?) = (l.drop a).take k
  | 0, _ => by simp
  | k + 1, h => by
    rw [List.range_succ, List.map_append, List.filterMap_append, pick_range l a k (by omega)]
    have h1 : a + k < l.length := by omega
    rw [List.take_add_one]
    simp [h1]

theorem slice_mk (l : List Nat) (i j : Int) (h0 : 0 ≤ i) (h1 : 0 ≤ j) : Txt.slice ⟨l.toArray⟩ (some i) (some j) = ⟨((l.take j.toNat).drop i.toNat).toArray⟩ := by
  have hidx : Builtin.Str.strSliceIndices (some i) (some j) 1 (Str.mk l.toArray).length = (List.range (min j.toNat l.length - min i.toNat l.length)).map (min i.toNat l.length + ·) := by
    unfold Builtin.Str.strSliceIndices
    have e1 : max 0 (min i ((Str.mk l.toArray).length : Int)) = ((min i.toNat l.length : Nat) : Int) := by rw [fact_mk]; omega
    have e2 : max 0 (min j ((Str.mk l.toArray).length : Int)) = ((min j.toNat l.length : Nat) : Int) := by rw [fact_mk]; omega
    simp only [if_neg (show ¬ i < 0 by omega), if_neg (show ¬ j < 0 by omega), show ((1 : Int) > 0) = True from by simp, if_true, e1, e2]
    exact sliceRange_one _ _
  have hval : List.filterMap (fun k => (Str.mk l.toArray).cps[k]?) ((List.range (min j.toNat l.length - min i.toNat l.length)).map (min i.toNat l.length + ·)) = (l.take j.toNat).drop i.toNat := by
    have e : (fun k => (Str.mk l.toArray).cps[k]?) = (fun k : Nat => l[k]?) := by funext k; simp
    rw [e]
    by_cases hij : min i.toNat l.length ≤ min j.toNat l.length
    · rw [pick_range l _ _ (by omega), List.drop_take]
      by_cases hi : i.toNat ≤ l.length
      · rw [Nat.min_eq_left hi]
        by_cases hj : j.toNat ≤ l.length
        · rw [Nat.min_eq_left hj]
        · rw [Nat.min_eq_right (by omega)]
          rw [List.take_of_length_le (by simp), List.take_of_length_le (by simp; omega)]
      · rw [Nat.min_eq_right (by omega : l.length ≤ i.toNat)]
        rw [List.drop_of_length_le (Nat.le_refl _), List.drop_of_length_le (by omega)]
        simp
    · rw [show min j.toNat l.length - min i.toNat l.length = 0 from by omega]
      simp
      omega
  unfold Txt.slice
  rw [hidx, hval]
  split
  · rename_i h
    simp only [beq_self_eq_true, Bool.true_and, beq_iff_eq, List.length_map, List.length_range, fact_mk] at h
    have : ((l.take j.toNat).drop i.toNat) = l := by
      rw [List.drop_take]
      by_cases hl : l = []
      · subst hl; simp
      · have hpos : 0 < l.length := List.length_pos_iff.mpr hl
        have hi : i.toNat = 0 := by omega
        have hj : l.length ≤ j.toNat := by omega
        rw [hi, List.drop_zero, Nat.sub_zero, List.take_of_length_le hj]
    rw [this]
  · rfl

theorem simE_slice {a b d : EM V} {ea eb ed : Expr} {p' pos} (ha : SimE x n sc a ea) (hb : SimE x n sc b eb) (hd : SimE x n sc d ed) : SimE x n sc (sliceM a b d) (.Subscript ea (.Slice (some eb) (some ed) none p') pos) := by
  intro A env ρ l o s v o' Q E hr he hg hl hm hQ
  obtain ⟨p, hp, hm1⟩ := bind2 hm
  obtain ⟨q, hq, hm2⟩ := bind2 hm1
  obtain ⟨r, hr', hm3⟩ := bind2 hm2
  clear hm hm1 hm2
  refine Subscript_ (ha A env ρ l o s p.1 p.2 _ E hr he hg hl hp fun ρ₁ s₁ wa M₁ qa => ?_)
  refine wpAny_Slice ?_
  rw [evalPart_some]
  refine hb A env ρ₁ l p.2 s₁ q.1 q.2 _ E hr he M₁.good (hl.mv M₁) hq fun ρ₂ s₂ wb M₂ qb => ?_
  rw [evalPart_some]
  refine hd A env ρ₂ l q.2 s₂ r.1 r.2 _ E hr he M₂.good (hl.mv (M₁.trans M₂)) hr' fun ρ₃ s₃ wd M₃ qd => ?_
  rw [evalPart_none]
  refine wpAny_pure ?_
  have qa' := M₃.vr (M₂.vr qa)
  have qb' := M₃.vr qb
  split at hm3
  · rename_i y i j e1 e2 e3
    rw [e1] at qa'; rw [e2] at qb'; rw [e3] at qd
    split at hm3
    · rename_i hc
      cases hm3
      obtain ⟨t, rfl⟩ := vrStr qa'; obtain ⟨u, rfl⟩ := vrInt qb'; obtain ⟨u', rfl⟩ := vrInt qd
      have hlen : (Str.mk y.toArray).length ≤ sizeLine := by rw [fact_mk, sizeLine_eq]; omega
      obtain ⟨T, id, hl1, hT, hget⟩ := SBH.sliceItem_ss (prog := x.prog) (w := x.w) (A := A) (E := E) (s := s₃) (x := Str.mk y.toArray) (t := t) (i := i) (j := j) (ui := u) (uj := u')
        (Q := fun r s₄ => wpAny (model x.prog x.w) A (letTemporaryGo ea (.str (Str.mk y.toArray) t) r >>= fun _ => pure r) Q E s₄)
        (P := fun h => Step [] s₃.heap h) (fun h ob st => st.trans (Step.push _ _ _)) (Step.refl _ _)
        (fun h' t' k st => by
          rw [slice_mk y i j hc.1 hc.2.1]
          have M₄ : Mv x [] ρ₃ s₃ ρ₃ r.2 { s₃ with heap := h', toks := k } := mv_side M₃.good st k
          exact wpAny_bind (wpAny_letTemporaryGo (wpAny_pure (hQ _ _ _ (((M₁.trans M₂).trans M₃).trans M₄) (vr_str _ _))))) hlen
      unfold subscriptTail
      rw [getitemInPython_of_ne hT.not_modules]
      refine wpAny_bind (wpAny_bind (wpAny_specialOf hT hl1 ?_))
      refine wpAny_pure (wpAny_bind ?_)
      show wpAny _ A (operate [_, _] (getItem _ _)) _ E _
      exact wpAny_operating hget
    · cases hm3
  · cases hm3

end
end Mine
end

section
open PySem PySem.W PySem.Calls PyProof.Rows PySem.SeqAt
set_option linter.unusedVariables false
namespace Mine

noncomputable def bltVal : Str → Value := fun f =>
  if f = "len" then .builtin "len" else if f = "ord" then .builtin "ord" else if f = "chr" then .builtin "chr" else if f = "max" then .builtin "max"
  else if f = "range" then .type "range" else if f = "str" then .type "str" else .type "int"

structure BltOk (x : X) : Prop where
  miss : ∀ f ∈ bltNames, x.mg f = none
  hit : ∀ f ∈ bltNames, x.mb f = some (bltVal f)

noncomputable def CallOk (x : X) (c : Cfg) (n : Nat) : Prop := ∀ cl f args o v o', c.call cl f args o = some (v, o') → ∃ a, x.fn cl f = some a ∧
  ∀ (A : Around) (ρ : Rho) (s : Shared) (ws : List Value) (R : Result → Shared → Prop), Room A n → Gd x ρ o s.heap → VRs x s.heap ρ args ws →
    (∀ ρ' s' w, Mv x [] ρ s ρ' o' s' → VR x s'.heap ρ' v w → R (.ok (.ret w)) s') → codeAny (model x.prog x.w) A (.call (.ref a) ⟨ws, []⟩) R s

structure FnAll (x : X) : Prop where
  obj : ∀ cl f a, x.fn cl f = some a → ∃ o fd, x.hB.get? a = some o ∧ o.data = .func fd
  glob : ∀ f a, x.fn "" f = some a → x.mg f = some (.ref a)
  cls : ∀ cl ∈ clsNames, ∃ C, x.cls cl = some C ∧ x.mg cl = some (.ref C)

theorem Room.down {A : Around} {n k : Nat} (h : Room A n) (hk : k ≤ n) : Room A k := ⟨h.hd, by have := h.dp; omega, by have := h.un; omega⟩

section
variable {x : X} {n : Nat} {sc : Scope}

theorem backTo_plain {pos : Pos} {env : Env} {es : List Expr} (hst : starEach es env = es.map fun e => (false, eval e env)) : backTo pos (starEach es env) = es.map fun e => (false, eval e env) := by
  rw [hst]; unfold backTo; rw [List.map_map]; rfl
theorem plain_args {pos : Pos} {env : Env} {es : List Expr} (hst : starEach es env = es.map fun e => (false, eval e env)) : (backTo pos (starEach es env)).any (·.1) = false := by
  rw [backTo_plain hst]; simp

theorem evalArgs_L {M : Model} {A : Around} {E : Value → Shared → Prop} {s : Shared} {f : Value} {pos : Pos} {env : Env} {es : List Expr} {Q : Args → Shared → Prop} (hst : starEach es env = es.map fun e => (false, eval e env))
    (h : wpAny M A (spliced (backTo pos (starEach es env))) (fun vs s' => Q ⟨vs, []⟩ s') E s) : wpAny M A (evalArgs f true (backTo pos (starEach es env)) []) Q E s := by
  rw [backTo_plain hst] at h ⊢
  cases es with
  | nil =>
    unfold evalArgs
    show wpAny M A (spliced [] >>= _) Q E s
    refine wpAny_bind (wpAny_mono h (fun vs s' q => wpAny_bind (wpAny_pure ?_)) fun _ _ e => e)
    refine wpAny_holding ?_
    exact wpAny_bind (wpAny_pure (wpAny_bind (wpAny_pure (wpAny_pure q))))
  | cons e r => exact evalArgs_plain h

theorem vrs1 {h : Heap} {ρ : Rho} {v : V} {ws : List Value} (q : VRs x h ρ [v] ws) : ∃ w, ws = [w] ∧ VR x h ρ v w := by
  cases ws with
  | nil => simp only [VRs] at q
  | cons w r =>
    simp only [VRs] at q
    cases r with
    | nil => exact ⟨w, rfl, q.1⟩
    | cons _ _ => simp only [VRs] at q; exact q.2.elim
theorem vrs2 {h : Heap} {ρ : Rho} {v u : V} {ws : List Value} (q : VRs x h ρ [v, u] ws) : ∃ w z, ws = [w, z] ∧ VR x h ρ v w ∧ VR x h ρ u z := by
  cases ws with
  | nil => simp only [VRs] at q
  | cons w r =>
    simp only [VRs] at q
    obtain ⟨z, rfl, hz⟩ := vrs1 (by simpa only [VRs] using q.2)
    exact ⟨w, z, rfl, q.1, hz⟩

theorem ofStr_digits (k : Nat) : (Str.ofString (toString (k : Int))) = ⟨(digitsN k).toArray⟩ := by
  have e : toString (k : Int) = String.ofList (Nat.toDigits 10 k) := by
    show Int.repr _ = _
    rfl
  rw [e]
  apply Str.ext'
  show (cpsOfBytes 0 0 (String.ofList (Nat.toDigits 10 k)).toByteArray.data.toList).toArray = _
  rw [cpsOfBytes_string]
  simp [digitsN]

theorem bltV_sim {f : Str} {vs : List V} {ws : List Value} {v : V} {A : Around} {s : Shared} {ρ : Rho} {o : Obs} {Q : Value → Shared → Prop} {E : Value → Shared → Prop}
    (hr : Room A n) (hg : Gd x ρ o s.heap) (q : VRs x s.heap ρ vs ws) (h : bltV f vs o = some v)
    (hQ : ∀ s' w, Mv x [] ρ s ρ o s' → VR x s'.heap ρ v w → Q w s') : wpAny (model x.prog x.w) A (call (bltVal f) ws []) Q E s := by
  unfold bltV at h
  unfold bltVal
  split at h
  · rename_i hf; rw [if_pos hf]
    split at h
    · rename_i l
      split at h
      · cases h
        obtain ⟨w, rfl, q1⟩ := vrs1 q
        obtain ⟨t, rfl⟩ := vrStr q1
        refine P.len_str (by rw [fact_mk]; omega) ?_
        rw [fact_mk]
        exact hQ _ _ (mv_tok hg _) (vr_int _ _)
      · cases h
    · rename_i l
      split at h
      · cases h
        obtain ⟨w, rfl, q1⟩ := vrs1 q
        obtain ⟨a, us, rfl, ht, hv⟩ := vrTup q1
        have e := hv.length
        refine PyProof.Rows.len_tuple ht (by simp; omega) ?_
        rw [show (us.toArray.size : Int) = (l.length : Int) from by simp [e]]
        exact hQ _ _ (mv_tok hg _) (vr_int _ _)
      · cases h
    · rename_i i
      split at h
      · rename_i l e0
        split at h
        · cases h
          obtain ⟨w, rfl, q1⟩ := vrs1 q
          obtain ⟨p, hp, rfl⟩ := vrRef q1
          have r := hg.obj _ _ _ hp e0
          simp only [OR] at r
          obtain ⟨ep, us, k, hgt, hv⟩ := r
          rw [ep]
          have e := hv.length
          refine PyProof.Rows.len_list (isList_of hgt) (by simp; omega) ?_
          rw [show (us.toArray.size : Int) = (l.length : Int) from by simp [e]]
          exact hQ _ _ (mv_tok hg _) (vr_int _ _)
        · cases h
      · cases h
    · rename_i l
      cases h
      obtain ⟨w, rfl, q1⟩ := vrs1 q
      obtain ⟨a, us, rfl, hl, hi, hlen⟩ := vrInts q1
      have e := hi.length
      have hl' : s.heap.IsList a us.toArray := let ⟨o, ho, r⟩ := hl; ⟨o, hg.base _ _ ho, r⟩
      refine PyProof.Rows.len_list hl' (by simp; omega) ?_
      rw [show (us.toArray.size : Int) = (l.length : Int) from by simp [e]]
      exact hQ _ _ (mv_tok hg _) (vr_int _ _)
    · cases h
  rename_i hf; rw [if_neg hf]; clear hf
  split at h
  · rename_i hf; rw [if_pos hf]
    split at h
    · cases h
      obtain ⟨w, rfl, q1⟩ := vrs1 q
      obtain ⟨t, rfl⟩ := vrStr q1
      exact P.ord_of_char (hQ _ _ (tok1 hg) (vr_int _ _))
    · cases h
  rename_i hf; rw [if_neg hf]; clear hf
  split at h
  · rename_i hf; rw [if_pos hf]
    split at h
    · split at h
      · rename_i i hi
        cases h
        obtain ⟨w, rfl, q1⟩ := vrs1 q
        obtain ⟨t, rfl⟩ := vrInt q1
        exact chr_of_range hi.1 (by omega) (hQ _ _ (tok1 hg) (vr_str _ _))
      · cases h
    · cases h
  rename_i hf; rw [if_neg hf]; clear hf
  split at h
  · rename_i hf
    subst hf
    rw [if_neg (by decide), if_pos rfl]
    split at h
    · split at h
      · rename_i i hi
        cases h
        obtain ⟨w, rfl, q1⟩ := vrs1 q
        obtain ⟨t, rfl⟩ := vrInt q1
        refine call_range_1 ?_
        have M : Mv x [] ρ s ρ o { s with heap := s.heap.push { cls := .type "range", data := .fields #[.int 0 s.toks, .int i t, .int 1 (s.toks + 1)] }, toks := s.toks + 1 + 1 } := mv_push hg _ _
        refine hQ _ _ M ?_
        simp only [VR]
        exact ⟨_, _, _, _, rfl, Heap.get?_push_size _ rfl, hi⟩
      · cases h
    · cases h
  rename_i hf
  split at h
  · rename_i hf2
    subst hf2
    rw [if_neg (by decide), if_neg (by decide), if_pos rfl]
    split at h
    · split at h
      · rename_i i hi
        cases h
        obtain ⟨w, rfl, q1⟩ := vrs1 q
        obtain ⟨t, rfl⟩ := vrInt q1
        obtain ⟨k, rfl⟩ := Int.eq_ofNat_of_zero_le hi.1
        refine P.str_of_int ?_ ?_
        · have h1 : (k : Int).natAbs < 2 ^ 1000 := by
            have : (k : Int).natAbs < 10 ^ 9 := by omega
            exact Nat.lt_of_lt_of_le this (by decide +kernel)
          by_cases hk : (k : Int).natAbs = 0
          · rw [hk]; decide
          · have := (Nat.log2_lt hk).mpr h1
            omega
        · rw [ofStr_digits]
          exact hQ _ _ (tok1 hg) (vr_str _ _)
      · cases h
    · cases h
  rename_i hf2
  split at h
  · rename_i hf3
    subst hf3
    rw [if_neg (by decide), if_neg (by decide), if_neg (by decide)]
    split at h
    · cases h
      obtain ⟨w, rfl, q1⟩ := vrs1 q
      rw [vrBool q1]
      exact call_int_bool (hQ _ _ (tok1 hg) (vr_int _ _))
    · cases h
  split at h
  · rename_i hf4
    rw [if_pos hf4]
    split at h
    · cases h
      obtain ⟨w, z, rfl, q1, q2⟩ := vrs2 q
      obtain ⟨t, rfl⟩ := vrInt q1
      obtain ⟨u, rfl⟩ := vrInt q2
      rename_i a b
      refine max_two_ints hr.hd fun h' tk hk => ?_
      have st : Step [] s.heap h' := ⟨fun b o _ e => hk b o e, fun b o _ e => hk b o e, fun b o e => ⟨o, hk b o e⟩⟩
      have M : Mv x [] ρ s ρ o { s with heap := h', toks := tk } := mv_side hg st tk
      refine hQ _ _ M ?_
      split
      · exact vr_int _ _
      · exact vr_int _ _
    · cases h
  · cases h

theorem simE_blt {f : Str} {ms : List (EM V)} {es : List Expr} {p pos : Pos} (X : XOk x) (B : BltOk x) (hs : SimL x n sc ms es) (hf : f ∈ bltNames := by decide) (hk : sc.names.lookup f = some .globalImplicit := by kernel_rfl)
    (hd : (f == ("__debug__" : Str)) = false := by decide) : SimE x n sc (bltM f ms) (.Call (.Name f p) es [] pos) := by
  have hst := hs.1.2
  intro A env ρ l o s v o' Q E hr he hg hl hm hQ
  obtain ⟨q, hq, hm1⟩ := bind2 hm
  obtain ⟨r, hr', hm2⟩ := map2 hm1
  cases hm2
  have hk' : env.kindOf f = some .globalImplicit := by unfold Env.kindOf; rw [he.scp]; exact hk
  refine wpAny_Call_NameR (Name_function_global (by rw [he.scp]; exact he.kind) hk' ?_ hd)
  refine loadGlobal_builtin (by rw [he.g]; exact X.g.keeps hg.base) (B.miss f hf) (by rw [he.b]; exact X.b.keeps hg.base) (B.hit f hf) ?_
  have body : wpAny (model x.prog x.w) A (evalArgs (bltVal f) true (backTo pos (starEach es env)) []) (fun a s₁ => wpAny (model x.prog x.w) A (call (bltVal f) ([] ++ a.pos) a.kw) Q E s₁) E s := by
    refine evalArgs_L (hst env) (hs.2 A env ρ l o s q.1 q.2 pos _ E hr he hg hl hq fun ρ₁ s₁ ws M₁ q₁ => ?_)
    exact bltV_sim hr M₁.good q₁ hr' fun s₂ w M₂ q₂ => hQ _ _ _ (M₁.trans M₂) q₂
  have hb : (∃ i, bltVal f = .builtin i) ∨ ∃ T, bltVal f = .type T := by
    unfold bltVal
    repeat' split
    all_goals first | exact .inl ⟨_, rfl⟩ | exact .inr ⟨_, rfl⟩
  rcases hb with ⟨i, hi⟩ | ⟨T, hT⟩
  · rw [hi] at body ⊢
    exact callWith_builtin (plain_args (hst env)) body
  · rw [hT] at body ⊢
    exact PyProof.Rows.callWith_type (plain_args (hst env)) body

variable {c : Cfg}

theorem simE_fun {f : Str} {ms : List (EM V)} {es : List Expr} {p pos : Pos} (X : XOk x) (F : FnAll x) (C : CallOk x c n) (hs : SimL x (n + 1) sc ms es) (hk : sc.names.lookup f = some .globalImplicit := by kernel_rfl)
    (hd : (f == ("__debug__" : Str)) = false := by decide) : SimE x (n + 1) sc (funM c f ms) (.Call (.Name f p) es [] pos) := by
  have hst := hs.1.2
  intro A env ρ l o s v o' Q E hr he hg hl hm hQ
  obtain ⟨q, hq, hm1⟩ := bind2 hm
  obtain ⟨a, ha, hcall⟩ := C _ _ _ _ _ _ hm1
  obtain ⟨ob, fd, hob, hfd⟩ := F.obj _ _ _ ha
  have hk' : env.kindOf f = some .globalImplicit := by unfold Env.kindOf; rw [he.scp]; exact hk
  refine wpAny_Call_NameR (Name_function_global (by rw [he.scp]; exact he.kind) hk' ?_ hd)
  refine loadGlobal_global (by rw [he.g]; exact X.g.keeps hg.base) (F.glob f a ha) ?_
  refine Calls.callWith_function (o := ob) (fd := fd) (evalArgs_L (hst env) (hs.2 A env ρ l o s q.1 q.2 pos _ E hr he hg hl hq fun ρ₁ s₁ ws M₁ q₁ => ⟨⟨M₁.good.base _ _ hob, hfd⟩, ?_⟩))
  exact wpAny_call (hcall A ρ₁ s₁ ws _ (hr.down (Nat.le_succ n)) M₁.good q₁ fun ρ₂ s₂ w M₂ q₂ => hQ _ _ _ (M₁.trans M₂) q₂)

theorem cls_frames (args : Args) : (Code.builtin "type.__call__" args).frames = 0 := by
  unfold Code.frames
  split <;> first | rfl | (rename_i h; simp at h) | simp_all [Code.isFrame]
theorem cls_weight (C : Addr) (ws : List Value) : (Code.builtin "type.__call__" ⟨.ref C :: ws, []⟩).weight ≤ 2 ∧ (Code.builtin "type.__call__" ⟨.ref C :: ws, []⟩).cUnits ≤ 1 := by
  have hf := cls_frames ⟨.ref C :: ws, []⟩
  constructor
  · unfold Code.weight
    rw [hf]
    have h1 : (Code.builtin "type.__call__" ⟨.ref C :: ws, []⟩).isGuard = false := by
      show guardIds.contains "type.__call__" = false
      decide +kernel
    have h2 : (Code.builtin "type.__call__" ⟨.ref C :: ws, []⟩).isCaller = false := by
      unfold Code.isCaller
      split
      · rename_i h; simp at h
      · rfl
    rw [h1, h2]
    simp; split <;> omega
  · show 1 + 3 * _ ≤ 1
    rw [hf]; omega

theorem simE_new {f : Str} {ms : List (EM V)} {es : List Expr} {p pos : Pos} (X : XOk x) (CA : ClsAll x) (F : FnAll x) (C : CallOk x c n) (hs : SimL x (n + 1) sc ms es) (hf : f ∈ clsNames := by decide) (hk : sc.names.lookup f = some .globalImplicit := by kernel_rfl)
    (hd : (f == ("__debug__" : Str)) = false := by decide) : SimE x (n + 1) sc (newM c f ms) (.Call (.Name f p) es [] pos) := by
  have hst := hs.1.2
  intro A env ρ l o s v o' Q E hr he hg hl hm hQ
  obtain ⟨q, hq, hm1⟩ := bind2 hm
  obtain ⟨r, hr1, hm2⟩ := bind2 hm1
  obtain ⟨Cl, hCl, hgl⟩ := F.cls f hf
  have K := CA f Cl hCl
  obtain ⟨a, ha, hcall⟩ := C _ _ _ _ _ _ hr1
  have hm' := K.meth _ _ ha
  have hk' : env.kindOf f = some .globalImplicit := by unfold Env.kindOf; rw [he.scp]; exact hk
  refine wpAny_Call_NameR (Name_function_global (by rw [he.scp]; exact he.kind) hk' ?_ hd)
  refine loadGlobal_global (by rw [he.g]; exact X.g.keeps hg.base) hgl ?_
  have hplain := plain_args (pos := pos) (hst env)
  refine callWith_of (P := fun h => x.K.In h) (by rw [hplain]; rfl) (keeps_K K.kp) (evalArgs_L (hst env) (hs.2 A env ρ l o s q.1 q.2 pos _ E hr he hg hl hq fun ρ₁ s₁ ws M₁ q₁ => ⟨kin X M₁.good, ?_⟩))
  refine wpAny_call ?_
  obtain ⟨hh, gg, dd, tt, os⟩ := s₁
  refine make_core (makes_of (kin X M₁.good) K.mkr) (looks_findIn (kin X M₁.good) hm'.1) (fun self => bind_fn (kin X M₁.good) self hm'.2) (.inl rfl) ?_
  have st : Step [] hh ((hh.push emptyDict).push (instObj Cl hh.objs.size)) := (Step.push _ _ _).trans (Step.push _ _ _)
  have g1 : ((hh.push emptyDict).push (instObj Cl hh.objs.size)).get? (hh.objs.size + 1) = some (instObj Cl hh.objs.size) := by
    have := Heap.get?_push_size (hh.push emptyDict) (o := instObj Cl hh.objs.size) rfl
    rwa [Heap.size_push] at this
  have g2 : ((hh.push emptyDict).push (instObj Cl hh.objs.size)).get? hh.objs.size = some (dctOf [] 0) := Heap.get?_push_of_some _ (Heap.get?_push_size _ rfl)
  have M₂ : Mv x [] ρ₁ ⟨hh, gg, dd, tt, os⟩ (ρ₁ ++ [(hh.objs.size + 1, hh.objs.size)]) (q.2 ++ [.inst f []]) ⟨(hh.push emptyDict).push (instObj Cl hh.objs.size), gg, dd, tt, os⟩ :=
    mv_grow (s := ⟨hh, gg, dd, tt, os⟩) (p := (hh.objs.size + 1, hh.objs.size)) M₁.good st (get_size _) (by
      simp only [OR]
      exact ⟨Cl, [], 0, hCl, g1, g2, by simp only [FRs]⟩) tt
  have hlen : ρ₁.length = q.2.length := M₁.good.len
  have hself : VR x ((hh.push emptyDict).push (instObj Cl hh.objs.size)) (ρ₁ ++ [(hh.objs.size + 1, hh.objs.size)]) (.ref q.2.length) (.ref (hh.objs.size + 1)) := by
    simp only [VR]
    exact ⟨(hh.objs.size + 1, hh.objs.size), by rw [← hlen, List.getElem?_append_right (Nat.le_refl _)]; simp, rfl⟩
  have hw := cls_weight Cl ([] ++ ws)
  refine hcall _ _ _ _ _ ?_ M₂.good (by simp only [VRs]; exact ⟨hself, M₂.vrs q₁⟩) fun ρ₃ s₃ w M₃ q₃ => ?_
  · refine ⟨hr.hd, ?_, ?_⟩
    · show A.depth + (Code.builtin "type.__call__" ⟨.ref Cl :: ([] ++ ws), []⟩).weight + _ ≤ _
      have := hr.dp; omega
    · show A.units + (Code.builtin "type.__call__" ⟨.ref Cl :: ([] ++ ws), []⟩).cUnits + _ ≤ _
      have := hr.un; omega
  · split at hm2
    · rename_i e
      cases hm2
      rw [e] at q₃
      refine ⟨vrNone q₃, ?_⟩
      exact hQ _ _ _ ((M₁.trans M₂).trans M₃) (M₃.vr hself)
    · cases hm2

theorem append_sim {i : Nat} {v : V} {wa wv : Value} {A : Around} {s : Shared} {ρ : Rho} {o o' : Obs} {Q : Value → Shared → Prop} {E : Value → Shared → Prop}
    (hg : Gd x ρ o s.heap) (qa : VR x s.heap ρ (.ref i) wa) (qv : VR x s.heap ρ v wv) (h : appV i v o = some o')
    (hQ : ∀ s', Mv x [] ρ s ρ o' s' → Q .none s') : wpAny (model x.prog x.w) A (call (.builtin "list.append") [wa, wv]) Q E s := by
  unfold appV at h
  split at h
  · rename_i vs e0
    split at h
    · rename_i hlen
      cases h
      obtain ⟨p, hp, rfl⟩ := vrRef qa
      have r := hg.obj _ _ _ hp e0
      simp only [OR] at r
      obtain ⟨ep, ws, k, hgt, hv⟩ := r
      rw [ep]
      refine wpAny_list_append_plain (items := ws.toArray) ⟨k, hgt⟩ (fun h' hl hs => ?_) (by have := hv.length; simp [sizeLine_eq]; omega)
      obtain ⟨k', hg'⟩ := hl
      have e : ws.toArray.push wv = (ws ++ [wv]).toArray := by simp
      rw [e] at hg'
      have st : Step [p.2] s.heap h' := Step.of_sameBut hgt hg' not_frozen_list hs
      refine hQ _ (mv_write hg hp st ?_ s.toks)
      simp only [OR]
      exact ⟨ep, ws ++ [wv], k', hg', (VRs.mono st (List.prefix_refl ρ) hv).append (VRs.one (VR.mono st (List.prefix_refl ρ) qv))⟩
    · cases h
  · cases h

theorem joinL_eq (sep : List Nat) : ∀ ys : List (List Nat), Str.join (Str.mk sep.toArray) (ys.map fun y => Str.mk y.toArray) = Str.mk (joinL sep ys).toArray
  | [] => rfl
  | [y] => by simp [Str.join, joinL]
  | y :: z :: r => by
    have ih := joinL_eq sep (z :: r)
    show (Str.mk y.toArray) ++ (Str.mk sep.toArray) ++ Str.join (Str.mk sep.toArray) ((z :: r).map fun y => Str.mk y.toArray) = _
    rw [ih, append_mk, append_mk]
    rfl

theorem sum_mk (ys : List (List Nat)) : ((ys.map fun y => Str.mk y.toArray).map (·.length)).sum = sumLens ys := by
  unfold sumLens; rw [List.map_map]; congr 1

theorem low_all : ∀ ch < 128, Txt.lower ⟨#[ch]⟩ = ⟨#[lowerA ch]⟩ := by decide +kernel

theorem strMeth_sim {m : Str} {y : List Nat} {t : Tok} {vs : List V} {ws : List Value} {v : V} {A : Around} {s : Shared} {ρ : Rho} {o o' : Obs} {Q : Value → Shared → Prop} {E : Value → Shared → Prop}
    (hr : Room A n) (hg : Gd x ρ o s.heap) (q : VRs x s.heap ρ vs ws) (h : strMeth m y vs o = some (v, o'))
    (hQ : ∀ ρ' s' w, Mv x [] ρ s ρ' o' s' → VR x s'.heap ρ' v w → Q w s') :
    (m = "join" ∧ wpAny (model x.prog x.w) A (call (.builtin "str.join") (.str ⟨y.toArray⟩ t :: ws)) Q E s) ∨
    (m = "split" ∧ wpAny (model x.prog x.w) A (call (.builtin "str.split") (.str ⟨y.toArray⟩ t :: ws)) Q E s) ∨
    (m = "lower" ∧ wpAny (model x.prog x.w) A (call (.builtin "str.lower") (.str ⟨y.toArray⟩ t :: ws)) Q E s) ∨
    (m = "index" ∧ wpAny (model x.prog x.w) A (call (.builtin "str.index") (.str ⟨y.toArray⟩ t :: ws)) Q E s) := by
  unfold strMeth at h
  split at h
  · rename_i hm
    refine .inl ⟨hm, ?_⟩
    split at h
    · rename_i i
      split at h
      · rename_i us e0
        obtain ⟨xs, hxs, h⟩ := bind2 h
        split at h
        · rename_i hlen
          cases h
          obtain ⟨w, rfl, q1⟩ := vrs1 q
          obtain ⟨p, hp, rfl⟩ := vrRef q1
          have r := hg.obj _ _ _ hp e0
          simp only [OR] at r
          obtain ⟨ep, us', k, hgt, hv⟩ := r
          rw [ep]
          refine PyProof.Rows.join_list (isList_of hgt) (by simpa using strs_of hxs hv) ?_ fun t' tk => ?_
          · rw [sum_mk, List.length_map, fact_mk]; exact hlen
          · show Q (.str (Builtin.Str.glued _ _) t') _
            rw [StrLaws.glued_eq_join, joinL_eq]
            exact hQ _ _ _ (mv_tok hg _) (vr_str _ _)
        · cases h
      · cases h
    · cases h
  split at h
  · rename_i hm
    refine .inr (.inl ⟨hm, ?_⟩)
    split at h
    · split at h
      · rename_i hc
        cases h
        obtain ⟨w, rfl, q1⟩ := vrs1 q
        obtain ⟨u, rfl⟩ := vrStr q1
        obtain ⟨hok, hlen⟩ := hc
        unfold splitOk at hok
        rw [Bool.and_eq_true, Bool.not_eq_true', Bool.not_eq_true'] at hok
        have hsz : (Str.mk y.toArray).length ≤ 1000 := by rw [fact_mk]; exact hlen
        have hn : (Builtin.Str.partsBetween (Str.mk y.toArray) (Builtin.Str.occurrences (Str.mk y.toArray) (Str.mk #[32]) 0 (Str.mk y.toArray).length ((Str.mk y.toArray).length + 1)) (Str.mk #[32]).length).length ≤ sizeLine := by
          have e1 := StrLaws.occ_length_le (Str.mk y.toArray) (Str.mk #[32]) 0 (Str.mk y.toArray).length ((Str.mk y.toArray).length + 1)
          rw [length_partsBetween, sizeLine_eq]; omega
        refine call_meets F.slot_str_split (typeIs_str _ _ _) F.entry_str_split (F.args_str_split_2 _ _) (meets_str_split_sep (Str.mk y.toArray) (Str.mk #[32]) t u hok.1 (by decide) hok.2 (by rw [sizeLine_eq]; omega) hn) ?_
        show wants Q E _ { s with toks := _, heap := s.heap.push (lstOf (strsFrom s.toks (Builtin.Str.partsBetween (Str.mk y.toArray) (Builtin.Str.occurrences (Str.mk y.toArray) (Str.mk #[32]) 0 (Str.mk y.toArray).length ((Str.mk y.toArray).length + 1)) (Str.mk #[32]).length)) 0) }
        have vr : ∀ (tk : Nat) (ps : List Str), VRs x s.heap ρ ((ps.map fun y => y.cps.toList).map .str) (strsFrom tk ps) := by
          intro tk ps
          induction ps generalizing tk with
          | nil =>
            show VRs x s.heap ρ [] []
            simp only [VRs]
          | cons a r ih =>
            show VRs x s.heap ρ (.str a.cps.toList :: _) (Value.str a tk :: strsFrom (tk + 1) r)
            simp only [VRs]
            exact ⟨by simp only [VR]; exact ⟨tk, by simp⟩, ih (tk + 1)⟩
        have N := new_list hg (vr s.toks (Builtin.Str.partsBetween (Str.mk y.toArray) (Builtin.Str.occurrences (Str.mk y.toArray) (Str.mk #[32]) 0 (Str.mk y.toArray).length ((Str.mk y.toArray).length + 1)) (Str.mk #[32]).length))
        exact hQ _ _ _ (N.1.trans (mv_tok N.1.good _)) N.2
      · cases h
    · cases h
  split at h
  · rename_i hm
    refine .inr (.inr (.inl ⟨hm, ?_⟩))
    split at h
    · split at h
      · rename_i ch hc
        cases h
        cases ws with
        | nil =>
          refine SCL.lower (by rw [fact_mk]; simp) fun _ => ?_
          have := low_all ch hc
          rw [show (Str.mk [ch].toArray) = (⟨#[ch]⟩ : Str) from rfl, this]
          exact hQ _ _ _ (tok1 hg) (vr_str [lowerA ch] _)
        | cons _ _ => simp only [VRs] at q
      · cases h
    · cases h
  split at h
  · rename_i hm
    refine .inr (.inr (.inr ⟨hm, ?_⟩))
    split at h
    · split at h
      · rename_i ch hc
        cases h
        obtain ⟨w, rfl, q1⟩ := vrs1 q
        obtain ⟨u, rfl⟩ := vrStr q1
        refine index_or hr.hd (fun h1 _ _ _ _ _ => ?_) fun h1 _ => ?_
        · have : findIn1 y ch = -1 := h1
          omega
        · exact hQ _ _ _ (tok1 hg) (vr_int _ _)
      · cases h
    · cases h
  · cases h

set_option maxRecDepth 100000 in
theorem simE_meth {m : Str} {a : EM V} {ea : Expr} {ms : List (EM V)} {es : List Expr} {apos pos : Pos} (X : XOk x) (CA : ClsAll x) (F : FnAll x) (C : CallOk x c n) (ha : SimE x (n + 1) sc a ea) (hs : SimL x (n + 1) sc ms es)
    (he' : ∀ env, ∃ pl, eval (.Call (.Attribute ea m apos) es [] pos) env = (do
      let ov ← eval ea env
      standAt apos.atName
      let (f, first) ← holding [ov] (getMethod ov m pl)
      callWith pos f first (backTo pos (starEach es env)) []) := by intro _; with_unfolding_all exact ⟨_, rfl⟩) : SimE x (n + 1) sc (methM c m a ms) (.Call (.Attribute ea m apos) es [] pos) := by
  have hst := hs.1.2
  intro A env ρ l o s v o' Q E hr he hg hl hm hQ
  obtain ⟨p, hp, hm1⟩ := bind2 hm
  obtain ⟨k, hk, hm2⟩ := bind2 hm1
  obtain ⟨q, hq, hm3⟩ := bind2 hm2
  clear hm hm1 hm2
  obtain ⟨pl, he1⟩ := he' env
  rw [he1]
  refine wpAny_bind (ha A env ρ l o s p.1 p.2 _ E hr he hg hl hp fun ρ₁ s₁ w M₁ q₁ => ?_)
  refine wpAny_bind (wpAny_standAt (wpAny_bind (wpAny_holding ?_)))
  unfold methPre at hk
  split at hk
  · rename_i i ei
    rw [ei] at q₁ hm3
    split at hk
    · rename_i cl fs e0
      split at hk
      · rename_i hno
        cases hk
        obtain ⟨a', ha', hcall⟩ := C _ _ _ _ _ _ hm3
        obtain ⟨ob, fd, hob, hfd⟩ := F.obj _ _ _ ha'
        obtain ⟨pp, hpp, rfl⟩ := vrRef q₁
        obtain ⟨Cl, des, kk, hC, I, hd, hf⟩ := inst_at M₁.good hpp e0
        have K := CA cl Cl hC
        have hmm := K.meth _ _ ha'
        refine method_fn (kin X M₁.good) I K.ga K.gt hmm.1 hmm.2 ?_ ?_
        · have hnone : ∀ {fs : List (Str × V)} {es : List DictEntry}, FRs x s₁.heap ρ₁ fs es → fs.lookup m = none → es.find? (·.key.isStr m) = none := by
            intro fs
            induction fs with
            | nil => intro es q _; cases es with
              | nil => rfl
              | cons _ _ => simp only [FRs] at q
            | cons h r ih => intro es q hn; cases es with
              | nil => simp only [FRs] at q
              | cons d es =>
                obtain ⟨a, u⟩ := h
                simp only [FRs] at q
                obtain ⟨⟨t, hk⟩, _, hr⟩ := q
                rw [List.lookup_cons] at hn
                by_cases h1 : m = a
                · subst h1; simp at hn
                · have h2 : (m == a) = false := beq_eq_false_iff_ne.mpr h1
                  have h3 : (a == m) = false := beq_eq_false_iff_ne.mpr (Ne.symm h1)
                  simp only [h2] at hn
                  rw [List.find?_cons, isStr_iff hk, h3]
                  exact ih hr hn
          show (lookIn m (dctOf des kk)).map (·.isSome) = some false
          rw [lookIn_dict]
          unfold getL
          rw [hnone hf hno]
          have : des.any (·.refKey) = false := by
            rw [List.any_eq_false]; intro e he; simpa using FRs.plain hf e he
          rw [this]; rfl
        · refine Calls.callWith_function (o := ob) (fd := fd) (evalArgs_L (hst env) (hs.2 A env ρ₁ l p.2 s₁ q.1 q.2 pos _ E hr he M₁.good (hl.mv M₁) hq fun ρ₂ s₂ ws M₂ q₂ => ⟨⟨M₂.good.base _ _ hob, hfd⟩, ?_⟩))
          refine wpAny_call (hcall A ρ₂ s₂ _ _ (hr.down (Nat.le_succ n)) M₂.good (by simp only [VRs]; exact ⟨M₂.vr (by simp only [VR]; exact ⟨pp, hpp, rfl⟩), q₂⟩) fun ρ₃ s₃ w M₃ q₃ => ?_)
          exact hQ _ _ _ ((M₁.trans M₂).trans M₃) q₃
      · cases hk
    · rename_i vs0 e0
      split at hk
      · rename_i hmn
        cases hk
        subst hmn
        obtain ⟨pp, hpp, rfl⟩ := vrRef q₁
        have r := M₁.good.obj _ _ _ hpp e0
        simp only [OR] at r
        obtain ⟨ep, us, kk, hgt, hv⟩ := r
        refine Calls.getMethod_list_append (by rw [ep]; exact hgt) rfl rfl ?_
        have hm4 : (match q.1 with | [v] => (appV i v q.2).map fun o => (V.none, o) | _ => none) = some (v, o') := hm3
        split at hm4
        · rename_i v1 ev
          obtain ⟨o2, ho2, hm5⟩ := map2 hm4
          cases hm5
          refine callWith_builtin (plain_args (hst env)) (evalArgs_L (hst env) (hs.2 A env ρ₁ l p.2 s₁ q.1 q.2 pos _ E hr he M₁.good (hl.mv M₁) hq fun ρ₂ s₂ ws M₂ q₂ => ?_))
          rw [ev] at q₂
          obtain ⟨w, rfl, q3⟩ := vrs1 q₂
          refine append_sim M₂.good (M₂.vr (v := .ref i) (by simp only [VR]; exact ⟨pp, hpp, rfl⟩)) q3 ho2 fun s₃ M₃ => ?_
          exact hQ _ _ _ ((M₁.trans M₂).trans M₃) (by simp only [VR])
        · cases hm4
      · cases hk
    · cases hk
  · rename_i y ey
    cases hk
    rw [ey] at q₁ hm3
    obtain ⟨t, rfl⟩ := vrStr q₁
    have hm4 : strMeth m y q.1 q.2 = some (v, o') := hm3
    have fin : ∀ (id : String), (∀ ρ₂ s₂ ws, Mv x [] ρ₁ s₁ ρ₂ q.2 s₂ → VRs x s₂.heap ρ₂ q.1 ws → wpAny (model x.prog x.w) A (call (.builtin id) (.str ⟨y.toArray⟩ t :: ws)) Q E s₂) →
        wpAny (model x.prog x.w) A (callWith pos (.builtin id) [.str ⟨y.toArray⟩ t] (backTo pos (starEach es env)) []) Q E s₁ := by
      intro id h
      exact callWith_builtin (plain_args (hst env)) (evalArgs_L (hst env) (hs.2 A env ρ₁ l p.2 s₁ q.1 q.2 pos _ E hr he M₁.good (hl.mv M₁) hq fun ρ₂ s₂ ws M₂ q₂ => h ρ₂ s₂ ws M₂ q₂))
    have four : m = "join" ∨ m = "split" ∨ m = "lower" ∨ m = "index" := by
      unfold strMeth at hm4
      split at hm4
      · exact .inl ‹_›
      split at hm4
      · exact .inr (.inl ‹_›)
      split at hm4
      · exact .inr (.inr (.inl ‹_›))
      split at hm4
      · exact .inr (.inr (.inr ‹_›))
      · cases hm4
    have use := fun ρ₂ s₂ ws (M₂ : Mv x [] ρ₁ s₁ ρ₂ q.2 s₂) (q₂ : VRs x s₂.heap ρ₂ q.1 ws) => strMeth_sim (E := E) (Q := Q) (t := t) hr M₂.good q₂ hm4 fun ρ₃ s₃ w M₃ q₃ => hQ ρ₃ s₃ w ((M₁.trans M₂).trans M₃) q₃
    rcases four with rfl | rfl | rfl | rfl
    · refine GM.join (fin _ fun ρ₂ s₂ ws M₂ q₂ => ?_)
      rcases use ρ₂ s₂ ws M₂ q₂ with ⟨_, h⟩ | ⟨h1, h⟩ | ⟨h1, h⟩ | ⟨h1, h⟩ <;> first | exact h | exact absurd h1 (by decide +kernel)
    · refine GM.split (fin _ fun ρ₂ s₂ ws M₂ q₂ => ?_)
      rcases use ρ₂ s₂ ws M₂ q₂ with ⟨h1, h⟩ | ⟨_, h⟩ | ⟨h1, h⟩ | ⟨h1, h⟩ <;> first | exact absurd h1 (by decide +kernel) | exact h
    · refine GM.lower (fin _ fun ρ₂ s₂ ws M₂ q₂ => ?_)
      rcases use ρ₂ s₂ ws M₂ q₂ with ⟨h1, h⟩ | ⟨h1, h⟩ | ⟨_, h⟩ | ⟨h1, h⟩ <;> first | exact absurd h1 (by decide +kernel) | exact h
    · refine GM.index (fin _ fun ρ₂ s₂ ws M₂ q₂ => ?_)
      rcases use ρ₂ s₂ ws M₂ q₂ with ⟨h1, h⟩ | ⟨h1, h⟩ | ⟨h1, h⟩ | ⟨_, h⟩ <;> first | exact absurd h1 (by decide +kernel) | exact h
  · cases hk

end
end Mine
end

section
open PySem PySem.W PySem.Calls PyProof.Rows PySem.SeqAt
set_option linter.unusedVariables false
namespace Mine

noncomputable def ItR (x : X) (h : Heap) (ρ : Rho) (it : V) (I : Addr) (i : Nat) : Prop := match it with
  | .rng n => IsRangeIter h I i (n - i) 1 ∧ 0 ≤ n ∧ n < 2 ^ 31
  | .str l => ∃ t, (l.all (· < 128) = true ∧ h.IsStrIter I "str_ascii_iterator" ⟨l.toArray⟩ t i) ∨ (l.all (· < 128) = false ∧ h.IsStrIter I "str_iterator" ⟨l.toArray⟩ t i)
  | .tup vs => ∃ a ws, a ≠ I ∧ h.IsTupleIter I a i ∧ h.IsTuple a ws.toArray ∧ VRs x h ρ vs ws
  | .ref j => ∃ p, ρ[j]? = some p ∧ h.IsListIter I p.2 i
  | _ => False

section
variable {x : X} {n : Nat} {sc : Scope}

theorem ItR.mono {D : List Addr} {h h' : Heap} {ρ ρ' : Rho} {it : V} {I : Addr} {i : Nat} (st : Step D h h') (ex : ρ <+: ρ') (hI : I ∉ D) (q : ItR x h ρ it I i) : ItR x h' ρ' it I i := by
  cases it <;> simp only [ItR] at q ⊢
  · obtain ⟨t, q⟩ := q
    refine ⟨t, ?_⟩
    rcases q with ⟨a, o, ho, r⟩ | ⟨a, o, ho, r⟩
    · exact .inl ⟨a, o, st.keep _ _ hI ho, r⟩
    · exact .inr ⟨a, o, st.keep _ _ hI ho, r⟩
  · obtain ⟨a, ws, hne, ⟨o, ho, r⟩, ht, hv⟩ := q
    exact ⟨a, ws, hne, ⟨o, st.keep _ _ hI ho, r⟩, IsTuple.fz st ht, VRs.mono st ex hv⟩
  · obtain ⟨p, hp, o, ho, r⟩ := q
    exact ⟨p, pre_get ex hp, o, st.keep _ _ hI ho, r⟩
  · exact ⟨st.keep _ _ hI q.1, q.2⟩

theorem all_mk (l : List Nat) : (Str.mk l.toArray).cps.all (· < 128) = l.all (· < 128) := by simp

theorem iter_make {A : Around} {s : Shared} {ρ : Rho} {o : Obs} {it : V} {w : Value} {Q : Value → Shared → Prop} {E : Value → Shared → Prop} (hg : Gd x ρ o s.heap) (q : VR x s.heap ρ it w)
    (hit : itemAt it o 0 ≠ none) (hQ : ∀ ob, (s.heap.push ob).get? s.heap.objs.size = some ob → ItR x (s.heap.push ob) ρ it s.heap.objs.size 0 → Q (.ref s.heap.objs.size) { s with heap := s.heap.push ob }) :
    wpAny (model x.prog x.w) A (pyIter w) Q E s := by
  cases it <;> simp only [itemAt, ne_eq, not_true_eq_false] at hit
  · rename_i l
    obtain ⟨t, rfl⟩ := vrStr q
    cases ha : l.all (· < 128)
    · refine wpAny_pyIter_wide (by rw [all_mk]; exact ha) (hQ _ (Heap.get?_push_size _ rfl) ?_)
      simp only [ItR]
      exact ⟨t, .inr ⟨ha, _, Heap.get?_push_size _ rfl, rfl, rfl⟩⟩
    · refine wpAny_pyIter_ascii (by rw [all_mk]; exact ha) (hQ _ (Heap.get?_push_size _ rfl) ?_)
      simp only [ItR]
      exact ⟨t, .inl ⟨ha, _, Heap.get?_push_size _ rfl, rfl, rfl⟩⟩
  · rename_i vs
    obtain ⟨a, ws, rfl, ht, hv⟩ := vrTup q
    refine wpAny_pyIter_tuple ht (hQ _ (Heap.get?_push_size _ rfl) ?_)
    simp only [ItR]
    refine ⟨a, ws, ?_, ⟨_, Heap.get?_push_size _ rfl, rfl, rfl⟩, ht.push _, VRs.mono (Step.push [] _ _) (List.prefix_refl ρ) hv⟩
    obtain ⟨ob, hob, _⟩ := ht
    exact Nat.ne_of_lt (Heap.lt_size hob)
  · rename_i j
    obtain ⟨p, hp, rfl⟩ := vrRef q
    cases e0 : o[j]? with
    | none => rw [e0] at hit; simp at hit
    | some ob =>
      cases ob with
      | inst c fs => rw [e0] at hit; simp at hit
      | list vs =>
        have r := hg.obj _ _ _ hp e0
        simp only [OR] at r
        obtain ⟨ep, ws, k, hgt, hv⟩ := r
        rw [ep]
        refine wpAny_pyIter_list (isList_of hgt) (hQ _ (Heap.get?_push_size _ rfl) ?_)
        simp only [ItR]
        exact ⟨p, hp, _, Heap.get?_push_size _ rfl, rfl, rfl⟩
  · rename_i k
    obtain ⟨a, t, u, v, rfl, hr, h0, h1⟩ := vrRng q
    have hs : Builtin.Range.small 0 k 1 = true := small_one (by omega) (by omega) (by omega) (by omega)
    have hz : Builtin.Range.rangeSize 0 k 1 = k := by rw [rangeSize_one]; split <;> omega
    refine wpAny_pyIter_range hr hs (hQ _ (Heap.get?_push_size _ rfl) ?_)
    simp only [ItR]
    refine ⟨?_, h0, h1⟩
    rw [hz]
    have e : k - ((0 : Nat) : Int) = k := by omega
    rw [e]
    exact Heap.get?_push_size s.heap (o := { cls := .type "range_iterator", data := .fields #[rawInt 0, rawInt k, rawInt 1] }) rfl

theorem step_of_same {a : Addr} {h h' : Heap} (hs : Heap.SameBut a h h') (hl : ∃ o, h'.get? a = some o) (hf : ∀ o, h.get? a = some o → ¬ Frozen o) : Step [a] h h' :=
  ⟨fun b ob n q => (hs.2 b (by simpa using n)).trans q, fun b ob f q => by
    by_cases hb : b = a
    · subst hb; exact (hf _ q f).elim
    · exact (hs.2 b hb).trans q, fun b ob q => by
    by_cases hb : b = a
    · subst hb; exact hl
    · exact ⟨ob, (hs.2 b hb).trans q⟩⟩

theorem iter_next {A : Around} {s : Shared} {ρ : Rho} {o : Obs} {it v : V} {I : Addr} {i : Nat} {Q : Option Value → Shared → Prop} {E : Value → Shared → Prop} (hg : Gd x ρ o s.heap) (q : ItR x s.heap ρ it I i)
    (hW : I ∉ Wr ρ) (hB : x.hB.get? I = none) (hit : itemAt it o i = some (some v))
    (hQ : ∀ h' tk w, Step [I] s.heap h' → ItR x h' ρ it I (i + 1) → VR x h' ρ v w → Q (some w) { s with heap := h', toks := tk }) :
    wpAny (model x.prog x.w) A (pyNext (.ref I)) Q E s := by
  cases it <;> simp only [itemAt] at hit <;> try (cases hit; done)
  · rename_i l
    obtain ⟨c, hc, rfl⟩ : ∃ c, l[i]? = some c ∧ V.str [c] = v := by
      cases e : l[i]? with
      | none => rw [e] at hit; simp at hit
      | some c => rw [e] at hit; simp at hit; exact ⟨c, rfl, hit⟩
    simp only [ItR] at q
    obtain ⟨t, ⟨ha, hi⟩ | ⟨ha, hi⟩⟩ := q
    · refine wpAny_pyNext_ascii_item hi (c := c) (by simpa using hc) fun h' hi' hs => ?_
      obtain ⟨o0, ho0, hc0, hd0⟩ := hi
      refine hQ h' _ _ (step_of_same hs (let ⟨o, ho, _⟩ := hi'; ⟨o, ho⟩) fun o1 h1 => ?_) ?_ (vr_str [c] _)
      · rw [ho0] at h1; cases h1; exact not_frozen_fields hd0 (by rw [hc0]; decide)
      · simp only [ItR]; exact ⟨t, .inl ⟨ha, hi'⟩⟩
    · refine wpAny_pyNext_wide_item hi (c := c) (by simpa using hc) fun h' hi' hs => ?_
      obtain ⟨o0, ho0, hc0, hd0⟩ := hi
      refine hQ h' _ _ (step_of_same hs (let ⟨o, ho, _⟩ := hi'; ⟨o, ho⟩) fun o1 h1 => ?_) ?_ (vr_str [c] _)
      · rw [ho0] at h1; cases h1; exact not_frozen_fields hd0 (by rw [hc0]; decide)
      · simp only [ItR]; exact ⟨t, .inr ⟨ha, hi'⟩⟩
  · rename_i vs
    simp only [Option.some.injEq] at hit
    simp only [ItR] at q
    obtain ⟨a, ws, hne, hi, ht, hv⟩ := q
    obtain ⟨w, hw, qw⟩ := hv.get hit
    refine wpAny_pyNext_tuple_item hi ht (x := w) (by simpa using hw) fun h' hi' hs => ?_
    obtain ⟨o0, ho0, hc0, hd0⟩ := hi
    have st : Step [I] s.heap h' := step_of_same hs (let ⟨o, ho, _⟩ := hi'; ⟨o, ho⟩) fun o1 h1 => by rw [ho0] at h1; cases h1; exact not_frozen_fields hd0 (by rw [hc0]; decide)
    refine hQ h' s.toks w st ?_ (VR.mono st (List.prefix_refl ρ) qw)
    simp only [ItR]
    exact ⟨a, ws, hne, hi', IsTuple.fz st ht, VRs.mono st (List.prefix_refl ρ) hv⟩
  · rename_i j
    simp only [ItR] at q
    obtain ⟨p, hp, hi⟩ := q
    cases e0 : o[j]? with
    | none => rw [e0] at hit; simp at hit
    | some ob =>
      cases ob with
      | inst c fs => rw [e0] at hit; simp at hit
      | list vs =>
        rw [e0] at hit
        simp only [Option.some.injEq] at hit
        have r := hg.obj _ _ _ hp e0
        simp only [OR] at r
        obtain ⟨ep, ws, k, hgt, hv⟩ := r
        obtain ⟨w, hw, qw⟩ := hv.get hit
        refine wpAny_pyNext_list_item hi (isList_of hgt) (x := w) (by simpa using hw) fun h' hi' hs => ?_
        obtain ⟨o0, ho0, hc0, hd0⟩ := hi
        have st : Step [I] s.heap h' := step_of_same hs (let ⟨o, ho, _⟩ := hi'; ⟨o, ho⟩) fun o1 h1 => by rw [ho0] at h1; cases h1; exact not_frozen_fields hd0 (by rw [hc0]; decide)
        refine hQ h' s.toks w st ?_ (VR.mono st (List.prefix_refl ρ) qw)
        simp only [ItR]
        exact ⟨p, hp, hi'⟩
  · rename_i k
    simp only [ItR] at q
    obtain ⟨hi, h0, h1⟩ := q
    split at hit
    · rename_i hlt
      simp only [Option.some.injEq] at hit
      subst hit
      refine wpAny_pyNext_range_item hi (by omega) fun h' hi' hs => ?_
      have st : Step [I] s.heap h' := step_of_same hs ⟨_, hi'⟩ fun o1 h1 => by rw [hi] at h1; cases h1; exact not_frozen_fields rfl (fun h => by simp at h)
      refine hQ h' _ _ st ?_ (vr_int _ _)
      simp only [ItR]
      refine ⟨?_, h0, h1⟩
      have e1 : (i : Int) + 1 = ((i + 1 : Nat) : Int) := by omega
      have e2 : k - (i : Int) - 1 = k - ((i + 1 : Nat) : Int) := by omega
      rw [← e2, ← e1]; exact hi'
    · simp at hit

theorem iter_end {A : Around} {s : Shared} {ρ : Rho} {o : Obs} {it : V} {I : Addr} {i : Nat} {Q : Option Value → Shared → Prop} {E : Value → Shared → Prop} (hh : A.handled = none) (hg : Gd x ρ o s.heap) (q : ItR x s.heap ρ it I i)
    (hit : itemAt it o i = some none) (hQ : ∀ h', Heap.ExtBut I s.heap h' → Q none { s with heap := h' }) :
    wpAny (model x.prog x.w) A (pyNext (.ref I)) Q E s := by
  cases it <;> simp only [itemAt] at hit <;> try (cases hit; done)
  · rename_i l
    have hc : l[i]? = none := by
      cases e : l[i]? with
      | none => rfl
      | some c => rw [e] at hit; simp at hit
    simp only [ItR] at q
    obtain ⟨t, ⟨ha, hi⟩ | ⟨ha, hi⟩⟩ := q
    · exact wpAny_pyNext_ascii_end hh hi (by simpa using hc) hQ
    · exact wpAny_pyNext_wide_end hh hi (by simpa using hc) hQ
  · rename_i vs
    simp only [Option.some.injEq] at hit
    simp only [ItR] at q
    obtain ⟨a, ws, hne, hi, ht, hv⟩ := q
    refine wpAny_pyNext_tuple_end hh hi ht ?_ hQ
    have := hv.length
    have h2 := List.getElem?_eq_none_iff.mp hit
    simp; omega
  · rename_i j
    simp only [ItR] at q
    obtain ⟨p, hp, hi⟩ := q
    cases e0 : o[j]? with
    | none => rw [e0] at hit; simp at hit
    | some ob =>
      cases ob with
      | inst c fs => rw [e0] at hit; simp at hit
      | list vs =>
        rw [e0] at hit
        simp only [Option.some.injEq] at hit
        have r := hg.obj _ _ _ hp e0
        simp only [OR] at r
        obtain ⟨ep, ws, k, hgt, hv⟩ := r
        refine wpAny_pyNext_list_end hh hi (isList_of hgt) ?_ hQ
        have := hv.length
        have h2 := List.getElem?_eq_none_iff.mp hit
        simp; omega
  · rename_i k
    simp only [ItR] at q
    obtain ⟨hi, h0, h1⟩ := q
    split at hit
    · simp at hit
    · rename_i hlt
      exact wpAny_pyNext_range_end hh hi (by omega) hQ

theorem iter_letgo {A : Around} {s : Shared} {ρ : Rho} {it : V} {I : Addr} {i : Nat} {target : Expr} {w : Value} {Q : Unit → Shared → Prop} {E : Value → Shared → Prop} (q : ItR x s.heap ρ it I i) (hQ : Q () s) :
    wpAny (model x.prog x.w) A (letOwnedTupleGo target (.ref I) w) Q E s := by
  have key : ∀ (o : Obj) (T : String) (vs : Array Value), s.heap.get? I = some o → o.cls = .type T → o.data = .fields vs → ["enumerate", "zip", "dict_itemiterator", "dict_reverseitemiterator", "odict_iterator", "itertools.zip_longest", "itertools.pairwise"].contains T = false →
      wpAny (model x.prog x.w) A (letOwnedTupleGo target (.ref I) w) Q E s := by
    intro o T vs ho hc hd hT
    have tup : wpAny (model x.prog x.w) A (letOwnedTupleGo (.Tuple [] 0 default) (.ref I) w) Q E s := by
      unfold letOwnedTupleGo
      cases w with
      | ref a =>
        refine wpAny_bind (wpAny_load ho ?_)
        rw [hc, hd]
        show wpAny _ A (if (List.contains _ T && _) = true then _ else _) Q E s
        rw [hT, Bool.false_and, if_neg Bool.false_ne_true]
        exact wpAny_pure hQ
      | _ => exact wpAny_pure hQ
    cases target <;> first | exact tup | exact wpAny_pure hQ
  cases it <;> simp only [ItR] at q
  · obtain ⟨t, ⟨ha, o, ho, hc, hd⟩ | ⟨ha, o, ho, hc, hd⟩⟩ := q
    · exact key o _ _ ho hc hd (by decide)
    · exact key o _ _ ho hc hd (by decide)
  · obtain ⟨a, ws, hne, ⟨o, ho, hc, hd⟩, _⟩ := q
    exact key o _ _ ho hc hd (by decide)
  · obtain ⟨p, hp, o, ho, hc, hd⟩ := q
    exact key o _ _ ho hc hd (by decide)
  · exact key _ _ _ q.1 rfl rfl (by decide)

theorem lookup_putL {α : Type} {y z : Str} {v : α} : ∀ (l : List (Str × α)), (Mine.putL y v l).lookup z = if z = y then some v else l.lookup z
  | [] => by
    simp only [Mine.putL, List.lookup_cons, List.lookup_nil]
    by_cases h : z = y
    · subst h; simp
    · have : (z == y) = false := beq_eq_false_iff_ne.mpr h
      simp [this, h]
  | (a, u) :: r => by
    simp only [Mine.putL]
    by_cases h1 : a = y
    · subst h1
      simp only [if_true, List.lookup_cons]
      by_cases h : z = a
      · subst h; simp
      · have : (z == a) = false := beq_eq_false_iff_ne.mpr h
        simp [this, h]
    · simp only [if_neg h1, List.lookup_cons, lookup_putL r]
      by_cases h : z = a
      · subst h; simp [h1]
      · have : (z == a) = false := beq_eq_false_iff_ne.mpr h
        simp [this]

theorem LR.step {env : Env} {ρ ρ' : Rho} {l : Loc} {D : List Addr} {h h' : Heap} (L : LR x env ρ l h) (st : Step D h h') (ex : ρ <+: ρ') (hd : ∀ a ∈ own env, a ∉ D) (hw : ∀ a ∈ own env, a ∉ Wr ρ') : LR x env ρ' l h' := by
  have k : ∀ b ∈ own env, ∀ o, h.get? b = some o → h'.get? b = some o := fun b hb o e => st.keep b o (hd b hb) e
  have hc : ∀ y c, env.cells.lookup y = some c → c ∈ own env := fun y c e => by
    unfold own
    refine List.mem_cons_of_mem _ ?_
    obtain ⟨l₁, l₂, q, -⟩ := List.lookup_eq_some_iff.mp e
    rw [q]; simp
  refine ⟨?_, fun y v e kd => ?_, fun y c e => ?_, L.one, hw, L.offB, fun b hb => ?_⟩
  · obtain ⟨m, ⟨o, es, ep, ho, hd, hk, hm⟩, hv⟩ := L.ns
    refine ⟨m, ⟨o, es, ep, k _ (by simp [own]) _ ho, hd, hk, hm⟩, fun y v e kd => ?_⟩
    obtain ⟨w, hw, q⟩ := hv y v e kd
    exact ⟨w, hw, VR.mono st ex q⟩
  · obtain ⟨c, o, w, h1, h2, h3, h4⟩ := L.cell y v e kd
    exact ⟨c, o, w, h1, k _ (hc y c h1) _ h2, h3, VR.mono st ex h4⟩
  · obtain ⟨o, v, h1, h2⟩ := L.live y c e
    exact ⟨o, v, k _ (hc y c e) _ h1, h2⟩
  · obtain ⟨o, e⟩ := L.livs b hb
    exact ⟨o, k b hb o e⟩

theorem mv_own {ρ : Rho} {o : Obs} {s : Shared} {h' : Heap} {D : List Addr} {env : Env} (g : Gd x ρ o s.heap) (st : Step D s.heap h') (hd : ∀ a ∈ D, a ∈ own env) (hW : ∀ a ∈ own env, a ∉ Wr ρ) (hB : ∀ a ∈ own env, x.hB.get? a = none) (tk : Tok) :
    Mv x (own env) ρ s ρ o { s with heap := h', toks := tk } :=
  ⟨⟨tk, rfl⟩, Ext.refl _ _, g.step st (fun a ha => hW a (hd a ha)) (fun a ha => hB a (hd a ha)), st.mono fun b _ hb _ => List.mem_append.mpr (.inl (hd b hb))⟩

theorem store_local {D : List Addr} {A : Around} {env : Env} {ρ : Rho} {l : Loc} {o : Obs} {s : Shared} {y : Str} {v : V} {w : Value} {Q : Unit → Shared → Prop} {E : Value → Shared → Prop}
    (hD : env.locals ∈ D) (he : EnvOk sc env) (hg : Gd x ρ o s.heap) (L : LR x env ρ l s.heap) (hk : env.kindOf y = some .local) (q : VR x s.heap ρ v w)
    (hQ : ∀ s', Mv x D ρ s ρ o s' → LR x env ρ (Mine.putL y v l) s'.heap → Q () s') : wpAny (model x.prog x.w) A (storeName env y w) Q E s := by
  obtain ⟨m, hn, hv⟩ := L.ns
  obtain ⟨oL, es, ep, hoL, hdL, hkL, hmL⟩ := id hn
  refine wpAny_storeName_local hk hn (fun h' hn' hs => ?_) (by rw [he.scp, he.kind]; rfl)
  obtain ⟨oL', es', ep', hoL', hdL', hkL', hmL'⟩ := id hn'
  have st : Step [env.locals] s.heap h' := Step.of_sameBut hoL hoL' (not_frozen_dict hdL) hs
  have hLown : env.locals ∈ own env := by simp [own]
  have M : Mv x D ρ s ρ o { s with heap := h', toks := s.toks + 1 } :=
    ⟨⟨_, rfl⟩, Ext.refl _ _, hg.step st (fun a ha => by simp only [List.mem_singleton] at ha; subst ha; exact L.offW _ hLown) (fun a ha => by simp only [List.mem_singleton] at ha; subst ha; exact L.offB _ hLown),
      st.mono fun b _ hb _ => by simp only [List.mem_singleton] at hb; subst hb; exact List.mem_append.mpr (.inl hD)⟩
  have hcell : ∀ z c, env.cells.lookup z = some c → c ≠ env.locals := fun z c e q => by
    subst q
    obtain ⟨o1, v1, h1, h2⟩ := L.live z _ e
    rw [hoL] at h1; cases h1; rw [hdL] at h2; cases h2
  refine hQ _ M ⟨⟨_, hn', fun z v' e kd => ?_⟩, fun z v' e kd => ?_, fun z c e => ?_, L.one, L.offW, L.offB, fun b hb => ?_⟩
  · rw [lookup_putL] at e
    by_cases hz : z = y
    · rw [if_pos hz] at e; cases e
      exact ⟨w, by rw [if_pos hz], VR.mono st (List.prefix_refl ρ) q⟩
    · rw [if_neg hz] at e
      obtain ⟨w', hw', q'⟩ := hv z v' e kd
      exact ⟨w', by rw [if_neg hz]; exact hw', VR.mono st (List.prefix_refl ρ) q'⟩
  · rw [lookup_putL] at e
    have hz : z ≠ y := by rintro rfl; rw [hk] at kd; rcases kd with kd | kd <;> cases kd
    rw [if_neg hz] at e
    obtain ⟨c, o1, w1, h1, h2, h3, h4⟩ := L.cell z v' e kd
    exact ⟨c, o1, w1, h1, (hs.2 c (hcell z c h1)).trans h2, h3, VR.mono st (List.prefix_refl ρ) h4⟩
  · obtain ⟨o1, v1, h1, h2⟩ := L.live z c e
    exact ⟨o1, v1, (hs.2 c (hcell z c e)).trans h1, h2⟩
  · obtain ⟨o1, e1⟩ := L.livs b hb
    exact st.live b o1 e1

theorem store_cell {A : Around} {env : Env} {ρ : Rho} {l : Loc} {o : Obs} {s : Shared} {y : Str} {v : V} {w : Value} {Q : Unit → Shared → Prop} {E : Value → Shared → Prop}
    (he : EnvOk sc env) (hg : Gd x ρ o s.heap) (L : LR x env ρ l s.heap) (hk : env.kindOf y = some .cell) (hcl : ∃ c, env.cells.lookup y = some c) (q : VR x s.heap ρ v w)
    (hQ : ∀ s', Mv x (own env) ρ s ρ o s' → LR x env ρ (Mine.putL y v l) s'.heap → Q () s') : wpAny (model x.prog x.w) A (storeName env y w) Q E s := by
  obtain ⟨c, hc⟩ := hcl
  obtain ⟨o0, v0, h0, h0d⟩ := L.live y c hc
  obtain ⟨m, hn, hv⟩ := L.ns
  obtain ⟨oL, es, ep, hoL, hdL, hkL, hmL⟩ := id hn
  have hcown : c ∈ own env := by
    unfold own
    refine List.mem_cons_of_mem _ ?_
    obtain ⟨l₁, l₂, q, -⟩ := List.lookup_eq_some_iff.mp hc
    rw [q]; simp
  have hcL : c ≠ env.locals := by rintro rfl; rw [hoL] at h0; cases h0; rw [hdL] at h0d; cases h0d
  refine wpAny_storeName_cell (by rw [he.scp]; exact he.kind) hk hc ⟨o0, h0, h0d⟩ fun h' hv' hs => ?_
  obtain ⟨o1, h1, h1d⟩ := hv'
  have st : Step [c] s.heap h' := Step.of_sameBut h0 h1 (not_frozen_cell h0d) hs
  have M := mv_own (x := x) hg st (env := env) (fun a ha => by simp only [List.mem_singleton] at ha; subst ha; exact hcown) L.offW L.offB s.toks
  have hone : ∀ z d, env.cells.lookup z = some d → d = c := fun z d e => by
    have hlen1 := L.one
    have m1 : ∀ {z d}, env.cells.lookup z = some d → ∃ p ∈ env.cells, p.2 = d := fun {z d} e => by
      obtain ⟨l₁, l₂, q, -⟩ := List.lookup_eq_some_iff.mp e
      exact ⟨(z, d), by rw [q]; simp, rfl⟩
    obtain ⟨p, hp, rfl⟩ := m1 e
    obtain ⟨p', hp', rfl⟩ := m1 hc
    cases hcs : env.cells with
    | nil => rw [hcs] at hp; cases hp
    | cons a r =>
      rw [hcs] at hp hp' hlen1
      have hr : r = [] := by cases r with
        | nil => rfl
        | cons _ _ => simp at hlen1
      subst hr
      simp only [List.mem_singleton] at hp hp'
      rw [hp, hp']
  refine hQ _ M ⟨⟨m, hn.sameBut hs (Ne.symm hcL), fun z v' e kd => ?_⟩, fun z v' e kd => ?_, fun z d e => ?_, L.one, L.offW, L.offB, fun b hb => ?_⟩
  · rw [lookup_putL] at e
    have hz : z ≠ y := by rintro rfl; rw [hk] at kd; cases kd
    rw [if_neg hz] at e
    obtain ⟨w', hw', q'⟩ := hv z v' e kd
    exact ⟨w', hw', VR.mono st (List.prefix_refl ρ) q'⟩
  · rw [lookup_putL] at e
    by_cases hz : z = y
    · rw [if_pos hz] at e; cases e
      exact ⟨c, o1, w, by rw [hz]; exact hc, h1, h1d, VR.mono st (List.prefix_refl ρ) q⟩
    · rw [if_neg hz] at e
      obtain ⟨d, o2, w2, g1, g2, g3, g4⟩ := L.cell z v' e kd
      have := hone z d g1
      subst this
      exfalso
      have hcs := L.one
      obtain ⟨l₁, l₂, q1, hn1⟩ := List.lookup_eq_some_iff.mp g1
      obtain ⟨l₃, l₄, q2, hn2⟩ := List.lookup_eq_some_iff.mp hc
      rw [q1] at hcs
      have e1 : l₁ = [] := by cases l₁ with
        | nil => rfl
        | cons _ _ => simp at hcs
      have e2 : l₂ = [] := by cases l₂ with
        | nil => rfl
        | cons _ _ => simp [e1] at hcs
      rw [q1, e1, e2] at q2
      have hcs2 : l₃ = [] := by cases l₃ with
        | nil => rfl
        | cons _ _ => have := congrArg List.length q2; simp at this
      rw [hcs2] at q2
      simp at q2
      exact hz q2.1
  · have := hone z d e
    subst this
    exact ⟨o1, _, h1, h1d⟩
  · obtain ⟨o2, e2⟩ := L.livs b hb
    exact st.live b o2 e2

inductive TgtOk (sc : Scope) : Tgt → Expr → Prop
  | one (y : Str) (p : Pos) : sc.names.lookup y = some .local → TgtOk sc (.one y) (.Name y p)
  | many (ys : List Str) (es : List Expr) (k : Nat) (p : Pos) : (∀ y ∈ ys, sc.names.lookup y = some .local) →
      (∀ env, (assignEach es env).findIdx? (·.1) = none) → (∀ env, (assignEach es env).length = ys.length) →
      (∃ ps : List Pos, ps.length = ys.length ∧ ∀ env, (assignEach es env).map (·.2) = (ys.zip ps).map fun yp => assign (.Name yp.1 yp.2) env) → TgtOk sc (.many ys) (.Tuple es k p)

theorem assign_name {A : Around} {env : Env} {y : Str} {p : Pos} {v : Value} {s : Shared} {M : Model} {Q : Unit → Shared → Prop} {E : Value → Shared → Prop} (h : wpAny M A (storeName env y v) Q E s) : wpAny M A (assign (.Name y p) env v) Q E s := by
  show wpAny M A (do standAt p; bindName env y v) Q E s
  exact wpAny_bind (wpAny_standAt (wpAny_bindName h))

theorem order_names {D : List Addr} {A : Around} {env : Env} {o : Obs} {Q : Unit → Shared → Prop} {E : Value → Shared → Prop} {ρ : Rho} (hD : env.locals ∈ D) (he : EnvOk sc env) : ∀ (ys : List Str) (ps : List Pos) (vs : List V) (ws : List Value) (l : Loc) (s : Shared),
    (∀ y ∈ ys, sc.names.lookup y = some .local) → ps.length = ys.length → ys.length = vs.length → Gd x ρ o s.heap → LR x env ρ l s.heap → VRs x s.heap ρ vs ws →
    (∀ s', Mv x D ρ s ρ o s' → LR x env ρ (putAll (ys.zip vs) l) s'.heap → Q () s') →
    wpAny (model x.prog x.w) A (assignInOrder ((ys.zip ps).map fun yp => assign (.Name yp.1 yp.2) env) ws) Q E s
  | [], _, [], ws, l, s, _, _, _, hg, hl, _, hQ => by
    show wpAny _ A (Sem.pure ()) Q E s
    exact wpAny_pure (hQ s (mv_new hg) hl)
  | y :: ys, p :: ps, v :: vs, ws, l, s, hy, hp, hv, hg, hl, q, hQ => by
    cases ws with
    | nil => simp only [VRs] at q
    | cons w ws =>
      simp only [VRs] at q
      show wpAny _ A (do holding ws (assign (.Name y p) env w); assignInOrder ((ys.zip ps).map fun yp => assign (.Name yp.1 yp.2) env) ws) Q E s
      have hk : env.kindOf y = some .local := by unfold Env.kindOf; rw [he.scp]; exact hy y (by simp)
      refine wpAny_bind (wpAny_holding (assign_name (store_local hD he hg hl hk q.1 fun s' M L' => ?_)))
      exact order_names hD he ys ps vs ws _ s' (fun z hz => hy z (by simp [hz])) (by simpa using hp) (by simpa using hv) M.good L' (M.vrs q.2) fun s'' M' L'' => hQ s'' (M.trans M') L''
  | _ :: _, [], _, _, _, _, _, hp, _, _, _, _, _ => by simp at hp
  | _ :: _, _ :: _, [], _, _, _, _, _, hv, _, _, _, _ => by simp at hv
  | [], _, _ :: _, _, _, _, _, _, hv, _, _, _, _ => by simp at hv

theorem step_ext {a : Addr} {h h' : Heap} (ha : h.get? a = none) (e : Heap.ExtBut a h h') : Step [] h h' := by
  have k : ∀ b o, h.get? b = some o → h'.get? b = some o := fun b o q => e b o (by rintro rfl; rw [ha] at q; cases q) q
  exact ⟨fun b o _ q => k b o q, fun b o _ q => k b o q, fun b o q => ⟨o, k b o q⟩⟩

theorem assign_sim {D : List Addr} {A : Around} {env : Env} {ρ : Rho} {l : Loc} {o : Obs} {s : Shared} {t : Tgt} {te : Expr} {v : V} {w : Value} {bs : List (Str × V)} {Q : Unit → Shared → Prop} {E : Value → Shared → Prop}
    (hD : env.locals ∈ D) (hr : Room A n) (he : EnvOk sc env) (T : TgtOk sc t te) (hg : Gd x ρ o s.heap) (L : LR x env ρ l s.heap) (q : VR x s.heap ρ v w) (hb : bindT t v = some bs)
    (hQ : ∀ s', Mv x D ρ s ρ o s' → LR x env ρ (putAll bs l) s'.heap → Q () s') : wpAny (model x.prog x.w) A (assign te env w) Q E s := by
  cases T with
  | one y p hy =>
    cases hb
    have hk : env.kindOf y = some .local := by unfold Env.kindOf; rw [he.scp]; exact hy
    exact assign_name (store_local hD he hg L hk q hQ)
  | many ys es k p hy h1 h2 h3 =>
    cases v <;> simp only [bindT] at hb <;> try (cases hb; done)
    rename_i vs
    split at hb
    · rename_i hlen
      cases hb
      obtain ⟨a, ws, rfl, ht, hv⟩ := vrTup q
      obtain ⟨ps, hps, h4⟩ := h3
      have hl := hv.length
      refine wpAny_assign_Tuple hr.hd ht (by rw [h2 env]; simp; omega) (h1 env) fun h' hx => ?_
      rw [h4 env]
      have st : Step [] s.heap h' := step_ext (get_size _) hx
      have M : Mv x [] ρ s ρ o { s with heap := h' } := mv_side hg st s.toks
      refine order_names hD he ys ps vs ws l _ hy hps hlen M.good (L.mv M) (M.vrs hv) fun s'' M' L' => ?_
      exact hQ s'' (M.any.trans M') L'
    · cases hb

end
end Mine
end

section
open PySem PySem.W PySem.Calls PyProof.Rows PySem.SeqAt
set_option linter.unusedVariables false
namespace Mine

noncomputable def FlR (x : X) (h : Heap) (ρ : Rho) : Fl → Flow → Prop
  | .next, f => f = .next
  | .ret v, f => ∃ w, f = .ret w ∧ VR x h ρ v w

noncomputable def SimS (x : X) (n : Nat) (sc : Scope) (m : SM) (st : Stmt) : Prop :=
  ∀ (A : Around) (env : Env) (ρ : Rho) (l : Loc) (o : Obs) (s : Shared) (fl : Fl) (l' : Loc) (o' : Obs) (Q : Flow → Shared → Prop) (E : Value → Shared → Prop),
    Room A n → EnvOk sc env → Gd x ρ o s.heap → LR x env ρ l s.heap → m l o = some (fl, l', o') →
    (∀ ρ' s' f, Mv x (own env) ρ s ρ' o' s' → LR x env ρ' l' s'.heap → FlR x s'.heap ρ' fl f → Q f s') → wpAny (model x.prog x.w) A (exec st env) Q E s

noncomputable def SimBk (x : X) (n : Nat) (sc : Scope) (m : SM) (sts : List Stmt) : Prop :=
  ∀ (A : Around) (env : Env) (ρ : Rho) (l : Loc) (o : Obs) (s : Shared) (fl : Fl) (l' : Loc) (o' : Obs) (Q : Flow → Shared → Prop) (E : Value → Shared → Prop),
    Room A n → EnvOk sc env → Gd x ρ o s.heap → LR x env ρ l s.heap → m l o = some (fl, l', o') →
    (∀ ρ' s' f, Mv x (own env) ρ s ρ' o' s' → LR x env ρ' l' s'.heap → FlR x s'.heap ρ' fl f → Q f s') → wpAny (model x.prog x.w) A (execs sts env) Q E s

section
variable {x : X} {n : Nat} {sc : Scope} {c : Cfg}

theorem simS_fail {st : Stmt} : SimS x n sc failS st := by
  intro A env ρ l o s fl l' o' Q E hr he hg hl hm hQ
  cases hm

theorem simBk_nil : SimBk x n sc nextS [] := by
  intro A env ρ l o s fl l' o' Q E hr he hg hl hm hQ
  cases hm
  exact wpAny_execs_nil (hQ ρ s _ (mv_new hg) hl rfl)

theorem simBk_cons {a b : SM} {st : Stmt} {sts : List Stmt} (ha : SimS x n sc a st) (hb : SimBk x n sc b sts) : SimBk x n sc (thenS a b) (st :: sts) := by
  intro A env ρ l o s fl l' o' Q E hr he hg hl hm hQ
  obtain ⟨p, hp, hm1⟩ := bind2 hm
  clear hm
  refine wpAny_execs_cons (ha A env ρ l o s p.1 p.2.1 p.2.2 _ E hr he hg hl hp fun ρ₁ s₁ f M₁ L₁ F₁ => ?_)
  split at hm1
  · rename_i e
    rw [e] at F₁
    cases F₁
    exact hb A env ρ₁ p.2.1 p.2.2 s₁ fl l' o' _ E hr he M₁.good L₁ hm1 fun ρ₂ s₂ f M₂ L₂ F₂ => hQ ρ₂ s₂ f (M₁.trans M₂) L₂ F₂
  · rename_i v e
    cases hm1
    rw [e] at F₁
    obtain ⟨w, rfl, q⟩ := F₁
    exact hQ ρ₁ s₁ _ M₁ L₁ ⟨w, rfl, q⟩

theorem simS_ret {m : EM V} {e : Expr} {pos : Pos} (h : SimE x n sc m e) : SimS x n sc (retM m) (.Return (some e) pos) := by
  intro A env ρ l o s fl l' o' Q E hr he hg hl hm hQ
  obtain ⟨p, hp, hm1⟩ := map2 hm
  cases hm1
  exact wpAny_Return_some (h A env ρ l o s p.1 p.2 _ E hr he hg hl hp fun ρ₁ s₁ w M₁ q₁ => hQ ρ₁ s₁ _ M₁.any (hl.mv M₁) ⟨w, rfl, q₁⟩)

theorem simS_expr {m : EM V} {e : Expr} {pos : Pos} (h : SimE x n sc m e) (hs : ∀ env, swapsWith e none pos.line env = pure false := by intro _; kernel_rfl) : SimS x n sc (exprM m) (.Expr e pos) := by
  intro A env ρ l o s fl l' o' Q E hr he hg hl hm hQ
  obtain ⟨p, hp, hm1⟩ := bind2 hm
  clear hm
  refine wpAny_Expr (h A env ρ l o s p.1 p.2 _ E hr he hg hl hp fun ρ₁ s₁ w M₁ q₁ => ?_) (by unfold interactive; rw [he.scp, he.kind]; rfl) (hs env)
  split at hm1
  · rename_i e1
    cases hm1
    rw [e1] at q₁
    rw [vrNone q₁]
    exact hQ ρ₁ s₁ _ M₁.any (hl.mv M₁) rfl
  · rename_i y e1
    cases hm1
    rw [e1] at q₁
    obtain ⟨t, rfl⟩ := vrStr q₁
    exact hQ ρ₁ s₁ _ M₁.any (hl.mv M₁) rfl
  · cases hm1

theorem simS_if {t : EM Bool} {a b : SM} {et : Expr} {sa sb : List Stmt} {pos : Pos} (ht : SimT x n sc t et) (ha : SimBk x n sc a sa) (hb : SimBk x n sc b sb) : SimS x n sc (ifM t a b) (.If et sa sb pos) := by
  intro A env ρ l o s fl l' o' Q E hr he hg hl hm hQ
  obtain ⟨p, hp, hm1⟩ := bind2 hm
  clear hm
  refine wpAny_If (ht A env ρ l o s p.1 p.2 _ E hr he hg hl hp fun ρ₁ s₁ M₁ => ?_)
  cases hc : p.1 <;> rw [hc] at hm1
  · exact hb A env ρ₁ l p.2 s₁ fl l' o' _ E hr he M₁.good (hl.mv M₁) hm1 fun ρ₂ s₂ f M₂ L₂ F₂ => hQ ρ₂ s₂ f (M₁.any.trans M₂) L₂ F₂
  · exact ha A env ρ₁ l p.2 s₁ fl l' o' _ E hr he M₁.good (hl.mv M₁) hm1 fun ρ₂ s₂ f M₂ L₂ F₂ => hQ ρ₂ s₂ f (M₁.any.trans M₂) L₂ F₂

theorem simS_assign {y : Str} {m : EM V} {e : Expr} {p' pos : Pos} (h : SimE x n sc m e) (hk : sc.names.lookup y = some .local) (hs : ∀ env, swapsWith e (some (.Name y p')) pos.line env = pure false := by intro _; kernel_rfl) :
    SimS x n sc (assignM y m) (.Assign [.Name y p'] e pos) := by
  intro A env ρ l o s fl l' o' Q E hr he hg hl hm hQ
  obtain ⟨p, hp, hm1⟩ := map2 hm
  cases hm1
  refine wpAny_Assign_Name (h A env ρ l o s p.1 p.2 _ E hr he hg hl hp fun ρ₁ s₁ w M₁ q₁ => ?_) (hs env)
  have hk' : env.kindOf y = some .local := by unfold Env.kindOf; rw [he.scp]; exact hk
  exact store_local (D := own env) (by simp [own]) he M₁.good (hl.mv M₁) hk' q₁ fun s₂ M₂ L₂ => hQ ρ₁ s₂ _ (M₁.any.trans M₂) L₂ rfl

theorem simS_assignC {y : Str} {m : EM V} {e : Expr} {p' pos : Pos} (h : SimE x n sc m e) (hk : sc.names.lookup y = some .cell) (hs : ∀ env, swapsWith e (some (.Name y p')) pos.line env = pure false := by intro _; kernel_rfl) :
    SimS x n sc (assignM y m) (.Assign [.Name y p'] e pos) := by
  intro A env ρ l o s fl l' o' Q E hr he hg hl hm hQ
  obtain ⟨p, hp, hm1⟩ := map2 hm
  cases hm1
  refine wpAny_Assign_Name (h A env ρ l o s p.1 p.2 _ E hr he hg hl hp fun ρ₁ s₁ w M₁ q₁ => ?_) (hs env)
  have hk' : env.kindOf y = some .cell := by unfold Env.kindOf; rw [he.scp]; exact hk
  exact store_cell he M₁.good (hl.mv M₁) hk' (he.cl y hk) q₁ fun s₂ M₂ L₂ => hQ ρ₁ s₂ _ (M₁.any.trans M₂) L₂ rfl

theorem simS_unpack {ys : List Str} {m : EM V} {ts : List Expr} {k : Nat} {tp pos : Pos} {e : Expr} (h : SimE x n sc m e) (T : TgtOk sc (.many ys) (.Tuple ts k tp))
    (hs : ∀ env, swapsWithSole [.Tuple ts k tp] e pos.line env = pure false := by intro _; kernel_rfl)
    (hw : ∀ env : Env, env.scope = sc → swappedStores [.Tuple ts k tp] e env = pure none := by intro env h; cases env; cases h; kernel_rfl) : SimS x n sc (unpackM ys m) (.Assign [.Tuple ts k tp] e pos) := by
  intro A env ρ l o s fl l' o' Q E hr he hg hl hm hQ
  obtain ⟨p, hp, hm1⟩ := bind2 hm
  obtain ⟨bs, hb, hm2⟩ := map2 hm1
  cases hm2
  refine Assign_Tuple (h A env ρ l o s p.1 p.2 _ E hr he hg hl hp fun ρ₁ s₁ w M₁ q₁ => ?_) (hs env) (hw env he.scp)
  exact assign_sim (D := own env) (by simp [own]) hr he T M₁.good (hl.mv M₁) q₁ hb fun s₂ M₂ L₂ => hQ ρ₁ s₂ _ (M₁.any.trans M₂) L₂ rfl

theorem order_binds {A : Around} {env : Env} {o : Obs} {Q : Unit → Shared → Prop} {E : Value → Shared → Prop} {ρ : Rho} (he : EnvOk sc env) : ∀ (ys : List Str) (vs : List V) (ws : List Value) (l : Loc) (s : Shared),
    (∀ y ∈ ys, sc.names.lookup y = some .local) → ys.length = vs.length → Gd x ρ o s.heap → LR x env ρ l s.heap → VRs x s.heap ρ vs ws →
    (∀ s', Mv x (own env) ρ s ρ o s' → LR x env ρ (putAll (ys.zip vs) l) s'.heap → Q () s') →
    wpAny (model x.prog x.w) A (assignInOrder (ys.map fun y => bindName env y) ws) Q E s
  | [], [], ws, l, s, _, _, hg, hl, _, hQ => by
    show wpAny _ A (Sem.pure ()) Q E s
    exact wpAny_pure (hQ s (mv_new hg) hl)
  | y :: ys, v :: vs, ws, l, s, hy, hv, hg, hl, q, hQ => by
    cases ws with
    | nil => simp only [VRs] at q
    | cons w ws =>
      simp only [VRs] at q
      show wpAny _ A (do holding ws (bindName env y w); assignInOrder (ys.map fun y => bindName env y) ws) Q E s
      have hk : env.kindOf y = some .local := by unfold Env.kindOf; rw [he.scp]; exact hy y (by simp)
      refine wpAny_bind (wpAny_holding (wpAny_bindName (store_local (D := own env) (by simp [own]) he hg hl hk q.1 fun s' M L' => ?_)))
      exact order_binds he ys vs ws _ s' (fun z hz => hy z (by simp [hz])) (by simpa using hv) M.good L' (M.vrs q.2) fun s'' M' L'' => hQ s'' (M.trans M') L''
  | _ :: _, [], _, _, _, _, hv, _, _, _, _ => by simp at hv
  | [], _ :: _, _, _, _, _, hv, _, _, _, _ => by simp at hv

theorem VRs.reverse {h : Heap} {ρ : Rho} : ∀ {vs : List V} {ws : List Value}, VRs x h ρ vs ws → VRs x h ρ vs.reverse ws.reverse
  | [], [], _ => by simp only [List.reverse_nil, VRs]
  | v :: vs, w :: ws, q => by
    simp only [VRs] at q
    rw [List.reverse_cons, List.reverse_cons]
    exact (VRs.reverse q.2).append (VRs.one q.1)
  | [], _ :: _, q => by simp only [VRs] at q
  | _ :: _, [], q => by simp only [VRs] at q

theorem zip_rev {α β : Type} : ∀ (xs : List α) (ys : List β), xs.length = ys.length → xs.reverse.zip ys.reverse = (xs.zip ys).reverse
  | [], [], _ => rfl
  | a :: xs, b :: ys, h => by
    have h' : xs.length = ys.length := by simpa using h
    rw [List.reverse_cons, List.reverse_cons, List.zip_append (by simpa using h'), zip_rev xs ys h']
    simp
  | [], _ :: _, h => by simp at h
  | _ :: _, [], h => by simp at h

theorem simS_swap {ys : List Str} {m : EM V} {ts : List Expr} {k : Nat} {tp pos : Pos} {e : Expr} (h : SimE x n sc m e) (hy : ∀ y ∈ ys, sc.names.lookup y = some .local)
    (hs : ∀ env, swapsWithSole [.Tuple ts k tp] e pos.line env = pure false := by intro _; kernel_rfl)
    (hw : ∀ env : Env, env.scope = sc → swappedStores [.Tuple ts k tp] e env = pure (some ys) := by intro env h; cases env; cases h; kernel_rfl) : SimS x n sc (swapM ys m) (.Assign [.Tuple ts k tp] e pos) := by
  intro A env ρ l o s fl l' o' Q E hr he hg hl hm hQ
  obtain ⟨p, hp, hm1⟩ := bind2 hm
  obtain ⟨bs, hb, hm2⟩ := map2 hm1
  cases hm2
  refine Assign_Tuple_swapped (names := ys) (h A env ρ l o s p.1 p.2 _ E hr he hg hl hp fun ρ₁ s₁ w M₁ q₁ => ?_) (hs env) (hw env he.scp)
  cases hv : p.1 <;> rw [hv] at hb q₁ <;> simp only [bindT] at hb <;> try (cases hb; done)
  rename_i vs
  split at hb
  · rename_i hlen
    cases hb
    obtain ⟨a, ws, rfl, ht, hvs⟩ := vrTup q₁
    have hl2 := hvs.length
    have hsz : ys.length = ws.toArray.size := by simp; omega
    rw [hsz]
    refine unpackItems_tuple hr.hd ht fun h' hx => ?_
    have st : Step [] s₁.heap h' := step_ext (get_size _) hx
    have M₂ : Mv x [] ρ₁ s₁ ρ₁ p.2 { s₁ with heap := h' } := mv_side M₁.good st s₁.toks
    have M := M₁.trans M₂
    refine order_binds he ys.reverse vs.reverse ws.reverse l _ (fun y hy' => hy y (by simpa using hy')) (by simpa using hlen) M.good (hl.mv M) (VRs.reverse (M₂.vrs hvs)) fun s₃ M₃ L₃ => ?_
    rw [zip_rev _ _ hlen] at L₃
    exact hQ ρ₁ s₃ _ (M.any.trans M₃) L₃ rfl
  · cases hb

theorem set_attr {A : Around} {ρ : Rho} {o o' : Obs} {s : Shared} {i : Nat} {nm : Str} {v : V} {wi w : Value} {Q : Unit → Shared → Prop} {E : Value → Shared → Prop}
    (X : XOk x) (CA : ClsAll x) (hn : nm ∈ attrNames) (g : Gd x ρ o s.heap) (qi : VR x s.heap ρ (.ref i) wi) (qv : VR x s.heap ρ v w) (hf : setFld i nm v o = some o')
    (hQ : ∀ s', Mv x [] ρ s ρ o' s' → Q () s') : wpAny (model x.prog x.w) A (setAttr wi nm w) Q E s := by
  unfold setFld at hf
  split at hf
  · rename_i cl fs e0
    split at hf
    · rename_i hlen
      cases hf
      obtain ⟨p, hp, rfl⟩ := vrRef qi
      obtain ⟨C, es, k, hC, I, hd, hfs⟩ := inst_at g hp e0
      have K := CA cl C hC
      have X' := kin X g
      have htk : takerIn x.K C nm = some none := by unfold takerIn; rw [K.attr nm hn]; rfl
      refine set_plain X' I K.sa (osa_open (s := { s with toks := s.toks + 1 }) X' I K.po htk fun b => ?_)
      obtain ⟨cd, hcd, hdd⟩ := any_some K.hd
      have hplain : es.any (·.refKey) = false := by
        rw [List.any_eq_false]; intro e he; simpa using FRs.plain hfs e he
      refine wpAny_bind (wpAny_pure (wpAny_bind (wpAny_bind (wpAny_loadPart I.at_ (wpAny_bind (looks_clsIn X' hcd _ _ _ _ (fun _ _ e => e) ?_))))))
      rw [hdd]
      refine wpAny_pure (a := some p.2) (wpAny_bind (wpAny_pure (wpAny_bind ?_)))
      unfold nsSet
      refine wpAny_bind (wpAny_bind (wpAny_askSetting (wpAny_pure (wpAny_bind (wpAny_mkText (wpAny_bind (wpAny_loadPart hd ?_)))))))
      dsimp only
      rw [aRefKeyMayBeTheName_at, show (List.toArray es).any (·.refKey) = false from by simpa using hplain, Bool.and_false]
      refine wpAny_updatePart hd ?_
      have hput := putName_dict nm (PyData.keyHash x.w.params nm) (.str nm (s.toks + 1)) w es k
      have hd' := Heap.get?_update_self (Obj.putName nm (PyData.keyHash x.w.params nm) (.str nm (s.toks + 1)) w) hd (by rw [hput]; rfl)
      have hs' := Heap.SameBut.update s.heap p.2 (Obj.putName nm (PyData.keyHash x.w.params nm) (.str nm (s.toks + 1)) w)
      rw [hput] at hd'
      have hl1 := hfs.length
      have st : Step [p.2] s.heap (s.heap.update p.2 (Obj.putName nm (PyData.keyHash x.w.params nm) (.str nm (s.toks + 1)) w)) := Step.of_sameBut hd hd' (not_frozen_dict rfl) hs'
      have hfs' : FRs x s.heap ρ (Mine.putL nm v fs) (PySem.W.putL nm (PyData.keyHash x.w.params nm) (.str nm (s.toks + 1)) w es) := FRs.put qv hfs
      have hl2 := hfs'.length
      have hl3 : (Mine.putL nm v fs).length ≤ fs.length + 1 := by
        have : ∀ fs : List (Str × V), (Mine.putL nm v fs).length ≤ fs.length + 1 := by
          intro fs
          induction fs with
          | nil => simp [Mine.putL]
          | cons a r ih => simp only [Mine.putL]; split <;> simp; omega
        exact this fs
      refine wpAny_bind (wpAny_lookBehind hd' (pastItsLine_dict (by rw [List.size_toArray, sizeLine_eq]; omega)) ?_)
      refine wpAny_pure ?_
      have M := mv_write (D := []) (s := s) g hp st (ob := .inst cl (Mine.putL nm v fs)) (by
        simp only [OR]
        refine ⟨C, _, _, hC, ?_, hd', FRs.mono st (List.prefix_refl ρ) hfs'⟩
        exact st.fz _ _ (.inr (.inr rfl)) I.at_) (s.toks + 1 + 1)
      exact hQ _ M
    · cases hf
  · cases hf

theorem simS_setattr {a m : EM V} {ea e : Expr} {nm : Str} {p' pos : Pos} (X : XOk x) (CA : ClsAll x) (ha : SimE x n sc a ea) (h : SimE x n sc m e) (hn : nm ∈ attrNames := by decide)
    (hs : ∀ env, swapsWithSole [.Attribute ea nm p'] e pos.line env = pure false := by intro _; kernel_rfl)
    (hw : ∀ env, swappedStores [.Attribute ea nm p'] e env = pure none := by intro _; kernel_rfl)
    (ht : ∀ env, (assignEach [.Attribute ea nm p'] env).map (·.2) = [fun v => (do
      let ov ← holding [v] (eval ea env)
      standAt p'.atName
      holding [v, ov] (setAttr ov nm v)
      release [v, ov] [])] := by intro _; kernel_rfl) : SimS x n sc (setAttrM a nm m) (.Assign [.Attribute ea nm p'] e pos) := by
  intro A env ρ l o s fl l' o' Q E hr he hg hl hm hQ
  obtain ⟨p, hp, hm1⟩ := bind2 hm
  obtain ⟨q, hq, hm2⟩ := bind2 hm1
  clear hm hm1
  refine wpAny_Assign_stores (h A env ρ l o s p.1 p.2 _ E hr he hg hl hp fun ρ₁ s₁ w M₁ q₁ => ?_) (hs env) (hw env)
  rw [ht env]
  have one : ∀ (f : Value → Sem Unit), wpAny (model x.prog x.w) A (f w) (fun _ => Q .next) E s₁ → wpAny (model x.prog x.w) A (assignAll w [f]) (fun _ => Q .next) E s₁ := by
    intro f hf
    first | exact hf | exact wpAny_bind (wpAny_holding hf)
  refine one _ ?_
  refine wpAny_bind (wpAny_holding (ha A env ρ₁ l p.2 s₁ q.1 q.2 _ E hr he M₁.good (hl.mv M₁) hq fun ρ₂ s₂ wo M₂ q₂ => ?_))
  split at hm2
  · rename_i i ei
    rw [ei] at q₂
    obtain ⟨o2, ho2, hm3⟩ := map2 hm2
    cases hm3
    refine wpAny_bind (wpAny_standAt (wpAny_bind (wpAny_holding ?_)))
    refine set_attr X CA hn M₂.good q₂ (M₂.vr q₁) ho2 fun s₃ M₃ => ?_
    have M := (M₁.trans M₂).trans M₃
    exact wpAny_release (hQ _ _ _ M.any (hl.mv M) rfl)
  · cases hm2

end
end Mine
end

section
open PySem PySem.W PySem.Calls PyProof.Rows PySem.SeqAt
set_option linter.unusedVariables false
namespace Mine

section
variable {x : X} {n : Nat} {sc : Scope} {c : Cfg}

set_option maxRecDepth 100000 in
theorem setItem_at {prog : Program} {w : World} {A : Around} {E : Value → Shared → Prop} {s : Shared} {a : Addr} {ws : List Value} {k : Int} {t : Tok} {v : Value} {j : Nat} {Q : Unit → Shared → Prop}
    (hl : s.heap.get? a = some (lstOf ws j)) (h0 : 0 ≤ k) (h1 : k < ws.length) (hfit : k < 2 ^ 62)
    (hQ : ∀ h' j', h'.get? a = some (lstOf (ws.set k.toNat v) j') → Heap.SameBut a s.heap h' → Q () { s with heap := h' }) : wpAny (model prog w) A (setItem (.ref a) (.int k t) v) Q E s := by
  have hL := isList_of hl
  unfold setItem
  refine wpAny_holding ?_
  refine wpAny_bind (wpAny_sequenceKey hL.typeIs (by decide) ?_)
  refine wpAny_bind (wpAny_callSpecial?_slot (name := Str.ofString "__setitem__") hL.typeIs slot_list_setitem (wpAny_call_entry slot_list_setitem hL.typeIs entry_list_setitem ?_ (args_list_setitem _ _ _)))
  show wpAny _ _ (Builtin.List.listSubscript? (.int k t) >>= _) _ _ s
  refine wpAny_bind (wpAny_listSubscript_int (fitsIndex_of h0 (by omega)) ?_)
  obtain ⟨i, rfl⟩ := Int.eq_ofNat_of_zero_le h0
  have hi : i < ws.length := by omega
  show wpAny _ _ ((seqItemAt a i >>= fun r => pure (r.map (i, ·))) >>= _) _ _ s
  refine wpAny_bind (wpAny_bind (wpAny_seqItemAt hl rfl (wpAny_pure ?_)))
  rw [show (ws.toArray)[i]? = some ws[i] from by simp [hi]]
  show wpAny _ _ (setSeqItemAt a i v >>= _) _ _ s
  refine wpAny_bind (wpAny_setSeqItemAt hl rfl ?_)
  obtain ⟨j', hd'⟩ := Obj.data_mapSeq (o := lstOf ws j) (xs := ws.toArray) (n := j) rfl (·.setIfInBounds i v)
  have e0 : Obj.mapSeq (·.setIfInBounds i v) (lstOf ws j) = lstOf (ws.set i v) j' := by
    have h2 : (Obj.mapSeq (·.setIfInBounds i v) (lstOf ws j)) = { lstOf ws j with data := .seq (ws.toArray.setIfInBounds i v) j' } := by
      cases hm : Obj.mapSeq (·.setIfInBounds i v) (lstOf ws j) with
      | mk c d da sl =>
        rw [hm] at hd'
        simp only at hd'
        subst hd'
        have : Obj.mapSeq (·.setIfInBounds i v) (lstOf ws j) = { lstOf ws j with data := (Obj.mapSeq (·.setIfInBounds i v) (lstOf ws j)).data } := rfl
        rw [hm] at this
        exact this
    rw [h2]
    simp
  have fin := hQ (s.heap.update a (Obj.mapSeq (·.setIfInBounds i v))) j' (by
    have := Heap.get?_update_self (Obj.mapSeq (·.setIfInBounds i v)) hl (by rw [e0]; rfl)
    rw [e0] at this; exact this) (Heap.SameBut.update ..)
  first
    | exact wpAny_bind (wpAny_pure (wpAny_pure ⟨.none, rfl, wpAny_pure fin⟩))
    | exact wpAny_pure ⟨.none, rfl, wpAny_pure fin⟩

theorem simS_setitem {a i m : EM V} {ea ei e : Expr} {p' pos : Pos} (ha : SimE x n sc a ea) (hi : SimE x n sc i ei) (h : SimE x n sc m e)
    (hs : ∀ env, swapsWith e (some (.Subscript ea ei p')) pos.line env = pure false := by intro _; kernel_rfl) : SimS x n sc (setItemM a i m) (.Assign [.Subscript ea ei p'] e pos) := by
  intro A env ρ l o s fl l' o' Q E hr he hg hl hm hQ
  obtain ⟨p, hp, hm1⟩ := bind2 hm
  obtain ⟨q, hq, hm2⟩ := bind2 hm1
  obtain ⟨r, hr', hm3⟩ := bind2 hm2
  clear hm hm1 hm2
  refine wpAny_Assign_Subscript (h A env ρ l o s p.1 p.2 _ E hr he hg hl hp fun ρ₁ s₁ w M₁ q₁ => ?_) (hs env)
  refine ha A env ρ₁ l p.2 s₁ q.1 q.2 _ E hr he M₁.good (hl.mv M₁) hq fun ρ₂ s₂ wa M₂ qa => ?_
  refine hi A env ρ₂ l q.2 s₂ r.1 r.2 _ E hr he M₂.good (hl.mv (M₁.trans M₂)) hr' fun ρ₃ s₃ wi M₃ qi => ?_
  have M := (M₁.trans M₂).trans M₃
  have qa' := M₃.vr qa
  have qv := M₃.vr (M₂.vr q₁)
  split at hm3
  · rename_i j k e1 e2
    rw [e1] at qa'; rw [e2] at qi
    split at hm3
    · rename_i vs e0
      split at hm3
      · rename_i hc
        cases hm3
        obtain ⟨pp, hpp, rfl⟩ := vrRef qa'
        obtain ⟨t, rfl⟩ := vrInt qi
        have r0 := M.good.obj _ _ _ hpp e0
        simp only [OR] at r0
        obtain ⟨ep, ws, kk, hgt, hv⟩ := r0
        rw [ep]
        have hlen := hv.length
        refine setItem_at hgt hc.1 (by omega) (by omega) fun h' j' hl' hs' => ?_
        have st : Step [pp.2] s₃.heap h' := Step.of_sameBut hgt hl' not_frozen_list hs'
        have M₄ := mv_write (D := []) (s := s₃) M.good hpp st (ob := .list (vs.set k.toNat p.1)) (by
          simp only [OR]
          exact ⟨ep, ws.set k.toNat w, j', hl', (VRs.mono st (List.prefix_refl ρ₃) hv).set (VR.mono st (List.prefix_refl ρ₃) qv)⟩) s₃.toks
        have M' := M.trans M₄
        exact hQ _ _ _ M'.any (hl.mv M') rfl
      · cases hm3
    · cases hm3
  · cases hm3

theorem simS_augname {y : Str} {m : EM V} {e : Expr} {p' pos : Pos} (h : SimE x n sc m e) (hk : sc.names.lookup y = some .local) : SimS x n sc (augNameM y .Add m) (.AugAssign (.Name y p') .Add e pos) := by
  intro A env ρ l o s fl l' o' Q E hr he hg hl hm hQ
  unfold augNameM at hm
  have hk' : env.kindOf y = some .local := by unfold Env.kindOf; rw [he.scp]; exact hk
  split at hm
  · rename_i a hla
    obtain ⟨p, hp, hm1⟩ := bind2 hm
    clear hm
    obtain ⟨mm, hn, hv⟩ := hl.ns
    obtain ⟨w0, hw0, q0⟩ := hv y _ hla hk'
    obtain ⟨t0, rfl⟩ := vrInt q0
    refine wpAny_AugAssign_Name (wpAny_loadName_local (by rw [he.scp]; exact he.kind) hk' hn hw0 ?_)
    refine h A env ρ l o s p.1 p.2 _ E hr he hg hl hp fun ρ₁ s₁ w M₁ q₁ => ?_
    split at hm1
    · rename_i b eb
      cases hm1
      rw [eb] at q₁
      obtain ⟨t, rfl⟩ := vrInt q₁
      have M₂ := tok1 M₁.good
      refine iadd_int (store_local (D := own env) (by simp [own]) he M₂.good (hl.mv (M₁.trans M₂)) hk' (vr_int _ _) fun s₂ M₃ L₃ => ?_)
      exact hQ _ _ _ ((M₁.trans M₂).any.trans M₃) L₃ rfl
    · cases hm1
  · cases hm

theorem simS_augattr {a m : EM V} {ea e : Expr} {nm : Str} {p' pos : Pos} (X : XOk x) (CA : ClsAll x) (ha : SimE x n sc a ea) (h : SimE x n sc m e) (hn : nm ∈ attrNames := by decide) :
    SimS x n sc (augAttrM a nm .Add m) (.AugAssign (.Attribute ea nm p') .Add e pos) := by
  intro A env ρ l o s fl l' o' Q E hr he hg hl hm hQ
  obtain ⟨q, hq, hm1⟩ := bind2 hm
  clear hm
  refine wpAny_AugAssign_AttributeAny (ha A env ρ l o s q.1 q.2 _ E hr he hg hl hq fun ρ₁ s₁ wo M₁ qo => ?_)
  split at hm1
  · rename_i i ei
    rw [ei] at qo
    split at hm1
    · rename_i cl fs e0
      split at hm1
      · rename_i a0 hlk
        obtain ⟨p, hp, hm2⟩ := bind2 hm1
        refine get_attr X CA hn M₁.good qo e0 hlk fun s₂ u M₂ qu => ?_
        obtain ⟨t0, rfl⟩ := vrInt qu
        refine h A env ρ₁ l q.2 s₂ p.1 p.2 _ E hr he M₂.good (hl.mv (M₁.trans M₂)) hp fun ρ₃ s₃ w M₃ q₃ => ?_
        split at hm2
        · rename_i b eb
          obtain ⟨o2, ho2, hm3⟩ := map2 hm2
          cases hm3
          rw [eb] at q₃
          obtain ⟨t, rfl⟩ := vrInt q₃
          have M₄ := tok1 M₃.good
          refine iadd_int (set_attr X CA hn M₄.good (M₄.vr (M₃.vr (M₂.vr qo))) (vr_int _ _) ho2 fun s₅ M₅ => ?_)
          have M := (((M₁.trans M₂).trans M₃).trans M₄).trans M₅
          exact hQ _ _ _ M.any (hl.mv M) rfl
        · cases hm2
      · cases hm1
    · cases hm1
  · cases hm1

theorem simS_while {t : EM Bool} {b : SM} {et : Expr} {sb : List Stmt} {pos : Pos} (ht : SimT x n sc t et) (hb : SimBk x n sc b sb) : SimS x n sc (whileM c t b) (.While et sb [] pos) := by
  intro A env ρ₀ l₀ o₀ s₀ fl l' o' Q E hr he hg₀ hl₀ hm₀ hQ
  refine wpAny_While ?_
  refine codeAny_whileLoop (fun k s => ∃ ρ l o, Mv x (own env) ρ₀ s₀ ρ o s ∧ LR x env ρ l s.heap ∧ whileLoop t b k l o = some (fl, l', o')) ?_ c.N ⟨ρ₀, l₀, o₀, mv_new hg₀, hl₀, hm₀⟩
  rintro k s ⟨ρ, l, o, M, hl, hm⟩
  cases k with
  | zero => cases hm
  | succ k =>
    obtain ⟨p, hp, hm1⟩ := bind2 hm
    clear hm
    refine ht A env ρ l o s p.1 p.2 _ _ hr he M.good hl hp fun ρ₁ s₁ M₁ => ?_
    have Ma := M.trans M₁.any
    cases hc : p.1 <;> rw [hc] at hm1
    · cases hm1
      exact wpAny_execs_nil (hQ _ _ _ Ma (hl.mv M₁) rfl)
    · simp only [if_true] at hm1 ⊢
      obtain ⟨q, hq, hm2⟩ := bind2 hm1
      refine hb A env ρ₁ l p.2 s₁ q.1 q.2.1 q.2.2 _ _ hr he Ma.good (hl.mv M₁) hq fun ρ₂ s₂ f M₂ L₂ F₂ => ?_
      have Mb := Ma.trans M₂
      split at hm2
      · rename_i e
        rw [e] at F₂
        cases F₂
        exact ⟨k, Nat.lt_succ_self k, ρ₂, q.2.1, q.2.2, Mb, L₂, hm2⟩
      · rename_i v e
        cases hm2
        rw [e] at F₂
        obtain ⟨w, rfl, qw⟩ := F₂
        exact hQ _ _ _ Mb L₂ ⟨w, rfl, qw⟩

theorem mv_drop {D : List Addr} {ρ₀ ρ : Rho} {o : Obs} {s₀ s : Shared} {I : Addr} {h' : Heap} (hI : s₀.heap.get? I = none) (hnf : ∀ ob, s.heap.get? I = some ob → ¬ Frozen ob) (M : Mv x (I :: D) ρ₀ s₀ ρ o s) (hW : I ∉ Wr ρ) (hB : x.hB.get? I = none) (hx : Heap.ExtBut I s.heap h') :
    Mv x D ρ₀ s₀ ρ o { s with heap := h' } := by
  obtain ⟨tk, e⟩ := M.eq
  have g := M.good
  have ne : ∀ b o, s₀.heap.get? b = some o → b ≠ I := fun b o q => by rintro rfl; rw [hI] at q; cases q
  have nf : ∀ b o, b ≠ I → s.heap.get? b = some o → h'.get? b = some o := fun b o n q => hx b o n q
  refine ⟨⟨tk, by rw [e]⟩, M.ext, ⟨fun b ob q => hx b ob (by rintro rfl; rw [hB] at q; cases q) (g.base b ob q), g.len, fun i p ob hp ho => ?_, g.off, g.nd⟩, ?_⟩
  · have stK : StepK [I] s.heap h' := ⟨fun b ob n q => hx b ob (by simpa using n) q, fun b ob f q => hx b ob (by rintro rfl; exact hnf ob q f) q⟩
    exact OR.monoK stK (List.prefix_refl ρ) (fun m => by simp only [List.mem_singleton] at m; exact hW (m ▸ mem_wr hp)) (g.obj i p ob hp ho)
  · refine ⟨fun b ob n q => hx b ob (ne b ob q) (M.step.keep b ob (fun m => n ?_) q), fun b ob f q => hx b ob (ne b ob q) (M.step.fz b ob f q), fun b ob q => ?_⟩
    · rcases List.mem_append.mp m with m | m
      · rcases List.mem_cons.mp m with m | m
        · exact absurd m (ne b ob q)
        · exact List.mem_append.mpr (.inl m)
      · exact List.mem_append.mpr (.inr m)
    · obtain ⟨o', e'⟩ := M.step.live b ob q
      exact ⟨o', hx b o' (ne b ob q) e'⟩

theorem LR.stepK {env : Env} {ρ : Rho} {l : Loc} {D : List Addr} {h h' : Heap} (L : LR x env ρ l h) (st : StepK D h h') (hd : ∀ a ∈ own env, a ∉ D) : LR x env ρ l h' := by
  have k : ∀ b ∈ own env, ∀ o, h.get? b = some o → h'.get? b = some o := fun b hb o e => st.keep b o (hd b hb) e
  have hc : ∀ y c, env.cells.lookup y = some c → c ∈ own env := fun y c e => by
    unfold own
    refine List.mem_cons_of_mem _ ?_
    obtain ⟨l₁, l₂, q, -⟩ := List.lookup_eq_some_iff.mp e
    rw [q]; simp
  refine ⟨?_, fun y v e kd => ?_, fun y c e => ?_, L.one, L.offW, L.offB, fun b hb => ?_⟩
  · obtain ⟨m, ⟨o, es, ep, ho, hd, hk, hm⟩, hv⟩ := L.ns
    refine ⟨m, ⟨o, es, ep, k _ (by simp [own]) _ ho, hd, hk, hm⟩, fun y v e kd => ?_⟩
    obtain ⟨w, hw, q⟩ := hv y v e kd
    exact ⟨w, hw, VR.monoK st (List.prefix_refl ρ) q⟩
  · obtain ⟨c, o, w, h1, h2, h3, h4⟩ := L.cell y v e kd
    exact ⟨c, o, w, h1, k _ (hc y c h1) _ h2, h3, VR.monoK st (List.prefix_refl ρ) h4⟩
  · obtain ⟨o, v, h1, h2⟩ := L.live y c e
    exact ⟨o, v, k _ (hc y c e) _ h1, h2⟩
  · obtain ⟨o, e⟩ := L.livs b hb
    exact ⟨o, k b hb o e⟩

theorem ItR.alive {h : Heap} {ρ : Rho} {it : V} {I : Addr} {i : Nat} (q : ItR x h ρ it I i) : ∃ o, h.get? I = some o ∧ ¬ Frozen o := by
  cases it <;> simp only [ItR] at q
  · obtain ⟨t, ⟨_, o, ho, hc, hd⟩ | ⟨_, o, ho, hc, hd⟩⟩ := q
    · exact ⟨o, ho, not_frozen_fields hd (by rw [hc]; decide)⟩
    · exact ⟨o, ho, not_frozen_fields hd (by rw [hc]; decide)⟩
  · obtain ⟨a, ws, _, ⟨o, ho, hc, hd⟩, _⟩ := q
    exact ⟨o, ho, not_frozen_fields hd (by rw [hc]; decide)⟩
  · obtain ⟨p, _, o, ho, hc, hd⟩ := q
    exact ⟨o, ho, not_frozen_fields hd (by rw [hc]; decide)⟩
  · exact ⟨_, q.1, not_frozen_fields rfl (fun h => by simp at h)⟩

theorem mv_iter {D : List Addr} {ρ : Rho} {o : Obs} {s : Shared} {h' : Heap} {I : Addr} (hI : I ∈ D) (g : Gd x ρ o s.heap) (st : Step [I] s.heap h') (hW : I ∉ Wr ρ) (hB : x.hB.get? I = none) (tk : Tok) : Mv x D ρ s ρ o { s with heap := h', toks := tk } :=
  ⟨⟨tk, rfl⟩, Ext.refl _ _, g.step st (fun a ha => by simp only [List.mem_singleton] at ha; subst ha; exact hW) (fun a ha => by simp only [List.mem_singleton] at ha; subst ha; exact hB),
    st.mono fun b _ hb _ => by simp only [List.mem_singleton] at hb; subst hb; exact List.mem_append.mpr (.inl hI)⟩

theorem Mv.more {D D' : List Addr} {ρ ρ₁ : Rho} {s s₁ : Shared} {o₁ : Obs} (a : Mv x D ρ s ρ₁ o₁ s₁) (h : ∀ b ∈ D, b ∈ D') : Mv x D' ρ s ρ₁ o₁ s₁ := a.wide fun b _ hb _ => h b hb

theorem wr_new {D : List Addr} {ρ ρ' : Rho} {s s' : Shared} {o' : Obs} {I : Addr} (M : Mv x D ρ s ρ' o' s') (hW : I ∉ Wr ρ) (hl : ∃ ob, s.heap.get? I = some ob) : I ∉ Wr ρ' := fun q => by
  obtain ⟨ob, e⟩ := hl
  exact hW (M.ext.wr q e)

theorem not_wr_size {ρ : Rho} {o : Obs} {h : Heap} (g : Gd x ρ o h) : h.objs.size ∉ Wr ρ := fun q => by
  obtain ⟨i, hi, e⟩ := List.mem_iff_getElem.mp q
  have hi' : i < ρ.length := by simpa [Wr] using hi
  have e1 : (ρ[i]).2 = h.objs.size := by simpa [Wr] using e
  have e2 : ρ[i]? = some ρ[i] := List.getElem?_eq_getElem hi'
  have e3 : o[i]? = some (o[i]'(by rw [← g.len]; exact hi')) := List.getElem?_eq_getElem _
  have := g.obj i _ _ e2 e3
  cases q2 : o[i]'(by rw [← g.len]; exact hi') with
  | list vs => rw [q2] at this; simp only [OR] at this; obtain ⟨-, ws, n, hg, -⟩ := this; rw [e1, get_size] at hg; cases hg
  | inst c fs => rw [q2] at this; simp only [OR] at this; obtain ⟨C, es, n, -, -, hg, -⟩ := this; rw [e1, get_size] at hg; cases hg

theorem base_size {ρ : Rho} {o : Obs} {h : Heap} (g : Gd x ρ o h) : x.hB.get? h.objs.size = none := by
  cases e : x.hB.get? h.objs.size with
  | none => rfl
  | some ob => have := g.base _ _ e; rw [get_size] at this; cases this

theorem old_size {D : List Addr} {h h' : Heap} (st : Step D h h') : h.get? h'.objs.size = none := by
  cases e : h.get? h'.objs.size with
  | none => rfl
  | some ob => obtain ⟨o', e'⟩ := st.live _ _ e; rw [get_size] at e'; cases e'

theorem simS_for {t : Tgt} {it : EM V} {b : SM} {te ei : Expr} {sb : List Stmt} {pos : Pos} (hi : SimE x n sc it ei) (T : TgtOk sc t te) (hb : SimBk x n sc b sb)
    (hfs : ∀ env v, foldedSetIterable ei env v = pure v := by intro _ _; kernel_rfl) : SimS x n sc (forM c (some t) it b) (.For te ei sb [] pos) := by
  intro A env ρ₀ l₀ o₀ s₀ fl l' o' Q E hr he hg₀ hl₀ hm₀ hQ
  obtain ⟨p, hp, hm1⟩ := bind2 hm₀
  clear hm₀
  refine wpAny_For (hi A env ρ₀ l₀ o₀ s₀ p.1 p.2 _ E hr he hg₀ hl₀ hp fun ρ₁ s₁ w M₁ q₁ => ?_) (hfs env)
  have hne : itemAt p.1 p.2 0 ≠ none := by
    intro e
    cases hN : c.N with
    | zero => rw [hN] at hm1; cases hm1
    | succ k => rw [hN] at hm1; simp only [forLoop, e] at hm1; cases hm1
  refine iter_make M₁.good q₁ hne fun ob hob hIt => ?_
  have hI0 : s₀.heap.get? s₁.heap.objs.size = none := old_size M₁.step
  have hIB := base_size M₁.good
  have hIW := not_wr_size M₁.good
  have hIO : s₁.heap.objs.size ∉ own env := fun q => by
    obtain ⟨o1, e1⟩ := hl₀.livs _ q
    rw [hI0] at e1; cases e1
  have M₂ : Mv x [] ρ₁ s₁ ρ₁ p.2 { s₁ with heap := s₁.heap.push ob } := mv_push M₁.good ob s₁.toks
  have L₂ := (hl₀.mv M₁).mv M₂
  refine codeAny_forLoop_any (fun k s => ∃ i ρ l o, Mv x (s₁.heap.objs.size :: own env) ρ₀ s₀ ρ o s ∧ LR x env ρ l s.heap ∧ ItR x s.heap ρ p.1 s₁.heap.objs.size i ∧ s₁.heap.objs.size ∉ Wr ρ ∧ forLoop t p.1 b k i l o = some (fl, l', o')) ?_ c.N
    ⟨0, ρ₁, l₀, p.2, (M₁.trans M₂).any, L₂, hIt, hIW, hm1⟩
  rintro k s ⟨i, ρ, l, o, M, hl, hit, hW, hm⟩
  cases k with
  | zero => cases hm
  | succ k =>
    simp only [forLoop] at hm
    obtain ⟨oI, hoI, hnfI⟩ := hit.alive
    split at hm
    · cases hm
    · rename_i e
      cases hm
      refine iter_end hr.hd M.good hit e fun h' hx => wpAny_execs_nil ?_
      have stK : StepK [s₁.heap.objs.size] s.heap h' := ⟨fun b ob n q => hx b ob (by simpa using n) q, fun b ob f q => hx b ob (by rintro rfl; rw [hoI] at q; cases q; exact hnfI f) q⟩
      exact hQ _ _ _ (mv_drop hI0 (fun ob q => by rw [hoI] at q; cases q; exact hnfI) M hW hIB hx) (hl.stepK stK fun a ha => by simp only [List.mem_singleton]; rintro rfl; exact hIO ha) rfl
    · rename_i v e
      obtain ⟨bs, hbs, hm2⟩ := bind2 hm
      obtain ⟨q, hq, hm3⟩ := bind2 hm2
      clear hm hm2
      refine iter_next M.good hit hW hIB e fun h' tk w st hit' qw => ?_
      have Ma : Mv x (s₁.heap.objs.size :: own env) ρ s ρ o { s with heap := h', toks := tk } := mv_iter (by simp) M.good st hW hIB tk
      have La : LR x env ρ l h' := hl.step st (List.prefix_refl ρ) (fun a ha => by simp only [List.mem_singleton]; rintro rfl; exact hIO ha) hl.offW
      refine iter_letgo hit' ?_
      refine assign_sim (D := own env) (by simp [own]) hr he T Ma.good La qw hbs fun s₃ M₃ L₃ => ?_
      have Mb := (M.trans Ma).trans (M₃.more fun b hb => List.mem_cons_of_mem _ hb)
      have hit3 := hit'.mono M₃.step M₃.ext.pre (fun q => by
        rcases List.mem_append.mp q with q | q
        · exact hIO q
        · exact hW q)
      refine hb A env ρ _ o s₃ q.1 q.2.1 q.2.2 _ _ hr he M₃.good L₃ hq fun ρ₄ s₄ f M₄ L₄ F₄ => ?_
      have Mc := Mb.trans (M₄.more fun b hb => List.mem_cons_of_mem _ hb)
      split at hm3
      · rename_i ef
        rw [ef] at F₄
        cases F₄
        obtain ⟨o3, ho3, _⟩ := hit3.alive
        refine ⟨k, Nat.lt_succ_self k, i + 1, ρ₄, q.2.1, q.2.2, Mc, L₄, hit3.mono M₄.step M₄.ext.pre (fun q => ?_), wr_new M₄ hW ⟨o3, ho3⟩, hm3⟩
        rcases List.mem_append.mp q with q | q
        · exact hIO q
        · exact hW q
      · rename_i v' ef
        cases hm3
        rw [ef] at F₄
        obtain ⟨w', rfl, qw'⟩ := F₄
        exact hQ _ _ _ (Mc.wide fun b ob hb eb => by
          rcases List.mem_cons.mp hb with rfl | hb
          · rw [hI0] at eb; cases eb
          · exact hb) L₄ ⟨w', rfl, qw'⟩

end
end Mine
end

section
open PySem PySem.W PySem.Calls PyProof.Rows PySem.SeqAt
set_option linter.unusedVariables false
namespace Mine

section
variable {x : X} {n : Nat} {sc : Scope} {c : Cfg}

theorem iter_self {A : Around} {s : Shared} {ρ : Rho} {it : V} {I : Addr} {i : Nat} {Q : Value → Shared → Prop} {E : Value → Shared → Prop} (q : ItR x s.heap ρ it I i) (hQ : Q (.ref I) s) :
    wpAny (model x.prog x.w) A (pyIter (.ref I)) Q E s := by
  cases it <;> simp only [ItR] at q
  · obtain ⟨t, ⟨_, hi⟩ | ⟨_, hi⟩⟩ := q
    · exact wpAny_pyIter_striter_ascii hi hQ
    · exact wpAny_pyIter_striter_wide hi hQ
  · obtain ⟨a, ws, _, hi, _⟩ := q
    exact wpAny_pyIter_tupleiter hi hQ
  · obtain ⟨p, _, hi⟩ := q
    exact wpAny_pyIter_listiter hi hQ
  · exact wpAny_pyIter_rangeiter q.1 hQ

noncomputable def relabelS (sc2 sc : Scope) : Scope :=
  { sc2 with names := sc2.names.map fun (n, k) => if (k == .free && sc.names.lookup n == some .cell) then (n, .cell) else (n, k) }

theorem relabel_eq {sc2 : Scope} {env : Env} (he : EnvOk sc env) : relabel sc2 env = relabelS sc2 sc := by
  unfold relabel relabelS Env.kindOf
  rw [he.scp, he.kind]
  simp

theorem LR.weaken {env : Env} {ρ : Rho} {l l' : Loc} {h : Heap} (L : LR x env ρ l' h) (hw : ∀ y v, l.lookup y = some v → l'.lookup y = some v) : LR x env ρ l h :=
  ⟨let ⟨m, a, b⟩ := L.ns; ⟨m, a, fun y v e => b y v (hw y v e)⟩, fun y v e => L.cell y v (hw y v e), L.live, L.one, L.offW, L.offB, L.livs⟩

theorem lookup_putAll {z : Str} : ∀ (bs : List (Str × V)) (l : Loc), z ∉ bs.map (·.1) → (putAll bs l).lookup z = l.lookup z
  | [], _, _ => rfl
  | (a, v) :: r, l, h => by
    simp only [List.map_cons, List.mem_cons, not_or] at h
    rw [putAll, lookup_putAll r _ h.2, lookup_putL, if_neg h.1]

noncomputable def tgtNames : Tgt → List Str
  | .one y => [y]
  | .many ys => ys
theorem bind_names {t : Tgt} {v : V} {bs : List (Str × V)} (h : bindT t v = some bs) : bs.map (·.1) = tgtNames t := by
  cases t with
  | one y => cases h; rfl
  | many ys =>
    cases v <;> simp only [bindT] at h <;> try (cases h; done)
    split at h
    · rename_i hl
      cases h
      exact List.map_fst_zip (by omega)
    · cases h

theorem lookup_frees {z : Str} {l : Loc} {v : V} : ∀ {fs : List Str}, (freesOf fs l).lookup z = some v → z ∈ fs ∧ l.lookup z = some v
  | [], h => by simp [freesOf] at h
  | f :: fs, h => by
    unfold freesOf at h
    rw [List.filterMap_cons] at h
    cases e : l.lookup f with
    | none =>
      rw [e] at h
      have := lookup_frees (fs := fs) h
      exact ⟨List.mem_cons_of_mem _ this.1, this.2⟩
    | some u =>
      rw [e] at h
      simp only [Option.map_some, List.lookup_cons] at h
      by_cases hz : z = f
      · subst hz; simp at h; subst h; exact ⟨by simp, e⟩
      · have : (z == f) = false := beq_eq_false_iff_ne.mpr hz
        rw [this] at h
        have := lookup_frees (fs := fs) h
        exact ⟨List.mem_cons_of_mem _ this.1, this.2⟩

structure ClosOk (sc sc2 : Scope) (fs : List Str) : Prop where
  clos : ∀ env, EnvOk sc env → ∃ cl, closureFor sc2 env = pure cl ∧ (∀ y a, cl.lookup y = some a → env.cells.lookup y = some a) ∧ cl.length ≤ 1 ∧ (∀ p ∈ cl, p.2 ∈ env.cells.map (·.2)) ∧
    (∀ y ∈ fs, ∃ a, cl.lookup y = some a) ∧ (∀ y, (relabelS sc2 sc).names.lookup y = some .cell → ∃ a, cl.lookup y = some a)
  cells : ∀ y ∈ fs, sc.names.lookup y = some .cell
  loc : ∀ y ∈ fs, (relabelS sc2 sc).names.lookup y ≠ some .local
  nocell : ∀ p ∈ sc2.names, p.2 ≠ .cell
  kind : sc2.kind = .function
  nm : ∀ p ∈ sc2.names, p.2 = .local → sc2.names.lookup p.1 = some .local

set_option maxHeartbeats 2000000 in
theorem simE_comp {t : Tgt} {it melt : EM V} {te ei elt : Expr} {fs : List Str} {sc2 : Scope} {pos : Pos} (hi : SimE x n sc it ei) (T : TgtOk (relabelS sc2 sc) t te) (hb : SimE x n (relabelS sc2 sc) melt elt)
    (K : ClosOk sc sc2 fs) (hdis : ∀ y ∈ tgtNames t, y ∉ fs := by decide) (hfs : ∀ env v, foldedSetIterable ei env v = pure v := by intro _ _; kernel_rfl) :
    SimE x n sc (compM c (some t) fs it melt) (.ListComp elt [⟨te, ei, [], 0⟩] sc2 pos) := by
  intro A env ρ₀ l₀ o₀ s₀ v o' Q E hr he hg₀ hl₀ hm₀ hQ
  obtain ⟨p, hp, hm1⟩ := bind2 hm₀
  clear hm₀
  obtain ⟨cl, hcl, hcl2, hcl1, hcl3, hcl4, hcl5⟩ := K.clos env he
  rw [eval_ListComp]
  refine wpAny_comprehension_free (cl := cl) (use := none) rfl (hfs env) hcl K.kind K.nm ?_
  show wpAny _ A (eval ei env) _ E s₀
  refine hi A env ρ₀ l₀ o₀ s₀ p.1 p.2 _ E hr he hg₀ hl₀ hp fun ρ₁ s₁ w M₁ q₁ => ?_
  have hne : itemAt p.1 (p.2 ++ [.list []]) 0 ≠ none := by
    intro e
    cases hN : c.N with
    | zero => rw [hN] at hm1; cases hm1
    | succ k => rw [hN] at hm1; simp only [compLoop, e] at hm1; cases hm1
  have hne' : itemAt p.1 p.2 0 ≠ none := by
    cases hp1 : p.1 <;> rw [hp1] at hne q₁ <;> simp only [itemAt] at hne ⊢ <;> first | exact hne | skip
    rename_i j
    obtain ⟨pp, hpp, _⟩ := vrRef q₁
    have hj : j < p.2.length := by rw [← M₁.good.len]; exact (List.getElem?_eq_some_iff.mp hpp).1
    rw [List.getElem?_append_left hj] at hne
    exact hne
  refine iter_make M₁.good q₁ hne' fun ob hob hIt => ?_
  have hI0 : s₀.heap.get? s₁.heap.objs.size = none := old_size M₁.step
  have hIB := base_size M₁.good
  have hIW := not_wr_size M₁.good
  generalize hIdef : s₁.heap.objs.size = I at *
  have M₂ : Mv x [] ρ₁ s₁ ρ₁ p.2 { s₁ with heap := s₁.heap.push ob } := mv_push M₁.good ob s₁.toks
  have L₂ := (hl₀.mv M₁).mv M₂
  have Ma := M₁.trans M₂
  refine wpAny_newObj_type ?_ (by show (#[] : Array Value).size ≤ sizeLine; decide)
  have N := new_list (vs := []) (ws := []) M₂.good (by simp only [VRs])
  generalize hs3 : ({ ({ s₁ with heap := s₁.heap.push ob } : Shared) with heap := ({ s₁ with heap := s₁.heap.push ob } : Shared).heap.push (lstOf [] 0) } : Shared) = s₃ at N
  have hDlen : p.2.length = ρ₁.length := M₁.good.len.symm
  have hs3h : s₃.heap = (s₁.heap.push ob).push (lstOf [] 0) := by rw [← hs3]
  have Mb := Ma.trans N.1
  have L₃ := L₂.mv N.1
  generalize hρ3 : ρ₁ ++ [(({ s₁ with heap := s₁.heap.push ob } : Shared).heap.objs.size, ({ s₁ with heap := s₁.heap.push ob } : Shared).heap.objs.size)] = ρ₃ at *
  generalize hDd : ({ s₁ with heap := s₁.heap.push ob } : Shared).heap.objs.size = Dc at *
  have hIt3 : ItR x s₃.heap ρ₃ p.1 I 0 := hIt.mono N.1.step N.1.ext.pre (by simpa using hIW)
  have hIalive2 : ∃ o, (s₁.heap.push ob).get? I = some o := let ⟨o, a, _⟩ := hIt.alive; ⟨o, a⟩
  have hIW3 : I ∉ Wr ρ₃ := wr_new N.1 hIW hIalive2
  have hVid : VR x s₃.heap ρ₃ (.ref p.2.length) (.ref Dc) := by
    have := N.2
    simp only [VR] at this ⊢
    exact this
  have hC0 : s₀.heap.get? s₃.heap.objs.size = none := old_size Mb.step
  have hCB := base_size Mb.good
  have hCW := not_wr_size Mb.good
  have hICne : I ≠ s₃.heap.objs.size := by
    obtain ⟨o, a, _⟩ := hIt3.alive
    exact Nat.ne_of_lt (Heap.lt_size a)
  refine wpAny_newFunctionEnv (around := some env) K.nocell (by intro y hy; simp at hy) (fun h₄ hns₄ hsb₄ => ?_) K.kind
  generalize hCdef : s₃.heap.objs.size = C at *
  have st4 : Step [] s₃.heap h₄ := by
    have k : ∀ b o, s₃.heap.get? b = some o → h₄.get? b = some o := fun b o q =>
      (hsb₄.2 b (by rintro rfl; rw [← hCdef, get_size] at q; cases q)).trans (Heap.get?_push_of_some _ q)
    exact ⟨fun b o _ q => k b o q, fun b o _ q => k b o q, fun b o q => ⟨o, k b o q⟩⟩
  have M₄ : Mv x [] ρ₃ s₃ ρ₃ (p.2 ++ [.list []]) { s₃ with heap := h₄, toks := s₃.toks + 0 } := mv_side N.1.good st4 _
  have L₄ := L₃.mv M₄
  have Mc := Mb.trans M₄
  show codeAny (model x.prog x.w) A (.compStart (.ListComp elt [⟨te, ei, [], 0⟩] sc2 pos) 0 (.ref I) (.ref Dc) (compEnvC sc2 cl C env)) (compPost (model x.prog x.w) A E none Q (.ref Dc) C) { s₃ with heap := h₄, toks := s₃.toks + 0 }
  have heC : EnvOk (relabelS sc2 sc) (compEnvC sc2 cl C env) := ⟨relabel_eq he, K.kind, he.g, he.b, hcl5⟩
  have memown : ∀ a, a ∈ cl.map (·.2) → a ∈ own env := fun a ha => by
    obtain ⟨q, hq, rfl⟩ := List.mem_map.mp ha
    exact List.mem_cons_of_mem _ (hcl3 q hq)
  have LC : LR x (compEnvC sc2 cl C env) ρ₃ (freesOf fs l₀) h₄ := by
    refine ⟨⟨_, hns₄, fun y v e kd => ?_⟩, fun y v e kd => ?_, fun y a e => ?_, hcl1, fun a ha => ?_, fun a ha => ?_, fun a ha => ?_⟩
    · exfalso
      have := lookup_frees e
      refine K.loc y this.1 ?_
      rw [← relabel_eq he]; exact kd
    · have hf := lookup_frees e
      have hkc : env.kindOf y = some .cell := by unfold Env.kindOf; rw [he.scp]; exact K.cells y hf.1
      obtain ⟨a, o1, w1, g1, g2, g3, g4⟩ := L₄.cell y v hf.2 (.inl hkc)
      obtain ⟨a', ha'⟩ := hcl4 y hf.1
      have := hcl2 y a' ha'
      rw [g1] at this; cases this
      exact ⟨a, o1, w1, ha', g2, g3, g4⟩
    · exact L₄.live y a (hcl2 y a e)
    · rcases List.mem_cons.mp ha with rfl | ha
      · exact hCW
      · exact L₄.offW a (memown a ha)
    · rcases List.mem_cons.mp ha with rfl | ha
      · exact hCB
      · exact L₄.offB a (memown a ha)
    · rcases List.mem_cons.mp ha with rfl | ha
      · obtain ⟨o1, _, _, e1, _⟩ := hns₄; exact ⟨o1, e1⟩
      · exact L₄.livs a (memown a ha)
  have hIC : ∀ a ∈ own (compEnvC sc2 cl C env), a ∉ [I] := fun a ha => by
    simp only [List.mem_singleton]
    rintro rfl
    rcases List.mem_cons.mp ha with e | ha
    · exact hICne e
    · obtain ⟨o1, e1⟩ := hl₀.livs _ (memown _ ha)
      rw [hI0] at e1; cases e1
  have hIt4 : ItR x h₄ ρ₃ p.1 I 0 := hIt3.mono st4 (List.prefix_refl _) (by simp)
  have LOOP : codeAny (model x.prog x.w) A (.compLoop (.ListComp elt [⟨te, ei, [], 0⟩] sc2 pos) 0 (.ref I) (.ref Dc) (compEnvC sc2 cl C env)) (compPost (model x.prog x.w) A E none Q (.ref Dc) C) { s₃ with heap := h₄, toks := s₃.toks + 0 } := by
    refine kcp_loop (fun k s => ∃ i ρ o, Mv x [I, C] ρ₀ s₀ ρ o s ∧ LR x (compEnvC sc2 cl C env) ρ (freesOf fs l₀) s.heap ∧ ItR x s.heap ρ p.1 I i ∧ I ∉ Wr ρ ∧ VR x s.heap ρ (.ref p.2.length) (.ref Dc) ∧
      compLoop t p.1 p.2.length (freesOf fs l₀) melt k i o = some (v, o')) ?_ c.N ⟨0, ρ₃, p.2 ++ [.list []], Mc.any, LC, hIt4, hIW3, M₄.vr hVid, hm1⟩
    rintro k s ⟨i, ρ, o, M, hl, hit, hW, hid, hm⟩
    cases k with
    | zero => cases hm
    | succ k =>
      simp only [compLoop] at hm
      obtain ⟨oI, hoI, hnfI⟩ := hit.alive
      split at hm
      · cases hm
      · rename_i e
        cases hm
        refine iter_end hr.hd M.good hit e fun h' hx => ?_
        obtain ⟨mC, hmC, _⟩ := hl.ns
        have hmC' : h'.Ns C mC := by
          obtain ⟨o1, es1, ep1, e1, r1⟩ := hmC
          exact ⟨o1, es1, ep1, hx C o1 (Ne.symm hICne) e1, r1⟩
        refine ⟨mC, hmC', fun h'' hs'' => ?_⟩
        have Md := mv_drop hI0 (fun ob q => by rw [hoI] at q; cases q; exact hnfI) M hW hIB hx
        have Me := mv_drop hC0 (fun ob q => by
          obtain ⟨o1, es1, ep1, e1, r1, _⟩ := hmC'
          rw [e1] at q; cases q; exact not_frozen_dict r1) Md (hl.offW C (by simp [own, compEnvC])) hCB hs''.extBut
        exact hQ ρ _ _ Me (by simp only [VR] at hid ⊢; exact hid)
      · rename_i u e
        obtain ⟨bs, hbs, hm2⟩ := bind2 hm
        obtain ⟨q, hq, hm3⟩ := bind2 hm2
        obtain ⟨o2, ho2, hm4⟩ := bind2 hm3
        clear hm hm2 hm3
        refine iter_next M.good hit hW hIB e fun h' tk w st hit' qw => ?_
        have M₅ : Mv x [I, C] ρ s ρ o { s with heap := h', toks := tk } := mv_iter (by simp) M.good st hW hIB tk
        have L₅ : LR x (compEnvC sc2 cl C env) ρ (freesOf fs l₀) h' := hl.step st (List.prefix_refl ρ) hIC hl.offW
        refine iter_letgo hit' ?_
        refine assign_sim (D := [C]) (by simp [compEnvC]) hr heC T M₅.good L₅ qw hbs fun s₆ M₆ L₆ => ?_
        have hit6 : ItR x s₆.heap ρ p.1 I (i + 1) := hit'.mono M₆.step (List.prefix_refl _) (fun q => by
          rcases List.mem_append.mp q with q | q
          · simp only [List.mem_singleton] at q; exact hICne q
          · exact hW q)
        refine hb A _ ρ _ o s₆ q.1 q.2 _ _ hr heC M₆.good L₆ hq fun ρ₇ s₇ y M₇ q₇ => ?_
        have hid7 := M₇.vr (M₆.vr (M₅.vr hid))
        refine append_sim M₇.good hid7 q₇ ho2 fun s₈ M₈ => ?_
        have M78 := M₇.trans M₈
        have Mall := ((M.trans M₅).trans (M₆.more fun b hb => List.mem_cons_of_mem _ hb)).trans M78.any
        obtain ⟨o6, ho6, _⟩ := hit6.alive
        refine ⟨k, Nat.lt_succ_self k, i + 1, ρ₇, o2, Mall, (L₆.mv M78).weaken fun y v' e' => ?_, hit6.mono M78.step M78.ext.pre (by simpa using hW), wr_new M78 hW ⟨o6, ho6⟩, M₈.vr hid7, hm4⟩
        rw [lookup_putAll _ _ (by rw [bind_names hbs]; exact fun hy => hdis y hy (lookup_frees e').1)]
        exact e'
  exact codeAny_compStart_list LOOP (iter_self hIt4 LOOP)

end
end Mine
end

section
open PySem PySem.W PySem.Calls PyProof.Rows PySem.SeqAt
set_option linter.unusedVariables false
namespace Mine

noncomputable def BindOk (x : X) (fd : FuncData) (fn : Fn) : Prop := ∀ (s : Shared) (ρ : Rho) (args : List V) (ws : List Value) (l : Loc), (∀ b o, x.hB.get? b = some o → s.heap.get? b = some o) → VRs x s.heap ρ args ws →
  bindP fn.params fn.dflt args = some l → ∃ binds, BindsTo s fd ⟨ws, []⟩ binds ∧ (∀ p ∈ binds, fd.scope.names.lookup p.1 = some .local) ∧ ∀ y v, l.lookup y = some v → ∃ w, binds.reverse.lookup y = some w ∧ VR x s.heap ρ v w

structure FnOk (x : X) (cl f : Str) (fn : Fn) (sc : Scope) (body : List Stmt) : Prop where
  ex : ∃ a o fd, x.fn cl f = some a ∧ x.hB.get? a = some o ∧ o.data = .func fd ∧ x.hB.CodeRec fd.code fd.qualname ∧ fd.body = .stmts body ∧ fd.scope = sc ∧ fd.globals = mainGlobals ∧ fd.builtins = builtinsNs ∧ fd.closure = [] ∧ BindOk x fd fn
  kind : sc.kind = .function
  co : sc.isCoroutine = false
  gen : sc.isGenerator = false
  plain : ∀ p ∈ sc.names, p.2 ≠ .cell ∧ p.2 ≠ .free

section
variable {x : X}

theorem zip_binds {h : Heap} {ρ : Rho} {y : Str} {v : V} : ∀ (ps : List Str) (args : List V) (ws : List Value), ps.Nodup → ps.length = args.length → VRs x h ρ args ws → (ps.zip args).lookup y = some v → ∃ w, (ps.zip ws).reverse.lookup y = some w ∧ VR x h ρ v w
  | [], _, _, _, _, _, e => by simp at e
  | p :: ps, [], _, _, hl, _, _ => by simp at hl
  | p :: ps, a :: args, [], _, _, q, _ => by simp only [VRs] at q
  | p :: ps, a :: args, w :: ws, nd, hl, q, e => by
    simp only [VRs] at q
    rw [List.nodup_cons] at nd
    simp only [List.zip_cons_cons, List.reverse_cons, List.lookup_append] at e ⊢
    rw [List.lookup_cons] at e
    by_cases hy : y = p
    · subst hy
      simp only [beq_self_eq_true, Option.some.injEq] at e
      subst e
      have hn : (ps.zip ws).reverse.lookup y = none := by
        cases e : (ps.zip ws).reverse.lookup y with
        | none => rfl
        | some w' =>
          have := mem_lookup e
          rw [List.mem_reverse] at this
          exact absurd (List.of_mem_zip this).1 nd.1
      rw [hn]
      exact ⟨w, by simp, q.1⟩
    · have hb : (y == p) = false := beq_eq_false_iff_ne.mpr hy
      simp only [hb] at e
      obtain ⟨w', h1, h2⟩ := zip_binds ps args ws nd.2 (by simpa using hl) q.2 e
      exact ⟨w', by rw [h1]; rfl, h2⟩

theorem bindOk_plain {fd : FuncData} {fn : Fn} (hd : fn.dflt = []) (nd : fn.params.Nodup) (hloc : ∀ y ∈ fn.params, fd.scope.names.lookup y = some .local)
    (hb : ∀ ws, ws.length = fn.params.length → bindArgs fd ⟨ws, []⟩ = pure (fn.params.zip ws)) : BindOk x fd fn := by
  intro s ρ args ws l _ q e
  unfold bindP at e
  rw [hd] at e
  split at e
  · rename_i hl
    cases e
    have hlen := q.length
    refine ⟨_, BindsTo.of_eq (hb ws (by omega)), fun p hp => hloc p.1 (List.of_mem_zip hp).1, fun y v e => zip_binds _ _ _ nd hl.symm q e⟩
  · cases e

theorem callOk_run {tab : List (Str × Str × Fn)} {glob : Str → Option V} {N : Nat} (X : XOk x)
    (ok : ∀ cl f fn, tabGet cl f tab = some fn → ∃ sc body, FnOk x cl f fn sc body ∧ ∀ n (r : Str → Str → List V → Obs → Option (V × Obs)), CallOk x ⟨r, glob, N⟩ n → SimBk x (n + 1) sc (fn.body ⟨r, glob, N⟩) body) :
    ∀ k, CallOk x ⟨run tab glob N k, glob, N⟩ (2 * k)
  | 0 => by intro cl f args o v o' h; cases h
  | k + 1 => by
    have ih := callOk_run X ok k
    intro cl f args o v o' h
    obtain ⟨fn, hfn, h1⟩ := bind2 (show (tabGet cl f tab).bind _ = _ from h)
    obtain ⟨l, hbp, h2⟩ := bind2 h1
    obtain ⟨p, hp, h3⟩ := map2 h2
    clear h h1 h2
    obtain ⟨sc, body, F, sim⟩ := ok cl f fn hfn
    obtain ⟨a, ob, fd, ha, hob, hfd, hcr, hbody, hsc, hgl, hbi, hclo, hbind⟩ := F.ex
    refine ⟨a, ha, ?_⟩
    intro A ρ s ws R hr hg q hR
    obtain ⟨binds, hbt, hloc, hlk⟩ := hbind s ρ args ws l hg.base q hbp
    have hrl : recursionLimit = 1000 := rfl
    refine codeAny_call_def (by have := hr.dp; rw [hrl]; omega) (hg.base _ _ hob) hfd (X.lim.keeps hg.base) ?_ hbody hbt ?_ hloc (fun h₀ hns hk => ?_) ?_ ?_ ?_
    · exact hcr.keeps hg.base
    · intro y hy; rw [hsc] at hy; exact (F.plain y hy).1
    · have st : Step [] s.heap h₀ := ⟨fun b o _ e => hk b o e, fun b o _ e => hk b o e, fun b o e => ⟨o, hk b o e⟩⟩
      have M₀ : Mv x [] ρ s ρ o { s with heap := h₀, toks := s.toks + binds.length } := mv_side hg st _
      have hown : own (callEnv fd s.heap.objs.size a) = [s.heap.objs.size] := by
        show s.heap.objs.size :: fd.closure.map (·.2) = _
        rw [hclo]; rfl
      have hcells : (callEnv fd s.heap.objs.size a).cells = [] := hclo
      have he : EnvOk sc (callEnv fd s.heap.objs.size a) := ⟨hsc, F.kind, hgl, hbi, fun y e => absurd rfl (F.plain _ (mem_lookup e)).1⟩
      have L : LR x (callEnv fd s.heap.objs.size a) ρ l h₀ := by
        refine ⟨⟨_, hns, fun y v e kd => ?_⟩, fun y v e kd => ?_, fun y c e => ?_, by rw [hcells]; exact Nat.zero_le _, fun b hb => ?_, fun b hb => ?_, fun b hb => ?_⟩
        · obtain ⟨w, hw, qw⟩ := hlk y v e
          exact ⟨w, hw, M₀.vr qw⟩
        · exfalso
          have kd' : sc.names.lookup y = some .cell ∨ sc.names.lookup y = some .free := by
            have e2 : (callEnv fd s.heap.objs.size a).kindOf y = sc.names.lookup y := by unfold Env.kindOf; rw [he.scp]
            rwa [e2] at kd
          rcases kd' with kd | kd
          · exact (F.plain _ (mem_lookup kd)).1 rfl
          · exact (F.plain _ (mem_lookup kd)).2 rfl
        · rw [hcells] at e; cases e
        · rw [hown] at hb; simp only [List.mem_singleton] at hb; subst hb; exact not_wr_size hg
        · rw [hown] at hb; simp only [List.mem_singleton] at hb; subst hb; exact base_size hg
        · rw [hown] at hb; simp only [List.mem_singleton] at hb; subst hb
          obtain ⟨o1, _, _, e1, _⟩ := hns; exact ⟨o1, e1⟩
      refine sim (2 * k) _ ih (A.deeper (callEnv fd s.heap.objs.size a)) _ ρ l o _ p.1 p.2.1 p.2.2 _ _ ?_ he M₀.good L hp fun ρ' s' f M' L' F' => ?_
      · refine ⟨hr.hd, ?_, ?_⟩
        · show A.depth + 1 + 10 * (2 * k + 1) ≤ 900
          have := hr.dp; omega
        · show A.units + 3 + 20 * (2 * k + 1) ≤ 9000
          have := hr.un; omega
      · have M : Mv x [] ρ s ρ' p.2.2 s' := (M₀.any.trans M').wide fun b ob hb eb => by
          rw [hown] at hb; simp only [List.mem_singleton] at hb; subst hb; rw [get_size] at eb; cases eb
        split at h3
        · rename_i v' ev
          cases h3
          rw [ev] at F'
          obtain ⟨w, rfl, qw⟩ := F'
          exact hR ρ' s' w M qw
        · rename_i ev
          cases h3
          rw [ev] at F'
          cases F'
          exact hR ρ' s' _ M (by simp only [VR])
    · rw [hsc]; exact F.co
    · rw [hsc]; exact F.gen
    · rw [hsc]; exact F.kind

end
end Mine
end

section
open PySem PySem.W PySem.Calls PyProof.Rows PySem.SeqAt
set_option linter.unusedVariables false
namespace Mine

theorem closOk_none {sc sc2 : Scope} (h : sc2.names.all (fun p => p.2 != .cell && p.2 != .free) = true) (hk : sc2.kind = .function) (hn : sc2.names.all (fun p => p.2 != .local || sc2.names.lookup p.1 == some .local) = true) : ClosOk sc sc2 [] := by
  have h' : ∀ p ∈ sc2.names, p.2 ≠ .cell ∧ p.2 ≠ .free := fun p hp => by
    have := List.all_eq_true.mp h p hp
    rw [Bool.and_eq_true] at this
    exact ⟨by simpa using this.1, by simpa using this.2⟩
  have hlk : ∀ y, (relabelS sc2 sc).names.lookup y ≠ some .cell := fun y e => by
    have := mem_lookup e
    unfold relabelS at this
    obtain ⟨q, hq, e2⟩ := List.mem_map.mp this
    obtain ⟨a, k⟩ := q
    have hf : (k == NameKind.free) = false := by simpa using (h' _ hq).2
    simp only [hf, Bool.false_and, Bool.false_eq_true, if_false, Prod.mk.injEq] at e2
    exact (h' _ hq).1 e2.2
  refine ⟨fun env he => ⟨[], closureFor_none fun p hp => (h' p hp).2, by simp, by simp, by simp, by simp, fun y e => absurd e (hlk y)⟩, by simp, by simp, fun p hp => (h' p hp).1, hk, fun p hp e => ?_⟩
  have := List.all_eq_true.mp hn p hp
  rw [Bool.or_eq_true] at this
  rcases this with t | t
  · rw [e] at t; simp at t
  · simpa using t

theorem closOk_one {sc sc2 : Scope} {y : Str} {pre : List (Str × NameKind)} (hn : sc2.names = pre ++ [(y, .free)]) (h : pre.all (fun p => p.2 != .cell && p.2 != .free && p.1 != y) = true) (hk : sc2.kind = .function)
    (hl : sc2.names.all (fun p => p.2 != .local || sc2.names.lookup p.1 == some .local) = true) (hc : sc.names.lookup y = some .cell) : ClosOk sc sc2 [y] := by
  have h' : ∀ p ∈ pre, p.2 ≠ .cell ∧ p.2 ≠ .free ∧ p.1 ≠ y := fun p hp => by
    have := List.all_eq_true.mp h p hp
    rw [Bool.and_eq_true, Bool.and_eq_true] at this
    exact ⟨by simpa using this.1.1, by simpa using this.1.2, by simpa using this.2⟩
  have hlk : ∀ z, (relabelS sc2 sc).names.lookup z = some .cell → z = y := fun z e => by
    have := mem_lookup e
    unfold relabelS at this
    obtain ⟨q, hq, e2⟩ := List.mem_map.mp this
    rw [hn] at hq
    obtain ⟨a, k⟩ := q
    rcases List.mem_append.mp hq with hq | hq
    · have hf : (k == NameKind.free) = false := by simpa using (h' _ hq).2.1
      simp only [hf, Bool.false_and, Bool.false_eq_true, if_false, Prod.mk.injEq] at e2
      exact absurd e2.2 (h' _ hq).1
    · simp only [List.mem_singleton, Prod.mk.injEq] at hq
      obtain ⟨rfl, rfl⟩ := hq
      simp [hc] at e2
      exact e2.symm
  have hnl : (relabelS sc2 sc).names.lookup y ≠ some .local := fun e => by
    have := mem_lookup e
    unfold relabelS at this
    obtain ⟨q, hq, e2⟩ := List.mem_map.mp this
    rw [hn] at hq
    obtain ⟨a, k⟩ := q
    rcases List.mem_append.mp hq with hq | hq
    · have hf : (k == NameKind.free) = false := by simpa using (h' _ hq).2.1
      simp only [hf, Bool.false_and, Bool.false_eq_true, if_false, Prod.mk.injEq] at e2
      exact absurd e2.1 (h' _ hq).2.2
    · simp only [List.mem_singleton, Prod.mk.injEq] at hq
      obtain ⟨rfl, rfl⟩ := hq
      simp [hc] at e2
  refine ⟨fun env he => ?_, fun z hz => by simp only [List.mem_singleton] at hz; subst hz; exact hc, fun z hz => by simp only [List.mem_singleton] at hz; subst hz; exact hnl, fun p hp => ?_, hk, fun p hp e => ?_⟩
  · obtain ⟨a, ha⟩ := he.cl y hc
    refine ⟨[(y, a)], ?_, fun z b e => ?_, by simp, fun p hp => ?_, fun z hz => ⟨a, ?_⟩, fun z e => ⟨a, ?_⟩⟩
    · have aux : ∀ (l : List (Str × NameKind)), (∀ p ∈ l, p.2 ≠ .free) → closureFor { sc2 with names := l ++ [(y, .free)] } env = pure [(y, a)] := by
        intro l
        induction l with
        | nil =>
          intro _
          unfold closureFor cellOf
          simp only [List.nil_append, List.forIn_cons, List.forIn_nil, beq_self_eq_true, if_true, ha]
          rfl
        | cons p r ih =>
          intro hp
          have hf : (p.2 == NameKind.free) = false := by simpa using hp p (by simp)
          have := ih fun q hq => hp q (by simp [hq])
          unfold closureFor at this ⊢
          obtain ⟨b, k⟩ := p
          simp only at hf
          simp only [List.cons_append, List.forIn_cons, hf, Bool.false_eq_true, if_false, pure_bind]
          exact this
      have := aux pre fun p hp => (h' p hp).2.1
      rw [← hn] at this
      exact this
    · rw [List.lookup_cons] at e
      by_cases hz : z = y
      · subst hz; simp at e; subst e; exact ha
      · have : (z == y) = false := beq_eq_false_iff_ne.mpr hz
        rw [this] at e; cases e
    · simp only [List.mem_singleton] at hp
      subst hp
      exact List.mem_map_of_mem (mem_lookup ha)
    · simp only [List.mem_singleton] at hz; subst hz; simp
    · rw [hlk z e]; simp
  · rw [hn] at hp
    rcases List.mem_append.mp hp with hp | hp
    · exact (h' p hp).1
    · simp only [List.mem_singleton] at hp; subst hp; simp
  · have := List.all_eq_true.mp hl p hp
    rw [Bool.or_eq_true] at this
    rcases this with t | t
    · rw [e] at t; simp at t
    · simpa using t

end Mine
end

section
open PySem PySem.W PySem.Calls PyProof.Rows
set_option linter.unusedVariables false
set_option linter.unusedSectionVars false
set_option maxRecDepth 100000
set_option maxHeartbeats 4000000
set_option Elab.async false
namespace Mine

noncomputable def preT : List (Str × NameKind) := [(Str.ofString ".0", .local), (Str.ofString "turn", .local), (Str.ofString "_law_word", .globalImplicit)]

section
variable {x : X} {n : Nat} {c : Cfg} (X : XOk x) (GO : GlobOk x c.glob) (BO : BltOk x) (CA : ClsAll x) (F : FnAll x) (C : CallOk x c n)
include X GO BO CA F C

theorem w_Word_init : SimBk x (n + 1) (scopeOf s_Word_init) (b_Word_init c) (bodyOf s_Word_init) := by
  refine simBk_cons ?_ ?_
  · with_reducible refine simS_setattr X CA ?_ ?_ (by decide +kernel)
    · with_reducible exact simE_local (by kernel_rfl) (by kernel_rfl)
    with_reducible exact simE_local (by kernel_rfl) (by kernel_rfl)
  refine simBk_cons ?_ ?_
  · with_reducible refine simS_setattr X CA ?_ ?_ (by decide +kernel)
    · with_reducible exact simE_local (by kernel_rfl) (by kernel_rfl)
    with_reducible exact simE_local (by kernel_rfl) (by kernel_rfl)
  refine simBk_cons ?_ ?_
  · with_reducible refine simS_setattr X CA ?_ ?_ (by decide +kernel)
    · with_reducible exact simE_local (by kernel_rfl) (by kernel_rfl)
    with_reducible exact simE_local (by kernel_rfl) (by kernel_rfl)
  refine simBk_cons ?_ ?_
  · with_reducible refine simS_setattr X CA ?_ ?_ (by decide +kernel)
    · with_reducible exact simE_local (by kernel_rfl) (by kernel_rfl)
    with_reducible exact simE_local (by kernel_rfl) (by kernel_rfl)
  refine simBk_cons ?_ ?_
  · with_reducible refine simS_setattr X CA ?_ ?_ (by decide +kernel)
    · with_reducible exact simE_local (by kernel_rfl) (by kernel_rfl)
    with_reducible exact simE_local (by kernel_rfl) (by kernel_rfl)
  refine simBk_cons ?_ ?_
  · with_reducible refine simS_setattr X CA ?_ ?_ (by decide +kernel)
    · with_reducible exact simE_local (by kernel_rfl) (by kernel_rfl)
    with_reducible exact simE_local (by kernel_rfl) (by kernel_rfl)
  refine simBk_cons ?_ ?_
  · with_reducible refine simS_setattr X CA ?_ ?_ (by decide +kernel)
    · with_reducible exact simE_local (by kernel_rfl) (by kernel_rfl)
    with_reducible exact simE_local (by kernel_rfl) (by kernel_rfl)
  exact simBk_nil

theorem w_Word_place : SimBk x (n + 1) (scopeOf s_Word_place) (b_Word_place c) (bodyOf s_Word_place) := by
  refine simBk_cons ?_ ?_
  · with_reducible refine simS_ret ?_
    with_reducible refine simE_tup ?_
    with_reducible refine simL_cons ?_ ?_
    · with_reducible refine simE_attr X CA ?_ (by decide +kernel)
      with_reducible exact simE_local (by kernel_rfl) (by kernel_rfl)
    with_reducible refine simL_cons ?_ ?_
    · with_reducible refine simE_attr X CA ?_ (by decide +kernel)
      with_reducible exact simE_local (by kernel_rfl) (by kernel_rfl)
    with_reducible exact simL_nil
  exact simBk_nil

theorem w_Signs_init : SimBk x (n + 1) (scopeOf s_Signs_init) (b_Signs_init c) (bodyOf s_Signs_init) := by
  refine simBk_cons ?_ ?_
  · with_reducible refine simS_setattr X CA ?_ ?_ (by decide +kernel)
    · with_reducible exact simE_local (by kernel_rfl) (by kernel_rfl)
    with_reducible exact simE_local (by kernel_rfl) (by kernel_rfl)
  refine simBk_cons ?_ ?_
  · with_reducible refine simS_setattr X CA ?_ ?_ (by decide +kernel)
    · with_reducible exact simE_local (by kernel_rfl) (by kernel_rfl)
    with_reducible exact simE_int
  refine simBk_cons ?_ ?_
  · with_reducible refine simS_setattr X CA ?_ ?_ (by decide +kernel)
    · with_reducible exact simE_local (by kernel_rfl) (by kernel_rfl)
    with_reducible exact simE_int
  refine simBk_cons ?_ ?_
  · with_reducible refine simS_setattr X CA ?_ ?_ (by decide +kernel)
    · with_reducible exact simE_local (by kernel_rfl) (by kernel_rfl)
    with_reducible exact simE_int
  exact simBk_nil

theorem w_Signs_sign : SimBk x (n + 1) (scopeOf s_Signs_sign) (b_Signs_sign c) (bodyOf s_Signs_sign) := by
  refine simBk_cons ?_ ?_
  · with_reducible refine simS_assign ?_ (by kernel_rfl)
    with_reducible refine simE_bin ?_ ?_
    · with_reducible refine simE_attr X CA ?_ (by decide +kernel)
      with_reducible exact simE_local (by kernel_rfl) (by kernel_rfl)
    with_reducible exact simE_local (by kernel_rfl) (by kernel_rfl)
  refine simBk_cons ?_ ?_
  · with_reducible refine simS_ret ?_
    with_reducible refine simE_if ?_ ?_ ?_
    · refine simT_cmp ?_ ?_
      · with_reducible exact simE_local (by kernel_rfl) (by kernel_rfl)
      with_reducible refine simE_blt X BO ?_ (by decide +kernel) (by kernel_rfl) (by kernel_rfl)
      with_reducible refine simL_cons ?_ ?_
      · with_reducible refine simE_attr X CA ?_ (by decide +kernel)
        with_reducible exact simE_local (by kernel_rfl) (by kernel_rfl)
      with_reducible exact simL_nil
    · with_reducible refine simE_sub ?_ ?_
      · with_reducible refine simE_attr X CA ?_ (by decide +kernel)
        with_reducible exact simE_local (by kernel_rfl) (by kernel_rfl)
      with_reducible exact simE_local (by kernel_rfl) (by kernel_rfl)
    with_reducible exact simE_str
  exact simBk_nil

theorem w_Signs_starts : SimBk x (n + 1) (scopeOf s_Signs_starts) (b_Signs_starts c) (bodyOf s_Signs_starts) := by
  refine simBk_cons ?_ ?_
  · with_reducible refine simS_ret ?_
    with_reducible refine simE_cmp ?_ ?_
    · with_reducible refine simE_slice ?_ ?_ ?_
      · with_reducible refine simE_attr X CA ?_ (by decide +kernel)
        with_reducible exact simE_local (by kernel_rfl) (by kernel_rfl)
      · with_reducible refine simE_attr X CA ?_ (by decide +kernel)
        with_reducible exact simE_local (by kernel_rfl) (by kernel_rfl)
      with_reducible refine simE_bin ?_ ?_
      · with_reducible refine simE_attr X CA ?_ (by decide +kernel)
        with_reducible exact simE_local (by kernel_rfl) (by kernel_rfl)
      with_reducible refine simE_blt X BO ?_ (by decide +kernel) (by kernel_rfl) (by kernel_rfl)
      with_reducible refine simL_cons ?_ ?_
      · with_reducible exact simE_local (by kernel_rfl) (by kernel_rfl)
      with_reducible exact simL_nil
    with_reducible exact simE_local (by kernel_rfl) (by kernel_rfl)
  exact simBk_nil

theorem w_Signs_step : SimBk x (n + 1) (scopeOf s_Signs_step) (b_Signs_step c) (bodyOf s_Signs_step) := by
  refine simBk_cons ?_ ?_
  · with_reducible refine simS_assign ?_ (by kernel_rfl)
    with_reducible refine simE_meth X CA F C ?_ ?_
    · with_reducible exact simE_local (by kernel_rfl) (by kernel_rfl)
    with_reducible exact simL_nil
  refine simBk_cons ?_ ?_
  · with_reducible refine simS_augattr X CA ?_ ?_ (by decide +kernel)
    · with_reducible exact simE_local (by kernel_rfl) (by kernel_rfl)
    with_reducible exact simE_int
  refine simBk_cons ?_ ?_
  · with_reducible refine simS_if ?_ ?_ ?_
    · refine simT_or ?_
      refine simTs_or_cons ?_ ?_
      · refine simT_and ?_
        refine simTs_and_cons ?_ ?_
        · refine simT_cmp ?_ ?_
          · with_reducible exact simE_local (by kernel_rfl) (by kernel_rfl)
          with_reducible exact simE_str
        refine simTs_and_cons ?_ ?_
        · refine simT_cmp ?_ ?_
          · with_reducible exact simE_local (by kernel_rfl) (by kernel_rfl)
          with_reducible exact simE_str
        exact simTs_and_nil
      refine simTs_or_cons ?_ ?_
      · refine simT_and ?_
        refine simTs_and_cons ?_ ?_
        · refine simT_cmp ?_ ?_
          · with_reducible exact simE_local (by kernel_rfl) (by kernel_rfl)
          with_reducible exact simE_str
        refine simTs_and_cons ?_ ?_
        · refine simT_cmp ?_ ?_
          · with_reducible refine simE_meth X CA F C ?_ ?_
            · with_reducible exact simE_local (by kernel_rfl) (by kernel_rfl)
            with_reducible exact simL_nil
          with_reducible exact simE_str
        exact simTs_and_nil
      exact simTs_or_nil
    · refine simBk_cons ?_ ?_
      · with_reducible refine simS_augattr X CA ?_ ?_ (by decide +kernel)
        · with_reducible exact simE_local (by kernel_rfl) (by kernel_rfl)
        with_reducible exact simE_int
      refine simBk_cons ?_ ?_
      · with_reducible refine simS_setattr X CA ?_ ?_ (by decide +kernel)
        · with_reducible exact simE_local (by kernel_rfl) (by kernel_rfl)
        with_reducible exact simE_int
      exact simBk_nil
    refine simBk_cons ?_ ?_
    · with_reducible refine simS_if ?_ ?_ ?_
      · refine simT_cmp ?_ ?_
        · with_reducible exact simE_local (by kernel_rfl) (by kernel_rfl)
        with_reducible exact simE_str
      · refine simBk_cons ?_ ?_
        · with_reducible refine simS_setattr X CA ?_ ?_ (by decide +kernel)
          · with_reducible exact simE_local (by kernel_rfl) (by kernel_rfl)
          with_reducible refine simE_bin ?_ ?_
          · with_reducible refine simE_bin ?_ ?_
            · with_reducible refine simE_bin ?_ ?_
              · with_reducible refine simE_bin ?_ ?_
                · with_reducible refine simE_bin ?_ ?_
                  · with_reducible refine simE_attr X CA ?_ (by decide +kernel)
                    with_reducible exact simE_local (by kernel_rfl) (by kernel_rfl)
                  with_reducible exact simE_int
                with_reducible exact simE_glob X GO (by kernel_rfl) (by kernel_rfl)
              with_reducible exact simE_glob X GO (by kernel_rfl) (by kernel_rfl)
            with_reducible exact simE_glob X GO (by kernel_rfl) (by kernel_rfl)
          with_reducible exact simE_int
        exact simBk_nil
      refine simBk_cons ?_ ?_
      · with_reducible refine simS_augattr X CA ?_ ?_ (by decide +kernel)
        · with_reducible exact simE_local (by kernel_rfl) (by kernel_rfl)
        with_reducible exact simE_int
      exact simBk_nil
    exact simBk_nil
  refine simBk_cons ?_ ?_
  · with_reducible refine simS_ret ?_
    with_reducible exact simE_local (by kernel_rfl) (by kernel_rfl)
  exact simBk_nil

theorem w_Signs_take : SimBk x (n + 1) (scopeOf s_Signs_take) (b_Signs_take c) (bodyOf s_Signs_take) := by
  refine simBk_cons ?_ ?_
  · with_reducible refine simS_assign ?_ (by kernel_rfl)
    with_reducible refine simE_attr X CA ?_ (by decide +kernel)
    with_reducible exact simE_local (by kernel_rfl) (by kernel_rfl)
  refine simBk_cons ?_ ?_
  · with_reducible refine simS_while ?_ ?_
    · refine simT_and ?_
      refine simTs_and_cons ?_ ?_
      · refine simT_cmp ?_ ?_
        · with_reducible refine simE_meth X CA F C ?_ ?_
          · with_reducible exact simE_local (by kernel_rfl) (by kernel_rfl)
          with_reducible exact simL_nil
        with_reducible exact simE_str
      refine simTs_and_cons ?_ ?_
      · refine simT_cmp ?_ ?_
        · with_reducible refine simE_meth X CA F C ?_ ?_
          · with_reducible exact simE_local (by kernel_rfl) (by kernel_rfl)
          with_reducible exact simL_nil
        with_reducible exact simE_local (by kernel_rfl) (by kernel_rfl)
      exact simTs_and_nil
    refine simBk_cons ?_ ?_
    · with_reducible refine simS_expr ?_
      with_reducible refine simE_meth X CA F C ?_ ?_
      · with_reducible exact simE_local (by kernel_rfl) (by kernel_rfl)
      with_reducible exact simL_nil
    exact simBk_nil
  refine simBk_cons ?_ ?_
  · with_reducible refine simS_ret ?_
    with_reducible refine simE_slice ?_ ?_ ?_
    · with_reducible refine simE_attr X CA ?_ (by decide +kernel)
      with_reducible exact simE_local (by kernel_rfl) (by kernel_rfl)
    · with_reducible exact simE_local (by kernel_rfl) (by kernel_rfl)
    with_reducible refine simE_attr X CA ?_ (by decide +kernel)
    with_reducible exact simE_local (by kernel_rfl) (by kernel_rfl)
  exact simBk_nil

theorem w_Signs_place : SimBk x (n + 1) (scopeOf s_Signs_place) (b_Signs_place c) (bodyOf s_Signs_place) := by
  refine simBk_cons ?_ ?_
  · with_reducible refine simS_ret ?_
    with_reducible refine simE_tup ?_
    with_reducible refine simL_cons ?_ ?_
    · with_reducible refine simE_attr X CA ?_ (by decide +kernel)
      with_reducible exact simE_local (by kernel_rfl) (by kernel_rfl)
    with_reducible refine simL_cons ?_ ?_
    · with_reducible refine simE_attr X CA ?_ (by decide +kernel)
      with_reducible exact simE_local (by kernel_rfl) (by kernel_rfl)
    with_reducible exact simL_nil
  exact simBk_nil

theorem w_is_among : SimBk x (n + 1) (scopeOf s_is_among) (b_is_among c) (bodyOf s_is_among) := by
  refine simBk_cons ?_ ?_
  · with_reducible refine simS_ret ?_
    with_reducible refine simE_and ?_
    with_reducible refine simB_and ?_ ?_
    · with_reducible refine simE_cmp ?_ ?_
      · with_reducible exact simE_local (by kernel_rfl) (by kernel_rfl)
      with_reducible exact simE_str
    with_reducible refine simB_oneA ?_
    with_reducible refine simE_cmp ?_ ?_
    · with_reducible exact simE_local (by kernel_rfl) (by kernel_rfl)
    with_reducible exact simE_local (by kernel_rfl) (by kernel_rfl)
  exact simBk_nil

theorem w_is_bare : SimBk x (n + 1) (scopeOf s_is_bare) (b_is_bare c) (bodyOf s_is_bare) := by
  refine simBk_cons ?_ ?_
  · with_reducible refine simS_ret ?_
    with_reducible refine simE_and ?_
    with_reducible refine simB_and ?_ ?_
    · with_reducible refine simE_cmp ?_ ?_
      · with_reducible exact simE_local (by kernel_rfl) (by kernel_rfl)
      with_reducible exact simE_str
    with_reducible refine simB_and ?_ ?_
    · with_reducible refine simE_cmp ?_ ?_
      · with_reducible refine simE_blt X BO ?_ (by decide +kernel) (by kernel_rfl) (by kernel_rfl)
        with_reducible refine simL_cons ?_ ?_
        · with_reducible exact simE_local (by kernel_rfl) (by kernel_rfl)
        with_reducible exact simL_nil
      with_reducible exact simE_int
    with_reducible refine simB_oneA ?_
    with_reducible refine simE_cmp ?_ ?_
    · with_reducible refine simE_blt X BO ?_ (by decide +kernel) (by kernel_rfl) (by kernel_rfl)
      with_reducible refine simL_cons ?_ ?_
      · with_reducible exact simE_local (by kernel_rfl) (by kernel_rfl)
      with_reducible exact simL_nil
    with_reducible exact simE_glob X GO (by kernel_rfl) (by kernel_rfl)
  exact simBk_nil

theorem w_name_letters : SimBk x (n + 1) (scopeOf s_name_letters) (b_name_letters c) (bodyOf s_name_letters) := by
  refine simBk_cons ?_ ?_
  · with_reducible refine simS_ret ?_
    with_reducible refine simE_bin ?_ ?_
    · with_reducible refine simE_bin ?_ ?_
      · with_reducible refine simE_bin ?_ ?_
        · with_reducible exact simE_glob X GO (by kernel_rfl) (by kernel_rfl)
        with_reducible exact simE_glob X GO (by kernel_rfl) (by kernel_rfl)
      with_reducible exact simE_glob X GO (by kernel_rfl) (by kernel_rfl)
    with_reducible exact simE_str
  exact simBk_nil

theorem w_is_line_comment : SimBk x (n + 1) (scopeOf s_is_line_comment) (b_is_line_comment c) (bodyOf s_is_line_comment) := by
  refine simBk_cons ?_ ?_
  · with_reducible refine simS_if ?_ ?_ ?_
    · refine simT_not ?_
      refine simT_value ?_
      with_reducible refine simE_meth X CA F C ?_ ?_
      · with_reducible exact simE_local (by kernel_rfl) (by kernel_rfl)
      with_reducible refine simL_cons ?_ ?_
      · with_reducible exact simE_str
      with_reducible exact simL_nil
    · refine simBk_cons ?_ ?_
      · with_reducible refine simS_ret ?_
        with_reducible exact simE_bool
      exact simBk_nil
    exact simBk_nil
  refine simBk_cons ?_ ?_
  · with_reducible refine simS_assign ?_ (by kernel_rfl)
    with_reducible exact simE_int
  refine simBk_cons ?_ ?_
  · with_reducible refine simS_while ?_ ?_
    · refine simT_cmp ?_ ?_
      · with_reducible refine simE_meth X CA F C ?_ ?_
        · with_reducible exact simE_local (by kernel_rfl) (by kernel_rfl)
        with_reducible refine simL_cons ?_ ?_
        · with_reducible exact simE_local (by kernel_rfl) (by kernel_rfl)
        with_reducible exact simL_nil
      with_reducible exact simE_str
    refine simBk_cons ?_ ?_
    · with_reducible refine simS_augname ?_ (by kernel_rfl)
      with_reducible exact simE_int
    exact simBk_nil
  refine simBk_cons ?_ ?_
  · with_reducible refine simS_ret ?_
    with_reducible refine simE_not ?_
    with_reducible refine simE_fun X F C ?_ (by kernel_rfl) (by kernel_rfl)
    with_reducible refine simL_cons ?_ ?_
    · with_reducible refine simE_meth X CA F C ?_ ?_
      · with_reducible exact simE_local (by kernel_rfl) (by kernel_rfl)
      with_reducible refine simL_cons ?_ ?_
      · with_reducible exact simE_local (by kernel_rfl) (by kernel_rfl)
      with_reducible exact simL_nil
    with_reducible exact simL_nil
  exact simBk_nil

theorem w_skip_between : SimBk x (n + 1) (scopeOf s_skip_between) (b_skip_between c) (bodyOf s_skip_between) := by
  refine simBk_cons ?_ ?_
  · with_reducible refine simS_assign ?_ (by kernel_rfl)
    with_reducible refine simE_attr X CA ?_ (by decide +kernel)
    with_reducible exact simE_local (by kernel_rfl) (by kernel_rfl)
  refine simBk_cons ?_ ?_
  · with_reducible refine simS_assign ?_ (by kernel_rfl)
    with_reducible exact simE_bool
  refine simBk_cons ?_ ?_
  · with_reducible refine simS_while ?_ ?_
    · refine simT_value ?_
      with_reducible exact simE_local (by kernel_rfl) (by kernel_rfl)
    refine simBk_cons ?_ ?_
    · with_reducible refine simS_if ?_ ?_ ?_
      · refine simT_value ?_
        with_reducible refine simE_fun X F C ?_ (by kernel_rfl) (by kernel_rfl)
        with_reducible refine simL_cons ?_ ?_
        · with_reducible refine simE_meth X CA F C ?_ ?_
          · with_reducible exact simE_local (by kernel_rfl) (by kernel_rfl)
          with_reducible exact simL_nil
        with_reducible refine simL_cons ?_ ?_
        · with_reducible exact simE_str
        with_reducible exact simL_nil
      · refine simBk_cons ?_ ?_
        · with_reducible refine simS_expr ?_
          with_reducible refine simE_meth X CA F C ?_ ?_
          · with_reducible exact simE_local (by kernel_rfl) (by kernel_rfl)
          with_reducible exact simL_nil
        exact simBk_nil
      refine simBk_cons ?_ ?_
      · with_reducible refine simS_if ?_ ?_ ?_
        · refine simT_value ?_
          with_reducible refine simE_fun X F C ?_ (by kernel_rfl) (by kernel_rfl)
          with_reducible refine simL_cons ?_ ?_
          · with_reducible exact simE_local (by kernel_rfl) (by kernel_rfl)
          with_reducible exact simL_nil
        · refine simBk_cons ?_ ?_
          · with_reducible refine simS_while ?_ ?_
            · refine simT_cmp ?_ ?_
              · with_reducible refine simE_meth X CA F C ?_ ?_
                · with_reducible exact simE_local (by kernel_rfl) (by kernel_rfl)
                with_reducible exact simL_nil
              with_reducible refine simE_tup ?_
              with_reducible refine simL_cons ?_ ?_
              · with_reducible exact simE_str
              with_reducible refine simL_cons ?_ ?_
              · with_reducible exact simE_str
              with_reducible refine simL_cons ?_ ?_
              · with_reducible exact simE_str
              with_reducible refine simL_cons ?_ ?_
              · with_reducible exact simE_str
              with_reducible exact simL_nil
            refine simBk_cons ?_ ?_
            · with_reducible refine simS_expr ?_
              with_reducible refine simE_meth X CA F C ?_ ?_
              · with_reducible exact simE_local (by kernel_rfl) (by kernel_rfl)
              with_reducible exact simL_nil
            exact simBk_nil
          exact simBk_nil
        refine simBk_cons ?_ ?_
        · with_reducible refine simS_if ?_ ?_ ?_
          · refine simT_value ?_
            with_reducible refine simE_meth X CA F C ?_ ?_
            · with_reducible exact simE_local (by kernel_rfl) (by kernel_rfl)
            with_reducible refine simL_cons ?_ ?_
            · with_reducible exact simE_str
            with_reducible exact simL_nil
          · refine simBk_cons ?_ ?_
            · with_reducible refine simS_expr ?_
              with_reducible refine simE_fun X F C ?_ (by kernel_rfl) (by kernel_rfl)
              with_reducible refine simL_cons ?_ ?_
              · with_reducible exact simE_local (by kernel_rfl) (by kernel_rfl)
              with_reducible exact simL_nil
            exact simBk_nil
          refine simBk_cons ?_ ?_
          · with_reducible refine simS_assign ?_ (by kernel_rfl)
            with_reducible exact simE_bool
          exact simBk_nil
        exact simBk_nil
      exact simBk_nil
    exact simBk_nil
  refine simBk_cons ?_ ?_
  · with_reducible refine simS_ret ?_
    with_reducible refine simE_cmp ?_ ?_
    · with_reducible refine simE_attr X CA ?_ (by decide +kernel)
      with_reducible exact simE_local (by kernel_rfl) (by kernel_rfl)
    with_reducible exact simE_local (by kernel_rfl) (by kernel_rfl)
  exact simBk_nil

theorem w_number_of : SimBk x (n + 1) (scopeOf s_number_of) (b_number_of c) (bodyOf s_number_of) := by
  refine simBk_cons ?_ ?_
  · with_reducible refine simS_assign ?_ (by kernel_rfl)
    with_reducible exact simE_int
  refine simBk_cons ?_ ?_
  · with_reducible refine simS_for ?_ (.one _ _ (by kernel_rfl)) ?_
    · with_reducible exact simE_local (by kernel_rfl) (by kernel_rfl)
    refine simBk_cons ?_ ?_
    · with_reducible refine simS_assign ?_ (by kernel_rfl)
      with_reducible refine simE_bin ?_ ?_
      · with_reducible refine simE_bin ?_ ?_
        · with_reducible exact simE_local (by kernel_rfl) (by kernel_rfl)
        with_reducible exact simE_local (by kernel_rfl) (by kernel_rfl)
      with_reducible refine simE_meth X CA F C ?_ ?_
      · with_reducible exact simE_str
      with_reducible refine simL_cons ?_ ?_
      · with_reducible refine simE_meth X CA F C ?_ ?_
        · with_reducible exact simE_local (by kernel_rfl) (by kernel_rfl)
        with_reducible exact simL_nil
      with_reducible exact simL_nil
    refine simBk_cons ?_ ?_
    · with_reducible refine simS_if ?_ ?_ ?_
      · refine simT_cmp ?_ ?_
        · with_reducible exact simE_local (by kernel_rfl) (by kernel_rfl)
        with_reducible exact simE_glob X GO (by kernel_rfl) (by kernel_rfl)
      · refine simBk_cons ?_ ?_
        · with_reducible exact simS_fail
        exact simBk_nil
      exact simBk_nil
    exact simBk_nil
  refine simBk_cons ?_ ?_
  · with_reducible refine simS_ret ?_
    with_reducible exact simE_local (by kernel_rfl) (by kernel_rfl)
  exact simBk_nil

theorem w_checked_sign : SimBk x (n + 1) (scopeOf s_checked_sign) (b_checked_sign c) (bodyOf s_checked_sign) := by
  refine simBk_cons ?_ ?_
  · with_reducible refine simS_if ?_ ?_ ?_
    · refine simT_cmp ?_ ?_
      · with_reducible exact simE_local (by kernel_rfl) (by kernel_rfl)
      with_reducible exact simE_glob X GO (by kernel_rfl) (by kernel_rfl)
    · refine simBk_cons ?_ ?_
      · with_reducible exact simS_fail
      exact simBk_nil
    exact simBk_nil
  refine simBk_cons ?_ ?_
  · with_reducible refine simS_ret ?_
    with_reducible refine simE_blt X BO ?_ (by decide +kernel) (by kernel_rfl) (by kernel_rfl)
    with_reducible refine simL_cons ?_ ?_
    · with_reducible exact simE_local (by kernel_rfl) (by kernel_rfl)
    with_reducible exact simL_nil
  exact simBk_nil

theorem w_named_escape : SimBk x (n + 1) (scopeOf s_named_escape) (b_named_escape c) (bodyOf s_named_escape) := by
  refine simBk_cons ?_ ?_
  · with_reducible refine simS_unpack ?_ (.many _ _ _ _ (by decide +kernel) (fun _ => rfl) (fun _ => rfl) ⟨[_, _], rfl, fun _ => rfl⟩) (fun _ => rfl) (by intro env h; cases env; cases h; kernel_rfl)
    with_reducible refine simE_tup ?_
    with_reducible refine simL_cons ?_ ?_
    · with_reducible exact simE_str
    with_reducible refine simL_cons ?_ ?_
    · with_reducible exact simE_none
    with_reducible exact simL_nil
  refine simBk_cons ?_ ?_
  · with_reducible refine simS_for ?_ (.one _ _ (by kernel_rfl)) ?_
    · with_reducible refine simE_blt X BO ?_ (by decide +kernel) (by kernel_rfl) (by kernel_rfl)
      with_reducible refine simL_cons ?_ ?_
      · with_reducible refine simE_blt X BO ?_ (by decide +kernel) (by kernel_rfl) (by kernel_rfl)
        with_reducible refine simL_cons ?_ ?_
        · with_reducible exact simE_glob X GO (by kernel_rfl) (by kernel_rfl)
        with_reducible exact simL_nil
      with_reducible exact simL_nil
    refine simBk_cons ?_ ?_
    · with_reducible refine simS_if ?_ ?_ ?_
      · refine simT_and ?_
        refine simTs_and_cons ?_ ?_
        · refine simT_value ?_
          with_reducible refine simE_meth X CA F C ?_ ?_
          · with_reducible exact simE_local (by kernel_rfl) (by kernel_rfl)
          with_reducible refine simL_cons ?_ ?_
          · with_reducible refine simE_sub ?_ ?_
            · with_reducible exact simE_glob X GO (by kernel_rfl) (by kernel_rfl)
            with_reducible exact simE_local (by kernel_rfl) (by kernel_rfl)
          with_reducible exact simL_nil
        refine simTs_and_cons ?_ ?_
        · refine simT_cmp ?_ ?_
          · with_reducible refine simE_blt X BO ?_ (by decide +kernel) (by kernel_rfl) (by kernel_rfl)
            with_reducible refine simL_cons ?_ ?_
            · with_reducible refine simE_sub ?_ ?_
              · with_reducible exact simE_glob X GO (by kernel_rfl) (by kernel_rfl)
              with_reducible exact simE_local (by kernel_rfl) (by kernel_rfl)
            with_reducible exact simL_nil
          with_reducible refine simE_blt X BO ?_ (by decide +kernel) (by kernel_rfl) (by kernel_rfl)
          with_reducible refine simL_cons ?_ ?_
          · with_reducible exact simE_local (by kernel_rfl) (by kernel_rfl)
          with_reducible exact simL_nil
        exact simTs_and_nil
      · refine simBk_cons ?_ ?_
        · with_reducible refine simS_swap ?_ (by decide +kernel) (fun _ => rfl) (by intro env h; cases env; cases h; kernel_rfl)
          with_reducible refine simE_tup ?_
          with_reducible refine simL_cons ?_ ?_
          · with_reducible refine simE_sub ?_ ?_
            · with_reducible exact simE_glob X GO (by kernel_rfl) (by kernel_rfl)
            with_reducible exact simE_local (by kernel_rfl) (by kernel_rfl)
          with_reducible refine simL_cons ?_ ?_
          · with_reducible exact simE_local (by kernel_rfl) (by kernel_rfl)
          with_reducible exact simL_nil
        exact simBk_nil
      exact simBk_nil
    exact simBk_nil
  refine simBk_cons ?_ ?_
  · with_reducible refine simS_if ?_ ?_ ?_
    · refine simT_value ?_
      with_reducible refine simE_meth X CA F C ?_ ?_
      · with_reducible exact simE_local (by kernel_rfl) (by kernel_rfl)
      with_reducible refine simL_cons ?_ ?_
      · with_reducible exact simE_str
      with_reducible exact simL_nil
    · refine simBk_cons ?_ ?_
      · with_reducible refine simS_swap ?_ (by decide +kernel) (fun _ => rfl) (by intro env h; cases env; cases h; kernel_rfl)
        with_reducible refine simE_tup ?_
        with_reducible refine simL_cons ?_ ?_
        · with_reducible exact simE_str
        with_reducible refine simL_cons ?_ ?_
        · with_reducible exact simE_glob X GO (by kernel_rfl) (by kernel_rfl)
        with_reducible exact simL_nil
      exact simBk_nil
    exact simBk_nil
  refine simBk_cons ?_ ?_
  · with_reducible refine simS_for ?_ (.one _ _ (by kernel_rfl)) ?_
    · with_reducible refine simE_blt X BO ?_ (by decide +kernel) (by kernel_rfl) (by kernel_rfl)
      with_reducible refine simL_cons ?_ ?_
      · with_reducible refine simE_blt X BO ?_ (by decide +kernel) (by kernel_rfl) (by kernel_rfl)
        with_reducible refine simL_cons ?_ ?_
        · with_reducible exact simE_local (by kernel_rfl) (by kernel_rfl)
        with_reducible exact simL_nil
      with_reducible exact simL_nil
    refine simBk_cons ?_ ?_
    · with_reducible refine simS_expr ?_
      with_reducible refine simE_meth X CA F C ?_ ?_
      · with_reducible exact simE_local (by kernel_rfl) (by kernel_rfl)
      with_reducible exact simL_nil
    exact simBk_nil
  refine simBk_cons ?_ ?_
  · with_reducible refine simS_ret ?_
    with_reducible refine simE_if ?_ ?_ ?_
    · refine simT_cmp ?_ ?_
      · with_reducible exact simE_local (by kernel_rfl) (by kernel_rfl)
      with_reducible exact simE_none
    · with_reducible exact simE_none
    with_reducible refine simE_blt X BO ?_ (by decide +kernel) (by kernel_rfl) (by kernel_rfl)
    with_reducible refine simL_cons ?_ ?_
    · with_reducible exact simE_local (by kernel_rfl) (by kernel_rfl)
    with_reducible exact simL_nil
  exact simBk_nil

theorem w_read_escape : SimBk x (n + 1) (scopeOf s_read_escape) (b_read_escape c) (bodyOf s_read_escape) := by
  refine simBk_cons ?_ ?_
  · with_reducible refine simS_assign ?_ (by kernel_rfl)
    with_reducible refine simE_meth X CA F C ?_ ?_
    · with_reducible exact simE_local (by kernel_rfl) (by kernel_rfl)
    with_reducible exact simL_nil
  refine simBk_cons ?_ ?_
  · with_reducible refine simS_assign ?_ (by kernel_rfl)
    with_reducible refine simE_meth X CA F C ?_ ?_
    · with_reducible exact simE_local (by kernel_rfl) (by kernel_rfl)
    with_reducible exact simL_nil
  refine simBk_cons ?_ ?_
  · with_reducible refine simS_if ?_ ?_ ?_
    · refine simT_value ?_
      with_reducible refine simE_fun X F C ?_ (by kernel_rfl) (by kernel_rfl)
      with_reducible refine simL_cons ?_ ?_
      · with_reducible exact simE_local (by kernel_rfl) (by kernel_rfl)
      with_reducible refine simL_cons ?_ ?_
      · with_reducible exact simE_glob X GO (by kernel_rfl) (by kernel_rfl)
      with_reducible exact simL_nil
    · refine simBk_cons ?_ ?_
      · with_reducible refine simS_ret ?_
        with_reducible refine simE_fun X F C ?_ (by kernel_rfl) (by kernel_rfl)
        with_reducible refine simL_cons ?_ ?_
        · with_reducible refine simE_fun X F C ?_ (by kernel_rfl) (by kernel_rfl)
          with_reducible refine simL_cons ?_ ?_
          · with_reducible refine simE_meth X CA F C ?_ ?_
            · with_reducible exact simE_local (by kernel_rfl) (by kernel_rfl)
            with_reducible refine simL_cons ?_ ?_
            · with_reducible exact simE_glob X GO (by kernel_rfl) (by kernel_rfl)
            with_reducible exact simL_nil
          with_reducible refine simL_cons ?_ ?_
          · with_reducible exact simE_int
          with_reducible refine simL_cons ?_ ?_
          · with_reducible exact simE_local (by kernel_rfl) (by kernel_rfl)
          with_reducible exact simL_nil
        with_reducible refine simL_cons ?_ ?_
        · with_reducible exact simE_local (by kernel_rfl) (by kernel_rfl)
        with_reducible exact simL_nil
      exact simBk_nil
    exact simBk_nil
  refine simBk_cons ?_ ?_
  · with_reducible refine simS_for ?_ (.many _ _ _ _ (by decide +kernel) (fun _ => rfl) (fun _ => rfl) ⟨[_, _, _], rfl, fun _ => rfl⟩) ?_
    · with_reducible refine simE_tup ?_
      with_reducible refine simL_cons ?_ ?_
      · with_reducible refine simE_tup ?_
        with_reducible refine simL_cons ?_ ?_
        · with_reducible exact simE_str
        with_reducible refine simL_cons ?_ ?_
        · with_reducible refine simE_bin ?_ ?_
          · with_reducible exact simE_glob X GO (by kernel_rfl) (by kernel_rfl)
          with_reducible exact simE_str
        with_reducible refine simL_cons ?_ ?_
        · with_reducible exact simE_int
        with_reducible exact simL_nil
      with_reducible refine simL_cons ?_ ?_
      · with_reducible refine simE_tup ?_
        with_reducible refine simL_cons ?_ ?_
        · with_reducible exact simE_str
        with_reducible refine simL_cons ?_ ?_
        · with_reducible exact simE_str
        with_reducible refine simL_cons ?_ ?_
        · with_reducible exact simE_int
        with_reducible exact simL_nil
      with_reducible exact simL_nil
    refine simBk_cons ?_ ?_
    · with_reducible refine simS_if ?_ ?_ ?_
      · refine simT_and ?_
        refine simTs_and_cons ?_ ?_
        · refine simT_cmp ?_ ?_
          · with_reducible exact simE_local (by kernel_rfl) (by kernel_rfl)
          with_reducible exact simE_local (by kernel_rfl) (by kernel_rfl)
        refine simTs_and_cons ?_ ?_
        · refine simT_value ?_
          with_reducible refine simE_fun X F C ?_ (by kernel_rfl) (by kernel_rfl)
          with_reducible refine simL_cons ?_ ?_
          · with_reducible refine simE_meth X CA F C ?_ ?_
            · with_reducible exact simE_local (by kernel_rfl) (by kernel_rfl)
            with_reducible refine simL_cons ?_ ?_
            · with_reducible exact simE_int
            with_reducible exact simL_nil
          with_reducible refine simL_cons ?_ ?_
          · with_reducible exact simE_local (by kernel_rfl) (by kernel_rfl)
          with_reducible exact simL_nil
        exact simTs_and_nil
      · refine simBk_cons ?_ ?_
        · with_reducible refine simS_expr ?_
          with_reducible refine simE_meth X CA F C ?_ ?_
          · with_reducible exact simE_local (by kernel_rfl) (by kernel_rfl)
          with_reducible exact simL_nil
        refine simBk_cons ?_ ?_
        · with_reducible refine simS_ret ?_
          with_reducible refine simE_fun X F C ?_ (by kernel_rfl) (by kernel_rfl)
          with_reducible refine simL_cons ?_ ?_
          · with_reducible refine simE_fun X F C ?_ (by kernel_rfl) (by kernel_rfl)
            with_reducible refine simL_cons ?_ ?_
            · with_reducible refine simE_meth X CA F C ?_ ?_
              · with_reducible exact simE_local (by kernel_rfl) (by kernel_rfl)
              with_reducible refine simL_cons ?_ ?_
              · with_reducible exact simE_local (by kernel_rfl) (by kernel_rfl)
              with_reducible exact simL_nil
            with_reducible refine simL_cons ?_ ?_
            · with_reducible exact simE_local (by kernel_rfl) (by kernel_rfl)
            with_reducible refine simL_cons ?_ ?_
            · with_reducible exact simE_local (by kernel_rfl) (by kernel_rfl)
            with_reducible exact simL_nil
          with_reducible refine simL_cons ?_ ?_
          · with_reducible exact simE_local (by kernel_rfl) (by kernel_rfl)
          with_reducible exact simL_nil
        exact simBk_nil
      exact simBk_nil
    exact simBk_nil
  refine simBk_cons ?_ ?_
  · with_reducible refine simS_if ?_ ?_ ?_
    · refine simT_and ?_
      refine simTs_and_cons ?_ ?_
      · refine simT_cmp ?_ ?_
        · with_reducible exact simE_local (by kernel_rfl) (by kernel_rfl)
        with_reducible exact simE_str
      refine simTs_and_cons ?_ ?_
      · refine simT_cmp2 ?_ ?_ ?_
        · with_reducible exact simE_str
        · with_reducible refine simE_meth X CA F C ?_ ?_
          · with_reducible exact simE_local (by kernel_rfl) (by kernel_rfl)
          with_reducible refine simL_cons ?_ ?_
          · with_reducible exact simE_int
          with_reducible exact simL_nil
        with_reducible exact simE_str
      exact simTs_and_nil
    · refine simBk_cons ?_ ?_
      · with_reducible refine simS_expr ?_
        with_reducible refine simE_meth X CA F C ?_ ?_
        · with_reducible exact simE_local (by kernel_rfl) (by kernel_rfl)
        with_reducible exact simL_nil
      refine simBk_cons ?_ ?_
      · with_reducible refine simS_ret ?_
        with_reducible refine simE_blt X BO ?_ (by decide +kernel) (by kernel_rfl) (by kernel_rfl)
        with_reducible refine simL_cons ?_ ?_
        · with_reducible refine simE_bin ?_ ?_
          · with_reducible refine simE_blt X BO ?_ (by decide +kernel) (by kernel_rfl) (by kernel_rfl)
            with_reducible refine simL_cons ?_ ?_
            · with_reducible refine simE_meth X CA F C ?_ ?_
              · with_reducible exact simE_local (by kernel_rfl) (by kernel_rfl)
              with_reducible exact simL_nil
            with_reducible exact simL_nil
          with_reducible exact simE_int
        with_reducible exact simL_nil
      exact simBk_nil
    exact simBk_nil
  refine simBk_cons ?_ ?_
  · with_reducible refine simS_if ?_ ?_ ?_
    · refine simT_and ?_
      refine simTs_and_cons ?_ ?_
      · refine simT_cmp ?_ ?_
        · with_reducible exact simE_local (by kernel_rfl) (by kernel_rfl)
        with_reducible exact simE_str
      refine simTs_and_cons ?_ ?_
      · refine simT_cmp ?_ ?_
        · with_reducible exact simE_local (by kernel_rfl) (by kernel_rfl)
        with_reducible exact simE_glob X GO (by kernel_rfl) (by kernel_rfl)
      exact simTs_and_nil
    · refine simBk_cons ?_ ?_
      · with_reducible refine simS_expr ?_
        with_reducible refine simE_meth X CA F C ?_ ?_
        · with_reducible exact simE_local (by kernel_rfl) (by kernel_rfl)
        with_reducible exact simL_nil
      refine simBk_cons ?_ ?_
      · with_reducible refine simS_ret ?_
        with_reducible refine simE_blt X BO ?_ (by decide +kernel) (by kernel_rfl) (by kernel_rfl)
        with_reducible refine simL_cons ?_ ?_
        · with_reducible refine simE_sub ?_ ?_
          · with_reducible exact simE_glob X GO (by kernel_rfl) (by kernel_rfl)
          with_reducible exact simE_local (by kernel_rfl) (by kernel_rfl)
        with_reducible exact simL_nil
      exact simBk_nil
    exact simBk_nil
  refine simBk_cons ?_ ?_
  · with_reducible refine simS_assign ?_ (by kernel_rfl)
    with_reducible refine simE_fun X F C ?_ (by kernel_rfl) (by kernel_rfl)
    with_reducible refine simL_cons ?_ ?_
    · with_reducible exact simE_local (by kernel_rfl) (by kernel_rfl)
    with_reducible exact simL_nil
  refine simBk_cons ?_ ?_
  · with_reducible refine simS_if ?_ ?_ ?_
    · refine simT_cmp ?_ ?_
      · with_reducible exact simE_local (by kernel_rfl) (by kernel_rfl)
      with_reducible exact simE_none
    · refine simBk_cons ?_ ?_
      · with_reducible exact simS_fail
      exact simBk_nil
    exact simBk_nil
  refine simBk_cons ?_ ?_
  · with_reducible refine simS_ret ?_
    with_reducible exact simE_local (by kernel_rfl) (by kernel_rfl)
  exact simBk_nil

theorem w_read_char : SimBk x (n + 1) (scopeOf s_read_char) (b_read_char c) (bodyOf s_read_char) := by
  refine simBk_cons ?_ ?_
  · with_reducible refine simS_assign ?_ (by kernel_rfl)
    with_reducible refine simE_meth X CA F C ?_ ?_
    · with_reducible exact simE_local (by kernel_rfl) (by kernel_rfl)
    with_reducible exact simL_nil
  refine simBk_cons ?_ ?_
  · with_reducible refine simS_expr ?_
    with_reducible refine simE_meth X CA F C ?_ ?_
    · with_reducible exact simE_local (by kernel_rfl) (by kernel_rfl)
    with_reducible exact simL_nil
  refine simBk_cons ?_ ?_
  · with_reducible refine simS_assign ?_ (by kernel_rfl)
    with_reducible refine simE_meth X CA F C ?_ ?_
    · with_reducible exact simE_local (by kernel_rfl) (by kernel_rfl)
    with_reducible exact simL_nil
  refine simBk_cons ?_ ?_
  · with_reducible refine simS_if ?_ ?_ ?_
    · refine simT_or ?_
      refine simTs_or_cons ?_ ?_
      · refine simT_not ?_
        refine simT_value ?_
        with_reducible refine simE_fun X F C ?_ (by kernel_rfl) (by kernel_rfl)
        with_reducible refine simL_cons ?_ ?_
        · with_reducible exact simE_local (by kernel_rfl) (by kernel_rfl)
        with_reducible exact simL_nil
      refine simTs_or_cons ?_ ?_
      · refine simT_cmp ?_ ?_
        · with_reducible exact simE_local (by kernel_rfl) (by kernel_rfl)
        with_reducible exact simE_str
      exact simTs_or_nil
    · refine simBk_cons ?_ ?_
      · with_reducible exact simS_fail
      exact simBk_nil
    exact simBk_nil
  refine simBk_cons ?_ ?_
  · with_reducible refine simS_if ?_ ?_ ?_
    · refine simT_cmp ?_ ?_
      · with_reducible exact simE_local (by kernel_rfl) (by kernel_rfl)
      with_reducible exact simE_str
    · refine simBk_cons ?_ ?_
      · with_reducible refine simS_assign ?_ (by kernel_rfl)
        with_reducible refine simE_fun X F C ?_ (by kernel_rfl) (by kernel_rfl)
        with_reducible refine simL_cons ?_ ?_
        · with_reducible exact simE_local (by kernel_rfl) (by kernel_rfl)
        with_reducible exact simL_nil
      exact simBk_nil
    exact simBk_nil
  refine simBk_cons ?_ ?_
  · with_reducible refine simS_if ?_ ?_ ?_
    · refine simT_cmp ?_ ?_
      · with_reducible refine simE_meth X CA F C ?_ ?_
        · with_reducible exact simE_local (by kernel_rfl) (by kernel_rfl)
        with_reducible exact simL_nil
      with_reducible exact simE_str
    · refine simBk_cons ?_ ?_
      · with_reducible exact simS_fail
      exact simBk_nil
    exact simBk_nil
  refine simBk_cons ?_ ?_
  · with_reducible refine simS_ret ?_
    with_reducible exact simE_local (by kernel_rfl) (by kernel_rfl)
  exact simBk_nil

theorem w_read_text : SimBk x (n + 1) (scopeOf s_read_text) (b_read_text c) (bodyOf s_read_text) := by
  refine simBk_cons ?_ ?_
  · with_reducible refine simS_assign ?_ (by kernel_rfl)
    with_reducible refine simE_meth X CA F C ?_ ?_
    · with_reducible exact simE_local (by kernel_rfl) (by kernel_rfl)
    with_reducible exact simL_nil
  refine simBk_cons ?_ ?_
  · with_reducible refine simS_expr ?_
    with_reducible refine simE_meth X CA F C ?_ ?_
    · with_reducible exact simE_local (by kernel_rfl) (by kernel_rfl)
    with_reducible exact simL_nil
  refine simBk_cons ?_ ?_
  · with_reducible refine simS_assign ?_ (by kernel_rfl)
    with_reducible refine simE_list ?_
    with_reducible exact simL_nil
  refine simBk_cons ?_ ?_
  · with_reducible refine simS_while ?_ ?_
    · refine simT_cmp ?_ ?_
      · with_reducible refine simE_meth X CA F C ?_ ?_
        · with_reducible exact simE_local (by kernel_rfl) (by kernel_rfl)
        with_reducible exact simL_nil
      with_reducible exact simE_str
    refine simBk_cons ?_ ?_
    · with_reducible refine simS_assign ?_ (by kernel_rfl)
      with_reducible refine simE_meth X CA F C ?_ ?_
      · with_reducible exact simE_local (by kernel_rfl) (by kernel_rfl)
      with_reducible exact simL_nil
    refine simBk_cons ?_ ?_
    · with_reducible refine simS_if ?_ ?_ ?_
      · refine simT_not ?_
        refine simT_value ?_
        with_reducible refine simE_fun X F C ?_ (by kernel_rfl) (by kernel_rfl)
        with_reducible refine simL_cons ?_ ?_
        · with_reducible exact simE_local (by kernel_rfl) (by kernel_rfl)
        with_reducible exact simL_nil
      · refine simBk_cons ?_ ?_
        · with_reducible exact simS_fail
        exact simBk_nil
      exact simBk_nil
    refine simBk_cons ?_ ?_
    · with_reducible refine simS_if ?_ ?_ ?_
      · refine simT_cmp ?_ ?_
        · with_reducible exact simE_local (by kernel_rfl) (by kernel_rfl)
        with_reducible exact simE_str
      · refine simBk_cons ?_ ?_
        · with_reducible refine simS_expr ?_
          with_reducible refine simE_meth X CA F C ?_ ?_
          · with_reducible exact simE_local (by kernel_rfl) (by kernel_rfl)
          with_reducible refine simL_cons ?_ ?_
          · with_reducible exact simE_local (by kernel_rfl) (by kernel_rfl)
          with_reducible exact simL_nil
        exact simBk_nil
      refine simBk_cons ?_ ?_
      · with_reducible refine simS_if ?_ ?_ ?_
        · refine simT_cmp ?_ ?_
          · with_reducible refine simE_meth X CA F C ?_ ?_
            · with_reducible exact simE_local (by kernel_rfl) (by kernel_rfl)
            with_reducible exact simL_nil
          with_reducible exact simE_str
        · refine simBk_cons ?_ ?_
          · with_reducible refine simS_expr ?_
            with_reducible refine simE_meth X CA F C ?_ ?_
            · with_reducible exact simE_local (by kernel_rfl) (by kernel_rfl)
            with_reducible exact simL_nil
          exact simBk_nil
        refine simBk_cons ?_ ?_
        · with_reducible refine simS_if ?_ ?_ ?_
          · refine simT_value ?_
            with_reducible refine simE_fun X F C ?_ (by kernel_rfl) (by kernel_rfl)
            with_reducible refine simL_cons ?_ ?_
            · with_reducible refine simE_meth X CA F C ?_ ?_
              · with_reducible exact simE_local (by kernel_rfl) (by kernel_rfl)
              with_reducible exact simL_nil
            with_reducible refine simL_cons ?_ ?_
            · with_reducible exact simE_str
            with_reducible exact simL_nil
          · refine simBk_cons ?_ ?_
            · with_reducible refine simS_expr ?_
              with_reducible refine simE_fun X F C ?_ (by kernel_rfl) (by kernel_rfl)
              with_reducible refine simL_cons ?_ ?_
              · with_reducible exact simE_local (by kernel_rfl) (by kernel_rfl)
              with_reducible refine simL_cons ?_ ?_
              · with_reducible exact simE_local (by kernel_rfl) (by kernel_rfl)
              with_reducible exact simL_nil
            exact simBk_nil
          refine simBk_cons ?_ ?_
          · with_reducible refine simS_expr ?_
            with_reducible refine simE_meth X CA F C ?_ ?_
            · with_reducible exact simE_local (by kernel_rfl) (by kernel_rfl)
            with_reducible refine simL_cons ?_ ?_
            · with_reducible refine simE_fun X F C ?_ (by kernel_rfl) (by kernel_rfl)
              with_reducible refine simL_cons ?_ ?_
              · with_reducible exact simE_local (by kernel_rfl) (by kernel_rfl)
              with_reducible exact simL_nil
            with_reducible exact simL_nil
          exact simBk_nil
        exact simBk_nil
      exact simBk_nil
    exact simBk_nil
  refine simBk_cons ?_ ?_
  · with_reducible refine simS_expr ?_
    with_reducible refine simE_meth X CA F C ?_ ?_
    · with_reducible exact simE_local (by kernel_rfl) (by kernel_rfl)
    with_reducible exact simL_nil
  refine simBk_cons ?_ ?_
  · with_reducible refine simS_ret ?_
    with_reducible refine simE_meth X CA F C ?_ ?_
    · with_reducible exact simE_str
    with_reducible refine simL_cons ?_ ?_
    · with_reducible exact simE_local (by kernel_rfl) (by kernel_rfl)
    with_reducible exact simL_nil
  exact simBk_nil

theorem w_symbol_kind : SimBk x (n + 1) (scopeOf s_symbol_kind) (b_symbol_kind c) (bodyOf s_symbol_kind) := by
  refine simBk_cons ?_ ?_
  · with_reducible refine simS_if ?_ ?_ ?_
    · refine simT_cmp ?_ ?_
      · with_reducible exact simE_local (by kernel_rfl) (by kernel_rfl)
      with_reducible exact simE_glob X GO (by kernel_rfl) (by kernel_rfl)
    · refine simBk_cons ?_ ?_
      · with_reducible refine simS_ret ?_
        with_reducible exact simE_str
      exact simBk_nil
    exact simBk_nil
  refine simBk_cons ?_ ?_
  · with_reducible refine simS_ret ?_
    with_reducible refine simE_if ?_ ?_ ?_
    · refine simT_cmp ?_ ?_
      · with_reducible refine simE_sub ?_ ?_
        · with_reducible exact simE_local (by kernel_rfl) (by kernel_rfl)
        with_reducible exact simE_int
      with_reducible exact simE_str
    · with_reducible exact simE_str
    with_reducible exact simE_str
  exact simBk_nil

theorem w_read_word : SimBk x (n + 1) (scopeOf s_read_word) (b_read_word c) (bodyOf s_read_word) := by
  refine simBk_cons ?_ ?_
  · with_reducible refine simS_assign ?_ (by kernel_rfl)
    with_reducible refine simE_meth X CA F C ?_ ?_
    · with_reducible exact simE_local (by kernel_rfl) (by kernel_rfl)
    with_reducible exact simL_nil
  refine simBk_cons ?_ ?_
  · with_reducible refine simS_if ?_ ?_ ?_
    · refine simT_cmp ?_ ?_
      · with_reducible exact simE_local (by kernel_rfl) (by kernel_rfl)
      with_reducible exact simE_str
    · refine simBk_cons ?_ ?_
      · with_reducible refine simS_ret ?_
        with_reducible refine simE_tup ?_
        with_reducible refine simL_cons ?_ ?_
        · with_reducible exact simE_str
        with_reducible refine simL_cons ?_ ?_
        · with_reducible exact simE_str
        with_reducible refine simL_cons ?_ ?_
        · with_reducible exact simE_none
        with_reducible exact simL_nil
      exact simBk_nil
    exact simBk_nil
  refine simBk_cons ?_ ?_
  · with_reducible refine simS_if ?_ ?_ ?_
    · refine simT_value ?_
      with_reducible refine simE_fun X F C ?_ (by kernel_rfl) (by kernel_rfl)
      with_reducible refine simL_cons ?_ ?_
      · with_reducible exact simE_local (by kernel_rfl) (by kernel_rfl)
      with_reducible refine simL_cons ?_ ?_
      · with_reducible exact simE_glob X GO (by kernel_rfl) (by kernel_rfl)
      with_reducible exact simL_nil
    · refine simBk_cons ?_ ?_
      · with_reducible refine simS_ret ?_
        with_reducible refine simE_tup ?_
        with_reducible refine simL_cons ?_ ?_
        · with_reducible exact simE_str
        with_reducible refine simL_cons ?_ ?_
        · with_reducible refine simE_meth X CA F C ?_ ?_
          · with_reducible exact simE_local (by kernel_rfl) (by kernel_rfl)
          with_reducible exact simL_nil
        with_reducible refine simL_cons ?_ ?_
        · with_reducible exact simE_none
        with_reducible exact simL_nil
      exact simBk_nil
    exact simBk_nil
  refine simBk_cons ?_ ?_
  · with_reducible refine simS_if ?_ ?_ ?_
    · refine simT_value ?_
      with_reducible refine simE_fun X F C ?_ (by kernel_rfl) (by kernel_rfl)
      with_reducible refine simL_cons ?_ ?_
      · with_reducible exact simE_local (by kernel_rfl) (by kernel_rfl)
      with_reducible refine simL_cons ?_ ?_
      · with_reducible exact simE_glob X GO (by kernel_rfl) (by kernel_rfl)
      with_reducible exact simL_nil
    · refine simBk_cons ?_ ?_
      · with_reducible refine simS_assign ?_ (by kernel_rfl)
        with_reducible refine simE_attr X CA ?_ (by decide +kernel)
        with_reducible exact simE_local (by kernel_rfl) (by kernel_rfl)
      refine simBk_cons ?_ ?_
      · with_reducible refine simS_assign ?_ (by kernel_rfl)
        with_reducible refine simE_fun X F C ?_ (by kernel_rfl) (by kernel_rfl)
        with_reducible refine simL_cons ?_ ?_
        · with_reducible exact simE_local (by kernel_rfl) (by kernel_rfl)
        with_reducible exact simL_nil
      refine simBk_cons ?_ ?_
      · with_reducible refine simS_ret ?_
        with_reducible refine simE_tup ?_
        with_reducible refine simL_cons ?_ ?_
        · with_reducible exact simE_str
        with_reducible refine simL_cons ?_ ?_
        · with_reducible refine simE_slice ?_ ?_ ?_
          · with_reducible refine simE_attr X CA ?_ (by decide +kernel)
            with_reducible exact simE_local (by kernel_rfl) (by kernel_rfl)
          · with_reducible exact simE_local (by kernel_rfl) (by kernel_rfl)
          with_reducible refine simE_attr X CA ?_ (by decide +kernel)
          with_reducible exact simE_local (by kernel_rfl) (by kernel_rfl)
        with_reducible refine simL_cons ?_ ?_
        · with_reducible exact simE_local (by kernel_rfl) (by kernel_rfl)
        with_reducible exact simL_nil
      exact simBk_nil
    exact simBk_nil
  refine simBk_cons ?_ ?_
  · with_reducible refine simS_if ?_ ?_ ?_
    · refine simT_value ?_
      with_reducible refine simE_fun X F C ?_ (by kernel_rfl) (by kernel_rfl)
      with_reducible refine simL_cons ?_ ?_
      · with_reducible exact simE_local (by kernel_rfl) (by kernel_rfl)
      with_reducible refine simL_cons ?_ ?_
      · with_reducible exact simE_glob X GO (by kernel_rfl) (by kernel_rfl)
      with_reducible exact simL_nil
    · refine simBk_cons ?_ ?_
      · with_reducible refine simS_assign ?_ (by kernel_rfl)
        with_reducible refine simE_meth X CA F C ?_ ?_
        · with_reducible exact simE_local (by kernel_rfl) (by kernel_rfl)
        with_reducible refine simL_cons ?_ ?_
        · with_reducible refine simE_fun X F C ?_ (by kernel_rfl) (by kernel_rfl)
          with_reducible exact simL_nil
        with_reducible exact simL_nil
      refine simBk_cons ?_ ?_
      · with_reducible refine simS_ret ?_
        with_reducible refine simE_tup ?_
        with_reducible refine simL_cons ?_ ?_
        · with_reducible refine simE_if ?_ ?_ ?_
          · refine simT_cmp ?_ ?_
            · with_reducible exact simE_local (by kernel_rfl) (by kernel_rfl)
            with_reducible exact simE_glob X GO (by kernel_rfl) (by kernel_rfl)
          · with_reducible exact simE_str
          with_reducible exact simE_str
        with_reducible refine simL_cons ?_ ?_
        · with_reducible exact simE_local (by kernel_rfl) (by kernel_rfl)
        with_reducible refine simL_cons ?_ ?_
        · with_reducible exact simE_none
        with_reducible exact simL_nil
      exact simBk_nil
    exact simBk_nil
  refine simBk_cons ?_ ?_
  · with_reducible refine simS_if ?_ ?_ ?_
    · refine simT_value ?_
      with_reducible refine simE_fun X F C ?_ (by kernel_rfl) (by kernel_rfl)
      with_reducible refine simL_cons ?_ ?_
      · with_reducible exact simE_local (by kernel_rfl) (by kernel_rfl)
      with_reducible refine simL_cons ?_ ?_
      · with_reducible exact simE_glob X GO (by kernel_rfl) (by kernel_rfl)
      with_reducible exact simL_nil
    · refine simBk_cons ?_ ?_
      · with_reducible refine simS_ret ?_
        with_reducible refine simE_fun X F C ?_ (by kernel_rfl) (by kernel_rfl)
        with_reducible refine simL_cons ?_ ?_
        · with_reducible exact simE_local (by kernel_rfl) (by kernel_rfl)
        with_reducible exact simL_nil
      exact simBk_nil
    exact simBk_nil
  refine simBk_cons ?_ ?_
  · with_reducible refine simS_if ?_ ?_ ?_
    · refine simT_value ?_
      with_reducible refine simE_fun X F C ?_ (by kernel_rfl) (by kernel_rfl)
      with_reducible refine simL_cons ?_ ?_
      · with_reducible exact simE_local (by kernel_rfl) (by kernel_rfl)
      with_reducible refine simL_cons ?_ ?_
      · with_reducible exact simE_glob X GO (by kernel_rfl) (by kernel_rfl)
      with_reducible exact simL_nil
    · refine simBk_cons ?_ ?_
      · with_reducible refine simS_assign ?_ (by kernel_rfl)
        with_reducible refine simE_meth X CA F C ?_ ?_
        · with_reducible exact simE_local (by kernel_rfl) (by kernel_rfl)
        with_reducible refine simL_cons ?_ ?_
        · with_reducible exact simE_glob X GO (by kernel_rfl) (by kernel_rfl)
        with_reducible exact simL_nil
      refine simBk_cons ?_ ?_
      · with_reducible refine simS_ret ?_
        with_reducible refine simE_tup ?_
        with_reducible refine simL_cons ?_ ?_
        · with_reducible refine simE_fun X F C ?_ (by kernel_rfl) (by kernel_rfl)
          with_reducible refine simL_cons ?_ ?_
          · with_reducible exact simE_local (by kernel_rfl) (by kernel_rfl)
          with_reducible exact simL_nil
        with_reducible refine simL_cons ?_ ?_
        · with_reducible exact simE_local (by kernel_rfl) (by kernel_rfl)
        with_reducible refine simL_cons ?_ ?_
        · with_reducible exact simE_none
        with_reducible exact simL_nil
      exact simBk_nil
    exact simBk_nil
  refine simBk_cons ?_ ?_
  · with_reducible refine simS_assign ?_ (by kernel_rfl)
    with_reducible refine simE_attr X CA ?_ (by decide +kernel)
    with_reducible exact simE_local (by kernel_rfl) (by kernel_rfl)
  refine simBk_cons ?_ ?_
  · with_reducible refine simS_if ?_ ?_ ?_
    · refine simT_cmp ?_ ?_
      · with_reducible exact simE_local (by kernel_rfl) (by kernel_rfl)
      with_reducible exact simE_str
    · refine simBk_cons ?_ ?_
      · with_reducible refine simS_assign ?_ (by kernel_rfl)
        with_reducible refine simE_fun X F C ?_ (by kernel_rfl) (by kernel_rfl)
        with_reducible refine simL_cons ?_ ?_
        · with_reducible exact simE_local (by kernel_rfl) (by kernel_rfl)
        with_reducible exact simL_nil
      refine simBk_cons ?_ ?_
      · with_reducible refine simS_ret ?_
        with_reducible refine simE_tup ?_
        with_reducible refine simL_cons ?_ ?_
        · with_reducible exact simE_str
        with_reducible refine simL_cons ?_ ?_
        · with_reducible refine simE_slice ?_ ?_ ?_
          · with_reducible refine simE_attr X CA ?_ (by decide +kernel)
            with_reducible exact simE_local (by kernel_rfl) (by kernel_rfl)
          · with_reducible exact simE_local (by kernel_rfl) (by kernel_rfl)
          with_reducible refine simE_attr X CA ?_ (by decide +kernel)
          with_reducible exact simE_local (by kernel_rfl) (by kernel_rfl)
        with_reducible refine simL_cons ?_ ?_
        · with_reducible exact simE_local (by kernel_rfl) (by kernel_rfl)
        with_reducible exact simL_nil
      exact simBk_nil
    exact simBk_nil
  refine simBk_cons ?_ ?_
  · with_reducible refine simS_if ?_ ?_ ?_
    · refine simT_cmp ?_ ?_
      · with_reducible exact simE_local (by kernel_rfl) (by kernel_rfl)
      with_reducible exact simE_str
    · refine simBk_cons ?_ ?_
      · with_reducible refine simS_assign ?_ (by kernel_rfl)
        with_reducible refine simE_fun X F C ?_ (by kernel_rfl) (by kernel_rfl)
        with_reducible refine simL_cons ?_ ?_
        · with_reducible exact simE_local (by kernel_rfl) (by kernel_rfl)
        with_reducible exact simL_nil
      refine simBk_cons ?_ ?_
      · with_reducible refine simS_ret ?_
        with_reducible refine simE_tup ?_
        with_reducible refine simL_cons ?_ ?_
        · with_reducible exact simE_str
        with_reducible refine simL_cons ?_ ?_
        · with_reducible refine simE_slice ?_ ?_ ?_
          · with_reducible refine simE_attr X CA ?_ (by decide +kernel)
            with_reducible exact simE_local (by kernel_rfl) (by kernel_rfl)
          · with_reducible exact simE_local (by kernel_rfl) (by kernel_rfl)
          with_reducible refine simE_attr X CA ?_ (by decide +kernel)
          with_reducible exact simE_local (by kernel_rfl) (by kernel_rfl)
        with_reducible refine simL_cons ?_ ?_
        · with_reducible exact simE_local (by kernel_rfl) (by kernel_rfl)
        with_reducible exact simL_nil
      exact simBk_nil
    exact simBk_nil
  refine simBk_cons ?_ ?_
  · with_reducible exact simS_fail
  exact simBk_nil

theorem w_words_of : SimBk x (n + 1) (scopeOf s_words_of) (b_words_of c) (bodyOf s_words_of) := by
  refine simBk_cons ?_ ?_
  · with_reducible refine simS_assign ?_ (by kernel_rfl)
    with_reducible refine simE_new X CA F C ?_ (by decide +kernel) (by kernel_rfl) (by kernel_rfl)
    with_reducible refine simL_cons ?_ ?_
    · with_reducible exact simE_local (by kernel_rfl) (by kernel_rfl)
    with_reducible exact simL_nil
  refine simBk_cons ?_ ?_
  · with_reducible refine simS_assign ?_ (by kernel_rfl)
    with_reducible refine simE_list ?_
    with_reducible exact simL_nil
  refine simBk_cons ?_ ?_
  · with_reducible refine simS_assign ?_ (by kernel_rfl)
    with_reducible exact simE_bool
  refine simBk_cons ?_ ?_
  · with_reducible refine simS_while ?_ ?_
    · refine simT_or ?_
      refine simTs_or_cons ?_ ?_
      · refine simT_cmp ?_ ?_
        · with_reducible exact simE_local (by kernel_rfl) (by kernel_rfl)
        with_reducible refine simE_list ?_
        with_reducible exact simL_nil
      refine simTs_or_cons ?_ ?_
      · refine simT_cmp ?_ ?_
        · with_reducible refine simE_attr X CA ?_ (by decide +kernel)
          with_reducible refine simE_sub ?_ ?_
          · with_reducible exact simE_local (by kernel_rfl) (by kernel_rfl)
          with_reducible refine simE_neg ?_
          with_reducible exact simE_int
        with_reducible exact simE_str
      exact simTs_or_nil
    refine simBk_cons ?_ ?_
    · with_reducible refine simS_assign ?_ (by kernel_rfl)
      with_reducible refine simE_or ?_
      with_reducible refine simB_or ?_ ?_
      · with_reducible refine simE_fun X F C ?_ (by kernel_rfl) (by kernel_rfl)
        with_reducible refine simL_cons ?_ ?_
        · with_reducible exact simE_local (by kernel_rfl) (by kernel_rfl)
        with_reducible exact simL_nil
      with_reducible refine simB_oneO ?_
      with_reducible exact simE_local (by kernel_rfl) (by kernel_rfl)
    refine simBk_cons ?_ ?_
    · with_reducible refine simS_unpack ?_ (.many _ _ _ _ (by decide +kernel) (fun _ => rfl) (fun _ => rfl) ⟨[_, _], rfl, fun _ => rfl⟩) (fun _ => rfl) (by intro env h; cases env; cases h; kernel_rfl)
      with_reducible refine simE_meth X CA F C ?_ ?_
      · with_reducible exact simE_local (by kernel_rfl) (by kernel_rfl)
      with_reducible exact simL_nil
    refine simBk_cons ?_ ?_
    · with_reducible refine simS_unpack ?_ (.many _ _ _ _ (by decide +kernel) (fun _ => rfl) (fun _ => rfl) ⟨[_, _, _], rfl, fun _ => rfl⟩) (fun _ => rfl) (by intro env h; cases env; cases h; kernel_rfl)
      with_reducible refine simE_fun X F C ?_ (by kernel_rfl) (by kernel_rfl)
      with_reducible refine simL_cons ?_ ?_
      · with_reducible exact simE_local (by kernel_rfl) (by kernel_rfl)
      with_reducible exact simL_nil
    refine simBk_cons ?_ ?_
    · with_reducible refine simS_expr ?_
      with_reducible refine simE_meth X CA F C ?_ ?_
      · with_reducible exact simE_local (by kernel_rfl) (by kernel_rfl)
      with_reducible refine simL_cons ?_ ?_
      · with_reducible refine simE_new X CA F C ?_ (by decide +kernel) (by kernel_rfl) (by kernel_rfl)
        with_reducible refine simL_cons ?_ ?_
        · with_reducible exact simE_local (by kernel_rfl) (by kernel_rfl)
        with_reducible refine simL_cons ?_ ?_
        · with_reducible exact simE_local (by kernel_rfl) (by kernel_rfl)
        with_reducible refine simL_cons ?_ ?_
        · with_reducible exact simE_local (by kernel_rfl) (by kernel_rfl)
        with_reducible refine simL_cons ?_ ?_
        · with_reducible exact simE_local (by kernel_rfl) (by kernel_rfl)
        with_reducible refine simL_cons ?_ ?_
        · with_reducible exact simE_local (by kernel_rfl) (by kernel_rfl)
        with_reducible refine simL_cons ?_ ?_
        · with_reducible exact simE_local (by kernel_rfl) (by kernel_rfl)
        with_reducible refine simL_cons ?_ ?_
        · with_reducible refine simE_meth X CA F C ?_ ?_
          · with_reducible exact simE_local (by kernel_rfl) (by kernel_rfl)
          with_reducible exact simL_nil
        with_reducible exact simL_nil
      with_reducible exact simL_nil
    refine simBk_cons ?_ ?_
    · with_reducible refine simS_assign ?_ (by kernel_rfl)
      with_reducible exact simE_bool
    exact simBk_nil
  refine simBk_cons ?_ ?_
  · with_reducible refine simS_ret ?_
    with_reducible exact simE_local (by kernel_rfl) (by kernel_rfl)
  exact simBk_nil

theorem w_law_trunk : SimBk x (n + 1) (scopeOf s_law_trunk) (b_law_trunk c) (bodyOf s_law_trunk) := by
  refine simBk_cons ?_ ?_
  · with_reducible refine simS_assign ?_ (by kernel_rfl)
    with_reducible refine simE_if ?_ ?_ ?_
    · refine simT_cmp ?_ ?_
      · with_reducible refine simE_blt X BO ?_ (by decide +kernel) (by kernel_rfl) (by kernel_rfl)
        with_reducible refine simL_cons ?_ ?_
        · with_reducible exact simE_local (by kernel_rfl) (by kernel_rfl)
        with_reducible exact simL_nil
      with_reducible exact simE_int
    · with_reducible refine simE_sub ?_ ?_
      · with_reducible exact simE_local (by kernel_rfl) (by kernel_rfl)
      with_reducible exact simE_int
    with_reducible exact simE_int
  refine simBk_cons ?_ ?_
  · with_reducible refine simS_assign ?_ (by kernel_rfl)
    with_reducible refine simE_if ?_ ?_ ?_
    · refine simT_cmp ?_ ?_
      · with_reducible exact simE_local (by kernel_rfl) (by kernel_rfl)
      with_reducible exact simE_int
    · with_reducible exact simE_local (by kernel_rfl) (by kernel_rfl)
    with_reducible refine simE_bin ?_ ?_
    · with_reducible exact simE_int
    with_reducible refine simE_bin ?_ ?_
    · with_reducible exact simE_int
    with_reducible exact simE_local (by kernel_rfl) (by kernel_rfl)
  refine simBk_cons ?_ ?_
  · with_reducible refine simS_if ?_ ?_ ?_
    · refine simT_cmp ?_ ?_
      · with_reducible exact simE_local (by kernel_rfl) (by kernel_rfl)
      with_reducible exact simE_int
    · refine simBk_cons ?_ ?_
      · with_reducible refine simS_ret ?_
        with_reducible refine simE_list ?_
        with_reducible refine simL_cons ?_ ?_
        · with_reducible exact simE_int
        with_reducible refine simL_cons ?_ ?_
        · with_reducible exact simE_int
        with_reducible exact simL_nil
      exact simBk_nil
    exact simBk_nil
  refine simBk_cons ?_ ?_
  · with_reducible refine simS_ret ?_
    with_reducible refine simE_list ?_
    with_reducible refine simL_cons ?_ ?_
    · with_reducible refine simE_if ?_ ?_ ?_
      · refine simT_cmp ?_ ?_
        · with_reducible exact simE_local (by kernel_rfl) (by kernel_rfl)
        with_reducible refine simE_bin ?_ ?_
        · with_reducible exact simE_int
        with_reducible exact simE_int
      · with_reducible exact simE_local (by kernel_rfl) (by kernel_rfl)
      with_reducible exact simE_int
    with_reducible refine simL_cons ?_ ?_
    · with_reducible refine simE_bin ?_ ?_
      · with_reducible refine simE_bin ?_ ?_
        · with_reducible refine simE_bin ?_ ?_
          · with_reducible refine simE_bin ?_ ?_
            · with_reducible refine simE_bin ?_ ?_
              · with_reducible exact simE_local (by kernel_rfl) (by kernel_rfl)
              with_reducible exact simE_int
            with_reducible exact simE_int
          with_reducible refine simE_blt X BO ?_ (by decide +kernel) (by kernel_rfl) (by kernel_rfl)
          with_reducible refine simL_cons ?_ ?_
          · with_reducible refine simE_cmp ?_ ?_
            · with_reducible exact simE_local (by kernel_rfl) (by kernel_rfl)
            with_reducible exact simE_int
          with_reducible exact simL_nil
        with_reducible exact simE_int
      with_reducible exact simE_int
    with_reducible exact simL_nil
  exact simBk_nil

theorem w_law_pull : SimBk x (n + 1) (scopeOf s_law_pull) (b_law_pull c) (bodyOf s_law_pull) := by
  refine simBk_cons ?_ ?_
  · with_reducible refine simS_if ?_ ?_ ?_
    · refine simT_cmp ?_ ?_
      · with_reducible refine simE_sub ?_ ?_
        · with_reducible exact simE_local (by kernel_rfl) (by kernel_rfl)
        with_reducible exact simE_int
      with_reducible exact simE_int
    · refine simBk_cons ?_ ?_
      · with_reducible refine simS_assign ?_ (by kernel_rfl)
        with_reducible refine simE_bin ?_ ?_
        · with_reducible refine simE_sub ?_ ?_
          · with_reducible exact simE_local (by kernel_rfl) (by kernel_rfl)
          with_reducible exact simE_int
        with_reducible exact simE_local (by kernel_rfl) (by kernel_rfl)
      refine simBk_cons ?_ ?_
      · with_reducible refine simS_setitem ?_ ?_ ?_
        · with_reducible exact simE_local (by kernel_rfl) (by kernel_rfl)
        · with_reducible exact simE_int
        with_reducible refine simE_bin ?_ ?_
        · with_reducible refine simE_sub ?_ ?_
          · with_reducible exact simE_local (by kernel_rfl) (by kernel_rfl)
          with_reducible exact simE_int
        with_reducible exact simE_local (by kernel_rfl) (by kernel_rfl)
      refine simBk_cons ?_ ?_
      · with_reducible refine simS_ret ?_
        with_reducible exact simE_local (by kernel_rfl) (by kernel_rfl)
      exact simBk_nil
    exact simBk_nil
  refine simBk_cons ?_ ?_
  · with_reducible refine simS_if ?_ ?_ ?_
    · refine simT_cmp ?_ ?_
      · with_reducible refine simE_sub ?_ ?_
        · with_reducible exact simE_local (by kernel_rfl) (by kernel_rfl)
        with_reducible exact simE_int
      with_reducible exact simE_int
    · refine simBk_cons ?_ ?_
      · with_reducible refine simS_ret ?_
        with_reducible exact simE_int
      exact simBk_nil
    exact simBk_nil
  refine simBk_cons ?_ ?_
  · with_reducible refine simS_setitem ?_ ?_ ?_
    · with_reducible exact simE_local (by kernel_rfl) (by kernel_rfl)
    · with_reducible exact simE_int
    with_reducible refine simE_bin ?_ ?_
    · with_reducible refine simE_bin ?_ ?_
      · with_reducible refine simE_bin ?_ ?_
        · with_reducible refine simE_sub ?_ ?_
          · with_reducible exact simE_local (by kernel_rfl) (by kernel_rfl)
          with_reducible exact simE_int
        with_reducible exact simE_int
      with_reducible exact simE_int
    with_reducible exact simE_int
  refine simBk_cons ?_ ?_
  · with_reducible refine simS_ret ?_
    with_reducible refine simE_bin ?_ ?_
    · with_reducible refine simE_bin ?_ ?_
      · with_reducible refine simE_sub ?_ ?_
        · with_reducible exact simE_local (by kernel_rfl) (by kernel_rfl)
        with_reducible exact simE_int
      with_reducible exact simE_int
    with_reducible exact simE_local (by kernel_rfl) (by kernel_rfl)
  exact simBk_nil

theorem w_law_one : SimBk x (n + 1) (scopeOf s_law_one) (b_law_one c) (bodyOf s_law_one) := by
  refine simBk_cons ?_ ?_
  · with_reducible refine simS_ret ?_
    with_reducible refine simE_sub ?_ ?_
    · with_reducible exact simE_local (by kernel_rfl) (by kernel_rfl)
    with_reducible refine simE_fun X F C ?_ (by kernel_rfl) (by kernel_rfl)
    with_reducible refine simL_cons ?_ ?_
    · with_reducible exact simE_local (by kernel_rfl) (by kernel_rfl)
    with_reducible refine simL_cons ?_ ?_
    · with_reducible refine simE_blt X BO ?_ (by decide +kernel) (by kernel_rfl) (by kernel_rfl)
      with_reducible refine simL_cons ?_ ?_
      · with_reducible exact simE_local (by kernel_rfl) (by kernel_rfl)
      with_reducible exact simL_nil
    with_reducible exact simL_nil
  exact simBk_nil

theorem w_law_named : SimBk x (n + 1) (scopeOf s_law_named) (b_law_named c) (bodyOf s_law_named) := by
  refine simBk_cons ?_ ?_
  · with_reducible refine simS_assign ?_ (by kernel_rfl)
    with_reducible exact simE_str
  refine simBk_cons ?_ ?_
  · with_reducible refine simS_ret ?_
    with_reducible refine simE_bin ?_ ?_
    · with_reducible refine simE_meth X CA F C ?_ ?_
      · with_reducible exact simE_local (by kernel_rfl) (by kernel_rfl)
      with_reducible refine simL_cons ?_ ?_
      · with_reducible exact simE_str
      with_reducible exact simL_nil
    with_reducible refine simE_list ?_
    with_reducible refine simL_cons ?_ ?_
    · with_reducible exact simE_str
    with_reducible refine simL_cons ?_ ?_
    · with_reducible exact simE_str
    with_reducible refine simL_cons ?_ ?_
    · with_reducible exact simE_str
    with_reducible refine simL_cons ?_ ?_
    · with_reducible exact simE_str
    with_reducible refine simL_cons ?_ ?_
    · with_reducible exact simE_str
    with_reducible exact simL_nil
  exact simBk_nil

theorem w_law_escape : SimBk x (n + 1) (scopeOf s_law_escape) (b_law_escape c) (bodyOf s_law_escape) := by
  refine simBk_cons ?_ ?_
  · with_reducible refine simS_assign ?_ (by kernel_rfl)
    with_reducible refine simE_fun X F C ?_ (by kernel_rfl) (by kernel_rfl)
    with_reducible refine simL_cons ?_ ?_
    · with_reducible exact simE_local (by kernel_rfl) (by kernel_rfl)
    with_reducible refine simL_cons ?_ ?_
    · with_reducible exact simE_int
    with_reducible exact simL_nil
  refine simBk_cons ?_ ?_
  · with_reducible refine simS_if ?_ ?_ ?_
    · refine simT_cmp ?_ ?_
      · with_reducible exact simE_local (by kernel_rfl) (by kernel_rfl)
      with_reducible exact simE_int
    · refine simBk_cons ?_ ?_
      · with_reducible refine simS_ret ?_
        with_reducible refine simE_fun X F C ?_ (by kernel_rfl) (by kernel_rfl)
        with_reducible refine simL_cons ?_ ?_
        · with_reducible exact simE_local (by kernel_rfl) (by kernel_rfl)
        with_reducible refine simL_cons ?_ ?_
        · with_reducible refine simE_list ?_
          with_reducible refine simL_cons ?_ ?_
          · with_reducible refine simE_tup ?_
            with_reducible refine simL_cons ?_ ?_
            · with_reducible exact simE_str
            with_reducible refine simL_cons ?_ ?_
            · with_reducible exact simE_int
            with_reducible exact simL_nil
          with_reducible refine simL_cons ?_ ?_
          · with_reducible refine simE_tup ?_
            with_reducible refine simL_cons ?_ ?_
            · with_reducible exact simE_str
            with_reducible refine simL_cons ?_ ?_
            · with_reducible exact simE_int
            with_reducible exact simL_nil
          with_reducible refine simL_cons ?_ ?_
          · with_reducible refine simE_tup ?_
            with_reducible refine simL_cons ?_ ?_
            · with_reducible exact simE_str
            with_reducible refine simL_cons ?_ ?_
            · with_reducible exact simE_int
            with_reducible exact simL_nil
          with_reducible refine simL_cons ?_ ?_
          · with_reducible refine simE_tup ?_
            with_reducible refine simL_cons ?_ ?_
            · with_reducible exact simE_str
            with_reducible refine simL_cons ?_ ?_
            · with_reducible exact simE_int
            with_reducible exact simL_nil
          with_reducible refine simL_cons ?_ ?_
          · with_reducible refine simE_tup ?_
            with_reducible refine simL_cons ?_ ?_
            · with_reducible exact simE_str
            with_reducible refine simL_cons ?_ ?_
            · with_reducible exact simE_int
            with_reducible exact simL_nil
          with_reducible refine simL_cons ?_ ?_
          · with_reducible refine simE_tup ?_
            with_reducible refine simL_cons ?_ ?_
            · with_reducible exact simE_str
            with_reducible refine simL_cons ?_ ?_
            · with_reducible exact simE_int
            with_reducible exact simL_nil
          with_reducible refine simL_cons ?_ ?_
          · with_reducible refine simE_tup ?_
            with_reducible refine simL_cons ?_ ?_
            · with_reducible exact simE_str
            with_reducible refine simL_cons ?_ ?_
            · with_reducible exact simE_int
            with_reducible exact simL_nil
          with_reducible refine simL_cons ?_ ?_
          · with_reducible refine simE_tup ?_
            with_reducible refine simL_cons ?_ ?_
            · with_reducible exact simE_str
            with_reducible refine simL_cons ?_ ?_
            · with_reducible exact simE_int
            with_reducible exact simL_nil
          with_reducible refine simL_cons ?_ ?_
          · with_reducible refine simE_tup ?_
            with_reducible refine simL_cons ?_ ?_
            · with_reducible exact simE_str
            with_reducible refine simL_cons ?_ ?_
            · with_reducible exact simE_int
            with_reducible exact simL_nil
          with_reducible refine simL_cons ?_ ?_
          · with_reducible refine simE_tup ?_
            with_reducible refine simL_cons ?_ ?_
            · with_reducible exact simE_str
            with_reducible refine simL_cons ?_ ?_
            · with_reducible exact simE_int
            with_reducible exact simL_nil
          with_reducible exact simL_nil
        with_reducible exact simL_nil
      exact simBk_nil
    exact simBk_nil
  refine simBk_cons ?_ ?_
  · with_reducible refine simS_if ?_ ?_ ?_
    · refine simT_cmp ?_ ?_
      · with_reducible exact simE_local (by kernel_rfl) (by kernel_rfl)
      with_reducible exact simE_int
    · refine simBk_cons ?_ ?_
      · with_reducible refine simS_assign ?_ (by kernel_rfl)
        with_reducible refine simE_fun X F C ?_ (by kernel_rfl) (by kernel_rfl)
        with_reducible exact simL_nil
      refine simBk_cons ?_ ?_
      · with_reducible refine simS_assign ?_ (by kernel_rfl)
        with_reducible refine simE_fun X F C ?_ (by kernel_rfl) (by kernel_rfl)
        with_reducible refine simL_cons ?_ ?_
        · with_reducible exact simE_local (by kernel_rfl) (by kernel_rfl)
        with_reducible refine simL_cons ?_ ?_
        · with_reducible refine simE_bin ?_ ?_
          · with_reducible refine simE_blt X BO ?_ (by decide +kernel) (by kernel_rfl) (by kernel_rfl)
            with_reducible refine simL_cons ?_ ?_
            · with_reducible exact simE_local (by kernel_rfl) (by kernel_rfl)
            with_reducible exact simL_nil
          with_reducible exact simE_int
        with_reducible exact simL_nil
      refine simBk_cons ?_ ?_
      · with_reducible refine simS_ret ?_
        with_reducible refine simE_if ?_ ?_ ?_
        · refine simT_cmp ?_ ?_
          · with_reducible exact simE_local (by kernel_rfl) (by kernel_rfl)
          with_reducible refine simE_blt X BO ?_ (by decide +kernel) (by kernel_rfl) (by kernel_rfl)
          with_reducible refine simL_cons ?_ ?_
          · with_reducible exact simE_local (by kernel_rfl) (by kernel_rfl)
          with_reducible exact simL_nil
        · with_reducible refine simE_tup ?_
          with_reducible refine simL_cons ?_ ?_
          · with_reducible refine simE_bin ?_ ?_
            · with_reducible exact simE_str
            with_reducible refine simE_sub ?_ ?_
            · with_reducible exact simE_local (by kernel_rfl) (by kernel_rfl)
            with_reducible exact simE_local (by kernel_rfl) (by kernel_rfl)
          with_reducible refine simL_cons ?_ ?_
          · with_reducible exact simE_local (by kernel_rfl) (by kernel_rfl)
          with_reducible exact simL_nil
        with_reducible refine simE_tup ?_
        with_reducible refine simL_cons ?_ ?_
        · with_reducible exact simE_str
        with_reducible refine simL_cons ?_ ?_
        · with_reducible exact simE_int
        with_reducible exact simL_nil
      exact simBk_nil
    exact simBk_nil
  refine simBk_cons ?_ ?_
  · with_reducible refine simS_if ?_ ?_ ?_
    · refine simT_cmp ?_ ?_
      · with_reducible exact simE_local (by kernel_rfl) (by kernel_rfl)
      with_reducible exact simE_int
    · refine simBk_cons ?_ ?_
      · with_reducible refine simS_assign ?_ (by kernel_rfl)
        with_reducible refine simE_fun X F C ?_ (by kernel_rfl) (by kernel_rfl)
        with_reducible refine simL_cons ?_ ?_
        · with_reducible exact simE_local (by kernel_rfl) (by kernel_rfl)
        with_reducible refine simL_cons ?_ ?_
        · with_reducible exact simE_int
        with_reducible exact simL_nil
      refine simBk_cons ?_ ?_
      · with_reducible refine simS_ret ?_
        with_reducible refine simE_tup ?_
        with_reducible refine simL_cons ?_ ?_
        · with_reducible refine simE_bin ?_ ?_
          · with_reducible exact simE_str
          with_reducible refine simE_sub ?_ ?_
          · with_reducible exact simE_str
          with_reducible exact simE_local (by kernel_rfl) (by kernel_rfl)
        with_reducible refine simL_cons ?_ ?_
        · with_reducible exact simE_local (by kernel_rfl) (by kernel_rfl)
        with_reducible exact simL_nil
      exact simBk_nil
    exact simBk_nil
  refine simBk_cons ?_ ?_
  · with_reducible refine simS_assign ?_ (by kernel_rfl)
    with_reducible refine simE_fun X F C ?_ (by kernel_rfl) (by kernel_rfl)
    with_reducible refine simL_cons ?_ ?_
    · with_reducible exact simE_local (by kernel_rfl) (by kernel_rfl)
    with_reducible refine simL_cons ?_ ?_
    · with_reducible refine simE_list ?_
      with_reducible refine simL_cons ?_ ?_
      · with_reducible exact simE_int
      with_reducible refine simL_cons ?_ ?_
      · with_reducible exact simE_int
      with_reducible refine simL_cons ?_ ?_
      · with_reducible exact simE_int
      with_reducible refine simL_cons ?_ ?_
      · with_reducible exact simE_int
      with_reducible refine simL_cons ?_ ?_
      · with_reducible exact simE_int
      with_reducible refine simL_cons ?_ ?_
      · with_reducible exact simE_int
      with_reducible refine simL_cons ?_ ?_
      · with_reducible refine simE_fun X F C ?_ (by kernel_rfl) (by kernel_rfl)
        with_reducible refine simL_cons ?_ ?_
        · with_reducible exact simE_local (by kernel_rfl) (by kernel_rfl)
        with_reducible refine simL_cons ?_ ?_
        · with_reducible exact simE_int
        with_reducible exact simL_nil
      with_reducible exact simL_nil
    with_reducible exact simL_nil
  refine simBk_cons ?_ ?_
  · with_reducible refine simS_if ?_ ?_ ?_
    · refine simT_cmp ?_ ?_
      · with_reducible exact simE_local (by kernel_rfl) (by kernel_rfl)
      with_reducible exact simE_int
    · refine simBk_cons ?_ ?_
      · with_reducible refine simS_ret ?_
        with_reducible refine simE_tup ?_
        with_reducible refine simL_cons ?_ ?_
        · with_reducible refine simE_bin ?_ ?_
          · with_reducible refine simE_bin ?_ ?_
            · with_reducible exact simE_str
            with_reducible refine simE_bin ?_ ?_
            · with_reducible exact simE_str
            with_reducible refine simE_fun X F C ?_ (by kernel_rfl) (by kernel_rfl)
            with_reducible refine simL_cons ?_ ?_
            · with_reducible exact simE_local (by kernel_rfl) (by kernel_rfl)
            with_reducible refine simL_cons ?_ ?_
            · with_reducible exact simE_int
            with_reducible exact simL_nil
          with_reducible refine simE_blt X BO ?_ (by decide +kernel) (by kernel_rfl) (by kernel_rfl)
          with_reducible refine simL_cons ?_ ?_
          · with_reducible exact simE_local (by kernel_rfl) (by kernel_rfl)
          with_reducible exact simL_nil
        with_reducible refine simL_cons ?_ ?_
        · with_reducible exact simE_local (by kernel_rfl) (by kernel_rfl)
        with_reducible exact simL_nil
      exact simBk_nil
    exact simBk_nil
  refine simBk_cons ?_ ?_
  · with_reducible refine simS_ret ?_
    with_reducible refine simE_fun X F C ?_ (by kernel_rfl) (by kernel_rfl)
    with_reducible refine simL_cons ?_ ?_
    · with_reducible exact simE_local (by kernel_rfl) (by kernel_rfl)
    with_reducible refine simL_cons ?_ ?_
    · with_reducible refine simE_fun X F C ?_ (by kernel_rfl) (by kernel_rfl)
      with_reducible refine simL_cons ?_ ?_
      · with_reducible exact simE_local (by kernel_rfl) (by kernel_rfl)
      with_reducible refine simL_cons ?_ ?_
      · with_reducible refine simE_list ?_
        with_reducible refine simL_cons ?_ ?_
        · with_reducible exact simE_int
        with_reducible refine simL_cons ?_ ?_
        · with_reducible exact simE_int
        with_reducible exact simL_nil
      with_reducible exact simL_nil
    with_reducible exact simL_nil
  exact simBk_nil

theorem w_law_based : SimBk x (n + 1) (scopeOf s_law_based) (b_law_based c) (bodyOf s_law_based) := by
  refine simBk_cons ?_ ?_
  · with_reducible refine simS_swap ?_ (by decide +kernel) (fun _ => rfl) (by intro env h; cases env; cases h; kernel_rfl)
    with_reducible refine simE_tup ?_
    with_reducible refine simL_cons ?_ ?_
    · with_reducible refine simE_sub ?_ ?_
      · with_reducible exact simE_str
      with_reducible refine simE_bin ?_ ?_
      · with_reducible exact simE_local (by kernel_rfl) (by kernel_rfl)
      with_reducible exact simE_local (by kernel_rfl) (by kernel_rfl)
    with_reducible refine simL_cons ?_ ?_
    · with_reducible refine simE_bin ?_ ?_
      · with_reducible exact simE_local (by kernel_rfl) (by kernel_rfl)
      with_reducible exact simE_local (by kernel_rfl) (by kernel_rfl)
    with_reducible exact simL_nil
  refine simBk_cons ?_ ?_
  · with_reducible refine simS_while ?_ ?_
    · refine simT_cmp ?_ ?_
      · with_reducible exact simE_local (by kernel_rfl) (by kernel_rfl)
      with_reducible exact simE_int
    refine simBk_cons ?_ ?_
    · with_reducible refine simS_swap ?_ (by decide +kernel) (fun _ => rfl) (by intro env h; cases env; cases h; kernel_rfl)
      with_reducible refine simE_tup ?_
      with_reducible refine simL_cons ?_ ?_
      · with_reducible refine simE_bin ?_ ?_
        · with_reducible refine simE_sub ?_ ?_
          · with_reducible exact simE_str
          with_reducible refine simE_bin ?_ ?_
          · with_reducible exact simE_local (by kernel_rfl) (by kernel_rfl)
          with_reducible exact simE_local (by kernel_rfl) (by kernel_rfl)
        with_reducible exact simE_local (by kernel_rfl) (by kernel_rfl)
      with_reducible refine simL_cons ?_ ?_
      · with_reducible refine simE_bin ?_ ?_
        · with_reducible exact simE_local (by kernel_rfl) (by kernel_rfl)
        with_reducible exact simE_local (by kernel_rfl) (by kernel_rfl)
      with_reducible exact simL_nil
    exact simBk_nil
  refine simBk_cons ?_ ?_
  · with_reducible refine simS_ret ?_
    with_reducible refine simE_tup ?_
    with_reducible refine simL_cons ?_ ?_
    · with_reducible refine simE_bin ?_ ?_
      · with_reducible refine simE_if ?_ ?_ ?_
        · refine simT_cmp ?_ ?_
          · with_reducible exact simE_local (by kernel_rfl) (by kernel_rfl)
          with_reducible exact simE_int
        · with_reducible exact simE_str
        with_reducible exact simE_str
      with_reducible exact simE_local (by kernel_rfl) (by kernel_rfl)
    with_reducible refine simL_cons ?_ ?_
    · with_reducible exact simE_local (by kernel_rfl) (by kernel_rfl)
    with_reducible exact simL_nil
  exact simBk_nil

theorem w_law_text : SimBk x (n + 1) (scopeOf s_law_text) (b_law_text c) (bodyOf s_law_text) := by
  refine simBk_cons ?_ ?_
  · with_reducible refine simS_unpack ?_ (.many _ _ _ _ (by decide +kernel) (fun _ => rfl) (fun _ => rfl) ⟨[_, _], rfl, fun _ => rfl⟩) (fun _ => rfl) (by intro env h; cases env; cases h; kernel_rfl)
    with_reducible refine simE_tup ?_
    with_reducible refine simL_cons ?_ ?_
    · with_reducible exact simE_str
    with_reducible refine simL_cons ?_ ?_
    · with_reducible exact simE_str
    with_reducible exact simL_nil
  refine simBk_cons ?_ ?_
  · with_reducible refine simS_for ?_ (.one _ _ (by kernel_rfl)) ?_
    · with_reducible refine simE_blt X BO ?_ (by decide +kernel) (by kernel_rfl) (by kernel_rfl)
      with_reducible refine simL_cons ?_ ?_
      · with_reducible refine simE_fun X F C ?_ (by kernel_rfl) (by kernel_rfl)
        with_reducible refine simL_cons ?_ ?_
        · with_reducible exact simE_local (by kernel_rfl) (by kernel_rfl)
        with_reducible refine simL_cons ?_ ?_
        · with_reducible exact simE_int
        with_reducible exact simL_nil
      with_reducible exact simL_nil
    refine simBk_cons ?_ ?_
    · with_reducible refine simS_if ?_ ?_ ?_
      · refine simT_cmp ?_ ?_
        · with_reducible refine simE_fun X F C ?_ (by kernel_rfl) (by kernel_rfl)
          with_reducible refine simL_cons ?_ ?_
          · with_reducible exact simE_local (by kernel_rfl) (by kernel_rfl)
          with_reducible refine simL_cons ?_ ?_
          · with_reducible exact simE_int
          with_reducible exact simL_nil
        with_reducible exact simE_int
      · refine simBk_cons ?_ ?_
        · with_reducible refine simS_assign ?_ (by kernel_rfl)
          with_reducible refine simE_fun X F C ?_ (by kernel_rfl) (by kernel_rfl)
          with_reducible refine simL_cons ?_ ?_
          · with_reducible exact simE_local (by kernel_rfl) (by kernel_rfl)
          with_reducible refine simL_cons ?_ ?_
          · with_reducible refine simE_list ?_
            with_reducible refine simL_cons ?_ ?_
            · with_reducible exact simE_str
            with_reducible refine simL_cons ?_ ?_
            · with_reducible exact simE_str
            with_reducible refine simL_cons ?_ ?_
            · with_reducible exact simE_str
            with_reducible refine simL_cons ?_ ?_
            · with_reducible exact simE_str
            with_reducible refine simL_cons ?_ ?_
            · with_reducible exact simE_str
            with_reducible refine simL_cons ?_ ?_
            · with_reducible refine simE_blt X BO ?_ (by decide +kernel) (by kernel_rfl) (by kernel_rfl)
              with_reducible refine simL_cons ?_ ?_
              · with_reducible exact simE_int
              with_reducible exact simL_nil
            with_reducible exact simL_nil
          with_reducible exact simL_nil
        refine simBk_cons ?_ ?_
        · with_reducible refine simS_swap ?_ (by decide +kernel) (fun _ => rfl) (by intro env h; cases env; cases h; kernel_rfl)
          with_reducible refine simE_tup ?_
          with_reducible refine simL_cons ?_ ?_
          · with_reducible refine simE_bin ?_ ?_
            · with_reducible exact simE_local (by kernel_rfl) (by kernel_rfl)
            with_reducible exact simE_local (by kernel_rfl) (by kernel_rfl)
          with_reducible refine simL_cons ?_ ?_
          · with_reducible refine simE_bin ?_ ?_
            · with_reducible exact simE_local (by kernel_rfl) (by kernel_rfl)
            with_reducible exact simE_local (by kernel_rfl) (by kernel_rfl)
          with_reducible exact simL_nil
        exact simBk_nil
      refine simBk_cons ?_ ?_
      · with_reducible refine simS_unpack ?_ (.many _ _ _ _ (by decide +kernel) (fun _ => rfl) (fun _ => rfl) ⟨[_, _], rfl, fun _ => rfl⟩) (fun _ => rfl) (by intro env h; cases env; cases h; kernel_rfl)
        with_reducible refine simE_fun X F C ?_ (by kernel_rfl) (by kernel_rfl)
        with_reducible refine simL_cons ?_ ?_
        · with_reducible exact simE_local (by kernel_rfl) (by kernel_rfl)
        with_reducible exact simL_nil
      refine simBk_cons ?_ ?_
      · with_reducible refine simS_swap ?_ (by decide +kernel) (fun _ => rfl) (by intro env h; cases env; cases h; kernel_rfl)
        with_reducible refine simE_tup ?_
        with_reducible refine simL_cons ?_ ?_
        · with_reducible refine simE_bin ?_ ?_
          · with_reducible exact simE_local (by kernel_rfl) (by kernel_rfl)
          with_reducible exact simE_local (by kernel_rfl) (by kernel_rfl)
        with_reducible refine simL_cons ?_ ?_
        · with_reducible refine simE_bin ?_ ?_
          · with_reducible exact simE_local (by kernel_rfl) (by kernel_rfl)
          with_reducible refine simE_blt X BO ?_ (by decide +kernel) (by kernel_rfl) (by kernel_rfl)
          with_reducible refine simL_cons ?_ ?_
          · with_reducible exact simE_local (by kernel_rfl) (by kernel_rfl)
          with_reducible exact simL_nil
        with_reducible exact simL_nil
      exact simBk_nil
    exact simBk_nil
  refine simBk_cons ?_ ?_
  · with_reducible refine simS_ret ?_
    with_reducible refine simE_tup ?_
    with_reducible refine simL_cons ?_ ?_
    · with_reducible exact simE_str
    with_reducible refine simL_cons ?_ ?_
    · with_reducible refine simE_bin ?_ ?_
      · with_reducible refine simE_bin ?_ ?_
        · with_reducible exact simE_str
        with_reducible exact simE_local (by kernel_rfl) (by kernel_rfl)
      with_reducible exact simE_str
    with_reducible refine simL_cons ?_ ?_
    · with_reducible exact simE_local (by kernel_rfl) (by kernel_rfl)
    with_reducible exact simL_nil
  exact simBk_nil

theorem w_law_sign : SimBk x (n + 1) (scopeOf s_law_sign) (b_law_sign c) (bodyOf s_law_sign) := by
  refine simBk_cons ?_ ?_
  · with_reducible refine simS_if ?_ ?_ ?_
    · refine simT_cmp ?_ ?_
      · with_reducible refine simE_fun X F C ?_ (by kernel_rfl) (by kernel_rfl)
        with_reducible refine simL_cons ?_ ?_
        · with_reducible exact simE_local (by kernel_rfl) (by kernel_rfl)
        with_reducible refine simL_cons ?_ ?_
        · with_reducible exact simE_int
        with_reducible exact simL_nil
      with_reducible exact simE_int
    · refine simBk_cons ?_ ?_
      · with_reducible refine simS_assign ?_ (by kernel_rfl)
        with_reducible refine simE_fun X F C ?_ (by kernel_rfl) (by kernel_rfl)
        with_reducible refine simL_cons ?_ ?_
        · with_reducible exact simE_local (by kernel_rfl) (by kernel_rfl)
        with_reducible refine simL_cons ?_ ?_
        · with_reducible refine simE_list ?_
          with_reducible refine simL_cons ?_ ?_
          · with_reducible exact simE_str
          with_reducible refine simL_cons ?_ ?_
          · with_reducible exact simE_str
          with_reducible refine simL_cons ?_ ?_
          · with_reducible exact simE_str
          with_reducible refine simL_cons ?_ ?_
          · with_reducible exact simE_str
          with_reducible refine simL_cons ?_ ?_
          · with_reducible exact simE_str
          with_reducible refine simL_cons ?_ ?_
          · with_reducible refine simE_blt X BO ?_ (by decide +kernel) (by kernel_rfl) (by kernel_rfl)
            with_reducible refine simL_cons ?_ ?_
            · with_reducible exact simE_int
            with_reducible exact simL_nil
          with_reducible refine simL_cons ?_ ?_
          · with_reducible exact simE_str
          with_reducible exact simL_nil
        with_reducible exact simL_nil
      refine simBk_cons ?_ ?_
      · with_reducible refine simS_ret ?_
        with_reducible refine simE_tup ?_
        with_reducible refine simL_cons ?_ ?_
        · with_reducible exact simE_str
        with_reducible refine simL_cons ?_ ?_
        · with_reducible refine simE_bin ?_ ?_
          · with_reducible refine simE_bin ?_ ?_
            · with_reducible exact simE_str
            with_reducible exact simE_local (by kernel_rfl) (by kernel_rfl)
          with_reducible exact simE_str
        with_reducible refine simL_cons ?_ ?_
        · with_reducible exact simE_local (by kernel_rfl) (by kernel_rfl)
        with_reducible exact simL_nil
      exact simBk_nil
    exact simBk_nil
  refine simBk_cons ?_ ?_
  · with_reducible refine simS_unpack ?_ (.many _ _ _ _ (by decide +kernel) (fun _ => rfl) (fun _ => rfl) ⟨[_, _], rfl, fun _ => rfl⟩) (fun _ => rfl) (by intro env h; cases env; cases h; kernel_rfl)
    with_reducible refine simE_fun X F C ?_ (by kernel_rfl) (by kernel_rfl)
    with_reducible refine simL_cons ?_ ?_
    · with_reducible exact simE_local (by kernel_rfl) (by kernel_rfl)
    with_reducible exact simL_nil
  refine simBk_cons ?_ ?_
  · with_reducible refine simS_ret ?_
    with_reducible refine simE_tup ?_
    with_reducible refine simL_cons ?_ ?_
    · with_reducible exact simE_str
    with_reducible refine simL_cons ?_ ?_
    · with_reducible refine simE_bin ?_ ?_
      · with_reducible refine simE_bin ?_ ?_
        · with_reducible exact simE_str
        with_reducible exact simE_local (by kernel_rfl) (by kernel_rfl)
      with_reducible exact simE_str
    with_reducible refine simL_cons ?_ ?_
    · with_reducible refine simE_blt X BO ?_ (by decide +kernel) (by kernel_rfl) (by kernel_rfl)
      with_reducible refine simL_cons ?_ ?_
      · with_reducible exact simE_local (by kernel_rfl) (by kernel_rfl)
      with_reducible exact simL_nil
    with_reducible exact simL_nil
  exact simBk_nil

theorem w_law_name : SimBk x (n + 1) (scopeOf s_law_name) (b_law_name c) (bodyOf s_law_name) := by
  refine simBk_cons ?_ ?_
  · with_reducible refine simS_assign ?_ (by kernel_rfl)
    with_reducible exact simE_str
  refine simBk_cons ?_ ?_
  · with_reducible refine simS_swap ?_ (by decide +kernel) (fun _ => rfl) (by intro env h; cases env; cases h; kernel_rfl)
    with_reducible refine simE_tup ?_
    with_reducible refine simL_cons ?_ ?_
    · with_reducible refine simE_fun X F C ?_ (by kernel_rfl) (by kernel_rfl)
      with_reducible refine simL_cons ?_ ?_
      · with_reducible exact simE_local (by kernel_rfl) (by kernel_rfl)
      with_reducible refine simL_cons ?_ ?_
      · with_reducible refine simE_bin ?_ ?_
        · with_reducible refine simE_meth X CA F C ?_ ?_
          · with_reducible exact simE_local (by kernel_rfl) (by kernel_rfl)
          with_reducible refine simL_cons ?_ ?_
          · with_reducible exact simE_str
          with_reducible exact simL_nil
        with_reducible refine simE_list ?_
        with_reducible refine simL_cons ?_ ?_
        · with_reducible exact simE_str
        with_reducible refine simL_cons ?_ ?_
        · with_reducible exact simE_str
        with_reducible exact simL_nil
      with_reducible exact simL_nil
    with_reducible refine simL_cons ?_ ?_
    · with_reducible refine simE_fun X F C ?_ (by kernel_rfl) (by kernel_rfl)
      with_reducible refine simL_cons ?_ ?_
      · with_reducible exact simE_local (by kernel_rfl) (by kernel_rfl)
      with_reducible refine simL_cons ?_ ?_
      · with_reducible exact simE_int
      with_reducible exact simL_nil
    with_reducible exact simL_nil
  refine simBk_cons ?_ ?_
  · with_reducible refine simS_if ?_ ?_ ?_
    · refine simT_cmp ?_ ?_
      · with_reducible exact simE_local (by kernel_rfl) (by kernel_rfl)
      with_reducible exact simE_int
    · refine simBk_cons ?_ ?_
      · with_reducible refine simS_ret ?_
        with_reducible refine simE_tup ?_
        with_reducible refine simL_cons ?_ ?_
        · with_reducible exact simE_str
        with_reducible refine simL_cons ?_ ?_
        · with_reducible exact simE_local (by kernel_rfl) (by kernel_rfl)
        with_reducible refine simL_cons ?_ ?_
        · with_reducible exact simE_none
        with_reducible exact simL_nil
      exact simBk_nil
    exact simBk_nil
  refine simBk_cons ?_ ?_
  · with_reducible refine simS_ret ?_
    with_reducible refine simE_tup ?_
    with_reducible refine simL_cons ?_ ?_
    · with_reducible exact simE_str
    with_reducible refine simL_cons ?_ ?_
    · with_reducible refine simE_if ?_ ?_ ?_
      · refine simT_cmp ?_ ?_
        · with_reducible exact simE_local (by kernel_rfl) (by kernel_rfl)
        with_reducible exact simE_int
      · with_reducible refine simE_bin ?_ ?_
        · with_reducible exact simE_str
        with_reducible exact simE_local (by kernel_rfl) (by kernel_rfl)
      with_reducible refine simE_bin ?_ ?_
      · with_reducible exact simE_local (by kernel_rfl) (by kernel_rfl)
      with_reducible refine simE_fun X F C ?_ (by kernel_rfl) (by kernel_rfl)
      with_reducible refine simL_cons ?_ ?_
      · with_reducible exact simE_local (by kernel_rfl) (by kernel_rfl)
      with_reducible refine simL_cons ?_ ?_
      · with_reducible refine simE_list ?_
        with_reducible refine simL_cons ?_ ?_
        · with_reducible exact simE_str
        with_reducible refine simL_cons ?_ ?_
        · with_reducible exact simE_str
        with_reducible refine simL_cons ?_ ?_
        · with_reducible exact simE_str
        with_reducible refine simL_cons ?_ ?_
        · with_reducible exact simE_str
        with_reducible exact simL_nil
      with_reducible exact simL_nil
    with_reducible refine simL_cons ?_ ?_
    · with_reducible exact simE_none
    with_reducible exact simL_nil
  exact simBk_nil

theorem w_law_operator : SimBk x (n + 1) (scopeOf s_law_operator) (b_law_operator c) (bodyOf s_law_operator) := by
  refine simBk_cons ?_ ?_
  · with_reducible refine simS_assign ?_ (by kernel_rfl)
    with_reducible refine simE_list ?_
    with_reducible refine simL_cons ?_ ?_
    · with_reducible exact simE_str
    with_reducible refine simL_cons ?_ ?_
    · with_reducible exact simE_str
    with_reducible refine simL_cons ?_ ?_
    · with_reducible exact simE_str
    with_reducible refine simL_cons ?_ ?_
    · with_reducible exact simE_str
    with_reducible refine simL_cons ?_ ?_
    · with_reducible exact simE_str
    with_reducible refine simL_cons ?_ ?_
    · with_reducible exact simE_str
    with_reducible refine simL_cons ?_ ?_
    · with_reducible exact simE_str
    with_reducible refine simL_cons ?_ ?_
    · with_reducible exact simE_str
    with_reducible refine simL_cons ?_ ?_
    · with_reducible exact simE_str
    with_reducible refine simL_cons ?_ ?_
    · with_reducible exact simE_str
    with_reducible refine simL_cons ?_ ?_
    · with_reducible exact simE_str
    with_reducible exact simL_nil
  refine simBk_cons ?_ ?_
  · with_reducible refine simS_assign ?_ (by kernel_rfl)
    with_reducible refine simE_bin ?_ ?_
    · with_reducible refine simE_fun X F C ?_ (by kernel_rfl) (by kernel_rfl)
      with_reducible refine simL_cons ?_ ?_
      · with_reducible exact simE_local (by kernel_rfl) (by kernel_rfl)
      with_reducible refine simL_cons ?_ ?_
      · with_reducible exact simE_local (by kernel_rfl) (by kernel_rfl)
      with_reducible exact simL_nil
    with_reducible refine simE_fun X F C ?_ (by kernel_rfl) (by kernel_rfl)
    with_reducible refine simL_cons ?_ ?_
    · with_reducible exact simE_local (by kernel_rfl) (by kernel_rfl)
    with_reducible refine simL_cons ?_ ?_
    · with_reducible refine simE_list ?_
      with_reducible refine simL_cons ?_ ?_
      · with_reducible exact simE_str
      with_reducible refine simL_cons ?_ ?_
      · with_reducible exact simE_str
      with_reducible refine simL_cons ?_ ?_
      · with_reducible exact simE_str
      with_reducible refine simL_cons ?_ ?_
      · with_reducible exact simE_str
      with_reducible refine simL_cons ?_ ?_
      · with_reducible exact simE_str
      with_reducible refine simL_cons ?_ ?_
      · with_reducible exact simE_str
      with_reducible exact simL_nil
    with_reducible exact simL_nil
  refine simBk_cons ?_ ?_
  · with_reducible refine simS_if ?_ ?_ ?_
    · refine simT_cmp ?_ ?_
      · with_reducible exact simE_local (by kernel_rfl) (by kernel_rfl)
      with_reducible exact simE_local (by kernel_rfl) (by kernel_rfl)
    · refine simBk_cons ?_ ?_
      · with_reducible refine simS_ret ?_
        with_reducible refine simE_tup ?_
        with_reducible refine simL_cons ?_ ?_
        · with_reducible exact simE_str
        with_reducible refine simL_cons ?_ ?_
        · with_reducible exact simE_local (by kernel_rfl) (by kernel_rfl)
        with_reducible refine simL_cons ?_ ?_
        · with_reducible exact simE_none
        with_reducible exact simL_nil
      exact simBk_nil
    exact simBk_nil
  refine simBk_cons ?_ ?_
  · with_reducible refine simS_ret ?_
    with_reducible refine simE_tup ?_
    with_reducible refine simL_cons ?_ ?_
    · with_reducible refine simE_if ?_ ?_ ?_
      · refine simT_cmp ?_ ?_
        · with_reducible refine simE_sub ?_ ?_
          · with_reducible exact simE_local (by kernel_rfl) (by kernel_rfl)
          with_reducible exact simE_int
        with_reducible exact simE_str
      · with_reducible exact simE_str
      with_reducible exact simE_str
    with_reducible refine simL_cons ?_ ?_
    · with_reducible exact simE_local (by kernel_rfl) (by kernel_rfl)
    with_reducible refine simL_cons ?_ ?_
    · with_reducible exact simE_none
    with_reducible exact simL_nil
  exact simBk_nil

theorem w_law_word : SimBk x (n + 1) (scopeOf s_law_word) (b_law_word c) (bodyOf s_law_word) := by
  refine simBk_cons ?_ ?_
  · with_reducible refine simS_assign ?_ (by kernel_rfl)
    with_reducible refine simE_fun X F C ?_ (by kernel_rfl) (by kernel_rfl)
    with_reducible refine simL_cons ?_ ?_
    · with_reducible exact simE_local (by kernel_rfl) (by kernel_rfl)
    with_reducible refine simL_cons ?_ ?_
    · with_reducible exact simE_int
    with_reducible exact simL_nil
  refine simBk_cons ?_ ?_
  · with_reducible refine simS_if ?_ ?_ ?_
    · refine simT_cmp ?_ ?_
      · with_reducible exact simE_local (by kernel_rfl) (by kernel_rfl)
      with_reducible exact simE_int
    · refine simBk_cons ?_ ?_
      · with_reducible refine simS_ret ?_
        with_reducible refine simE_fun X F C ?_ (by kernel_rfl) (by kernel_rfl)
        with_reducible refine simL_cons ?_ ?_
        · with_reducible exact simE_local (by kernel_rfl) (by kernel_rfl)
        with_reducible exact simL_nil
      exact simBk_nil
    exact simBk_nil
  refine simBk_cons ?_ ?_
  · with_reducible refine simS_if ?_ ?_ ?_
    · refine simT_cmp ?_ ?_
      · with_reducible exact simE_local (by kernel_rfl) (by kernel_rfl)
      with_reducible exact simE_int
    · refine simBk_cons ?_ ?_
      · with_reducible refine simS_ret ?_
        with_reducible refine simE_fun X F C ?_ (by kernel_rfl) (by kernel_rfl)
        with_reducible refine simL_cons ?_ ?_
        · with_reducible exact simE_local (by kernel_rfl) (by kernel_rfl)
        with_reducible exact simL_nil
      exact simBk_nil
    exact simBk_nil
  refine simBk_cons ?_ ?_
  · with_reducible refine simS_if ?_ ?_ ?_
    · refine simT_cmp ?_ ?_
      · with_reducible exact simE_local (by kernel_rfl) (by kernel_rfl)
      with_reducible exact simE_int
    · refine simBk_cons ?_ ?_
      · with_reducible refine simS_ret ?_
        with_reducible refine simE_fun X F C ?_ (by kernel_rfl) (by kernel_rfl)
        with_reducible refine simL_cons ?_ ?_
        · with_reducible exact simE_local (by kernel_rfl) (by kernel_rfl)
        with_reducible exact simL_nil
      exact simBk_nil
    exact simBk_nil
  refine simBk_cons ?_ ?_
  · with_reducible refine simS_ret ?_
    with_reducible refine simE_if ?_ ?_ ?_
    · refine simT_cmp ?_ ?_
      · with_reducible exact simE_local (by kernel_rfl) (by kernel_rfl)
      with_reducible exact simE_int
    · with_reducible refine simE_fun X F C ?_ (by kernel_rfl) (by kernel_rfl)
      with_reducible refine simL_cons ?_ ?_
      · with_reducible exact simE_local (by kernel_rfl) (by kernel_rfl)
      with_reducible exact simL_nil
    with_reducible refine simE_tup ?_
    with_reducible refine simL_cons ?_ ?_
    · with_reducible exact simE_str
    with_reducible refine simL_cons ?_ ?_
    · with_reducible refine simE_fun X F C ?_ (by kernel_rfl) (by kernel_rfl)
      with_reducible refine simL_cons ?_ ?_
      · with_reducible exact simE_local (by kernel_rfl) (by kernel_rfl)
      with_reducible refine simL_cons ?_ ?_
      · with_reducible exact simE_str
      with_reducible exact simL_nil
    with_reducible refine simL_cons ?_ ?_
    · with_reducible exact simE_none
    with_reducible exact simL_nil
  exact simBk_nil

theorem w_law_is_right : SimBk x (n + 1) (scopeOf s_law_is_right) (b_law_is_right c) (bodyOf s_law_is_right) := by
  refine simBk_cons ?_ ?_
  · with_reducible refine simS_swap ?_ (by decide +kernel) (fun _ => rfl) (by intro env h; cases env; cases h; kernel_rfl)
    with_reducible refine simE_tup ?_
    with_reducible refine simL_cons ?_ ?_
    · with_reducible exact simE_int
    with_reducible refine simL_cons ?_ ?_
    · with_reducible refine simE_list ?_
      with_reducible exact simL_nil
    with_reducible exact simL_nil
  refine simBk_cons ?_ ?_
  · with_reducible refine simS_for ?_ (.many _ _ _ _ (by decide +kernel) (fun _ => rfl) (fun _ => rfl) ⟨[_, _, _], rfl, fun _ => rfl⟩) ?_
    · with_reducible exact simE_local (by kernel_rfl) (by kernel_rfl)
    refine simBk_cons ?_ ?_
    · with_reducible refine simS_expr ?_
      with_reducible refine simE_meth X CA F C ?_ ?_
      · with_reducible exact simE_local (by kernel_rfl) (by kernel_rfl)
      with_reducible refine simL_cons ?_ ?_
      · with_reducible refine simE_tup ?_
        with_reducible refine simL_cons ?_ ?_
        · with_reducible exact simE_local (by kernel_rfl) (by kernel_rfl)
        with_reducible refine simL_cons ?_ ?_
        · with_reducible exact simE_local (by kernel_rfl) (by kernel_rfl)
        with_reducible refine simL_cons ?_ ?_
        · with_reducible exact simE_local (by kernel_rfl) (by kernel_rfl)
        with_reducible refine simL_cons ?_ ?_
        · with_reducible exact simE_int
        with_reducible refine simL_cons ?_ ?_
        · with_reducible exact simE_local (by kernel_rfl) (by kernel_rfl)
        with_reducible exact simL_nil
      with_reducible exact simL_nil
    refine simBk_cons ?_ ?_
    · with_reducible refine simS_assign ?_ (by kernel_rfl)
      with_reducible refine simE_bin ?_ ?_
      · with_reducible refine simE_bin ?_ ?_
        · with_reducible exact simE_local (by kernel_rfl) (by kernel_rfl)
        with_reducible refine simE_blt X BO ?_ (by decide +kernel) (by kernel_rfl) (by kernel_rfl)
        with_reducible refine simL_cons ?_ ?_
        · with_reducible exact simE_local (by kernel_rfl) (by kernel_rfl)
        with_reducible exact simL_nil
      with_reducible exact simE_int
    exact simBk_nil
  refine simBk_cons ?_ ?_
  · with_reducible refine simS_expr ?_
    with_reducible refine simE_meth X CA F C ?_ ?_
    · with_reducible exact simE_local (by kernel_rfl) (by kernel_rfl)
    with_reducible refine simL_cons ?_ ?_
    · with_reducible refine simE_tup ?_
      with_reducible refine simL_cons ?_ ?_
      · with_reducible exact simE_str
      with_reducible refine simL_cons ?_ ?_
      · with_reducible exact simE_str
      with_reducible refine simL_cons ?_ ?_
      · with_reducible exact simE_none
      with_reducible refine simL_cons ?_ ?_
      · with_reducible exact simE_int
      with_reducible refine simL_cons ?_ ?_
      · with_reducible refine simE_blt X BO ?_ (by decide +kernel) (by kernel_rfl) (by kernel_rfl)
        with_reducible refine simL_cons ?_ ?_
        · with_reducible exact simE_int
        with_reducible refine simL_cons ?_ ?_
        · with_reducible refine simE_bin ?_ ?_
          · with_reducible exact simE_local (by kernel_rfl) (by kernel_rfl)
          with_reducible exact simE_int
        with_reducible exact simL_nil
      with_reducible exact simL_nil
    with_reducible exact simL_nil
  refine simBk_cons ?_ ?_
  · with_reducible refine simS_assign ?_ (by kernel_rfl)
    with_reducible refine simE_fun X F C ?_ (by kernel_rfl) (by kernel_rfl)
    with_reducible refine simL_cons ?_ ?_
    · with_reducible refine simE_meth X CA F C ?_ ?_
      · with_reducible exact simE_str
      with_reducible refine simL_cons ?_ ?_
      · refine simE_comp ?_ (.many _ _ _ _ (by decide +kernel) (fun _ => rfl) (fun _ => rfl) ⟨[_, _, _], rfl, fun _ => rfl⟩) ?_ (closOk_none (by kernel_rfl) (by kernel_rfl) (by kernel_rfl)) (by decide +kernel)
        · with_reducible exact simE_local (by kernel_rfl) (by kernel_rfl)
        with_reducible exact simE_local (by kernel_rfl) (by kernel_rfl)
      with_reducible exact simL_nil
    with_reducible exact simL_nil
  refine simBk_cons ?_ ?_
  · with_reducible refine simS_ret ?_
    with_reducible refine simE_cmp ?_ ?_
    · refine simE_comp ?_ (.one _ _ (by kernel_rfl)) ?_ (closOk_none (by kernel_rfl) (by kernel_rfl) (by kernel_rfl)) (by decide +kernel)
      · with_reducible exact simE_local (by kernel_rfl) (by kernel_rfl)
      with_reducible refine simE_tup ?_
      with_reducible refine simL_cons ?_ ?_
      · with_reducible refine simE_attr X CA ?_ (by decide +kernel)
        with_reducible exact simE_local (by kernel_rfl) (by kernel_rfl)
      with_reducible refine simL_cons ?_ ?_
      · with_reducible refine simE_attr X CA ?_ (by decide +kernel)
        with_reducible exact simE_local (by kernel_rfl) (by kernel_rfl)
      with_reducible refine simL_cons ?_ ?_
      · with_reducible refine simE_attr X CA ?_ (by decide +kernel)
        with_reducible exact simE_local (by kernel_rfl) (by kernel_rfl)
      with_reducible refine simL_cons ?_ ?_
      · with_reducible refine simE_attr X CA ?_ (by decide +kernel)
        with_reducible exact simE_local (by kernel_rfl) (by kernel_rfl)
      with_reducible refine simL_cons ?_ ?_
      · with_reducible refine simE_attr X CA ?_ (by decide +kernel)
        with_reducible exact simE_local (by kernel_rfl) (by kernel_rfl)
      with_reducible exact simL_nil
    with_reducible exact simE_local (by kernel_rfl) (by kernel_rfl)
  exact simBk_nil

theorem w_law : SimBk x (n + 1) (scopeOf s_law) (b_law c) (bodyOf s_law) := by
  refine simBk_cons ?_ ?_
  · with_reducible refine simS_assign ?_ (by kernel_rfl)
    with_reducible refine simE_meth X CA F C ?_ ?_
    · with_reducible exact simE_str
    with_reducible refine simL_cons ?_ ?_
    · refine simE_comp ?_ (.one _ _ (by kernel_rfl)) ?_ (closOk_none (by kernel_rfl) (by kernel_rfl) (by kernel_rfl)) (by decide +kernel)
      · with_reducible refine simE_list ?_
        with_reducible refine simL_cons ?_ ?_
        · with_reducible exact simE_int
        with_reducible refine simL_cons ?_ ?_
        · with_reducible exact simE_int
        with_reducible refine simL_cons ?_ ?_
        · with_reducible exact simE_int
        with_reducible refine simL_cons ?_ ?_
        · with_reducible exact simE_int
        with_reducible refine simL_cons ?_ ?_
        · with_reducible exact simE_int
        with_reducible refine simL_cons ?_ ?_
        · with_reducible exact simE_int
        with_reducible refine simL_cons ?_ ?_
        · with_reducible exact simE_int
        with_reducible exact simL_nil
      with_reducible refine simE_blt X BO ?_ (by decide +kernel) (by kernel_rfl) (by kernel_rfl)
      with_reducible refine simL_cons ?_ ?_
      · with_reducible exact simE_local (by kernel_rfl) (by kernel_rfl)
      with_reducible exact simL_nil
    with_reducible exact simL_nil
  refine simBk_cons ?_ ?_
  · with_reducible refine simS_assign ?_ (by kernel_rfl)
    with_reducible refine simE_list ?_
    with_reducible refine simL_cons ?_ ?_
    · with_reducible refine simE_tup ?_
      with_reducible refine simL_cons ?_ ?_
      · with_reducible exact simE_str
      with_reducible refine simL_cons ?_ ?_
      · with_reducible exact simE_str
      with_reducible refine simL_cons ?_ ?_
      · with_reducible exact simE_local (by kernel_rfl) (by kernel_rfl)
      with_reducible exact simL_nil
    with_reducible refine simL_cons ?_ ?_
    · with_reducible refine simE_tup ?_
      with_reducible refine simL_cons ?_ ?_
      · with_reducible exact simE_str
      with_reducible refine simL_cons ?_ ?_
      · with_reducible exact simE_str
      with_reducible refine simL_cons ?_ ?_
      · with_reducible exact simE_none
      with_reducible exact simL_nil
    with_reducible refine simL_cons ?_ ?_
    · with_reducible refine simE_tup ?_
      with_reducible refine simL_cons ?_ ?_
      · with_reducible exact simE_str
      with_reducible refine simL_cons ?_ ?_
      · with_reducible exact simE_str
      with_reducible refine simL_cons ?_ ?_
      · with_reducible exact simE_none
      with_reducible exact simL_nil
    with_reducible exact simL_nil
  refine simBk_cons ?_ ?_
  · with_reducible refine simS_if ?_ ?_ ?_
    · refine simT_not ?_
      refine simT_value ?_
      with_reducible refine simE_fun X F C ?_ (by kernel_rfl) (by kernel_rfl)
      with_reducible refine simL_cons ?_ ?_
      · with_reducible exact simE_local (by kernel_rfl) (by kernel_rfl)
      with_reducible exact simL_nil
    · refine simBk_cons ?_ ?_
      · with_reducible refine simS_ret ?_
        with_reducible exact simE_bool
      exact simBk_nil
    exact simBk_nil
  refine simBk_cons ?_ ?_
  · with_reducible refine simS_assignC ?_ (by kernel_rfl)
    with_reducible refine simE_fun X F C ?_ (by kernel_rfl) (by kernel_rfl)
    with_reducible refine simL_cons ?_ ?_
    · with_reducible exact simE_local (by kernel_rfl) (by kernel_rfl)
    with_reducible exact simL_nil
  refine simBk_cons ?_ ?_
  · with_reducible refine simS_ret ?_
    with_reducible refine simE_fun X F C ?_ (by kernel_rfl) (by kernel_rfl)
    with_reducible refine simL_cons ?_ ?_
    · refine simE_comp ?_ (.one _ _ (by kernel_rfl)) ?_ (closOk_one (pre := preT) (by kernel_rfl) (by kernel_rfl) (by kernel_rfl) (by kernel_rfl) (by kernel_rfl)) (by decide +kernel)
      · with_reducible refine simE_blt X BO ?_ (by decide +kernel) (by kernel_rfl) (by kernel_rfl)
        with_reducible refine simL_cons ?_ ?_
        · with_reducible refine simE_fun X F C ?_ (by kernel_rfl) (by kernel_rfl)
          with_reducible refine simL_cons ?_ ?_
          · with_reducible exact simE_cell (by kernel_rfl) (by kernel_rfl)
          with_reducible refine simL_cons ?_ ?_
          · with_reducible exact simE_int
          with_reducible exact simL_nil
        with_reducible exact simL_nil
      with_reducible refine simE_fun X F C ?_ (by kernel_rfl) (by kernel_rfl)
      with_reducible refine simL_cons ?_ ?_
      · with_reducible exact simE_cell (by kernel_rfl) (by kernel_rfl)
      with_reducible exact simL_nil
    with_reducible exact simL_nil
  exact simBk_nil

end
end Mine
end

section
open PySem PySem.W PySem.Calls PyProof.Rows PyProof.V
set_option linter.unusedVariables false
set_option maxRecDepth 100000
set_option maxHeartbeats 4000000
set_option Elab.async false
namespace Mine

noncomputable def tabNames : List (Str × Str) := tab.map fun e => (e.1, e.2.1)
noncomputable def fnK (K : Frag) (cl f : Str) : Option Addr := if (cl, f) ∈ tabNames then some (adOf K cl f) else none
noncomputable def clsK (K : Frag) (cl : Str) : Option Addr := if cl ∈ clsNames then some (adG K cl) else none
theorem strV_vr {x : X} {h : Heap} {ρ : Rho} {w : Value} {v : V} (e : strV w = some v) : VR x h ρ v w := by
  obtain ⟨l, hl, rfl⟩ := map2 e
  cases w <;> first | (cases hl; done) | skip
  cases hl
  simp only [VR]; exact ⟨_, rfl⟩
theorem strVs_vr {x : X} {h : Heap} {ρ : Rho} : ∀ {ws : List Value} {vs : List V}, strVs ws = some vs → VRs x h ρ vs ws
  | [], _, e => by cases e; simp only [VRs]
  | w :: ws, _, e => by
    obtain ⟨v, hv, e⟩ := bind2 e
    obtain ⟨vs, hvs, rfl⟩ := map2 e
    simp only [VRs]
    exact ⟨strV_vr hv, strVs_vr hvs⟩
theorem tupIn_is {K : Frag} {h : Heap} {a : Addr} {ws : List Value} (X : K.In h) (e : tupIn K a = some ws) : h.IsTuple a ws.toArray := by
  unfold tupIn at e
  split at e
  · rename_i t d xs n sl q
    split at e
    · rename_i ht
      subst ht
      cases e
      exact ⟨_, X _ _ q, rfl, n, rfl⟩
    · cases e
  · cases e
theorem toV_vr {x : X} {h : Heap} {ρ : Rho} {w : Value} {v : V} (X : x.K.In h) (e : toV x.K w = some v) : VR x h ρ v w := by
  unfold toV at e
  split at e
  · cases e; simp only [VR]; exact ⟨_, rfl⟩
  · cases e; simp only [VR]; exact ⟨_, rfl⟩
  · obtain ⟨vs, h1, rfl⟩ := map2 e
    obtain ⟨ws, h2, h3⟩ := bind2 h1
    simp only [VR]
    exact ⟨_, ws, rfl, tupIn_is X h2, strVs_vr h3⟩
  · cases e
theorem mg_read {K : Frag} {h : Heap} {mg : Str → Option Value} {y : Str} {v : Value} (X : K.In h) (G : h.Ns mainGlobals mg) (e : readG K y = some v) : mg y = some v := by
  unfold readG at e
  exact mg_of X G (by simpa [Option.join_eq_some_iff] using e)

theorem dct_pairs {prog : Program} {w : World} : ∀ {es : List DictEntry} {ds : List (List Nat × Int)}, es.map (entV w.params) = ds.map (entD w.params) →
    ∃ kvs, Pairs (strKind prog w) es kvs ∧ FlatPairs PyData.str kvs (dctD ds) ∧ kvs.map (·.1) = ds.map (fun d => (⟨d.1.toArray⟩ : Str)) ∧ ∀ e ∈ es, ∃ k, (strKind prog w).is k e.key = true ∧ e.hash = (strKind prog w).hash k
  | [], [], _ => ⟨[], .nil, .nil, rfl, by simp⟩
  | [], _ :: _, e => by simp at e
  | _ :: _, [], e => by simp at e
  | ⟨hash, key, val⟩ :: es, d :: ds, e => by
    simp only [List.map_cons, List.cons.injEq] at e
    obtain ⟨e1, e2⟩ := e
    obtain ⟨kvs, hp, hf, hk, ha⟩ := dct_pairs (prog := prog) e2
    simp only [entV, entD, Prod.mk.injEq] at e1
    obtain ⟨h1, h2, h3⟩ := e1
    obtain ⟨s, t, rfl⟩ : ∃ s t, key = .str s t := by
      cases key with
      | str s t => exact ⟨_, _, rfl⟩
      | _ => cases h1
    obtain ⟨i, u, rfl⟩ : ∃ i u, val = .int i u := by
      cases val with
      | int s t => exact ⟨_, _, rfl⟩
      | _ => cases h3
    have h1 : s.cps.toList = d.1 := Option.some.inj h1
    have h3 : i = d.2 := Option.some.inj h3
    have hs : (⟨d.1.toArray⟩ : Str) = s := by rw [← h1]
    rw [h3]
    refine ⟨((⟨d.1.toArray⟩ : Str), .int d.2 u) :: kvs, .cons ?_ rfl hp, .cons (Flat.int _ _) hf, by simp [hk], fun e he => ?_⟩
    · show (strKind prog w).is (⟨d.1.toArray⟩ : Str) (.str s t) = true
      rw [hs]; exact strKind_is prog w s t
    · cases he with
      | head => exact ⟨⟨d.1.toArray⟩, by show (strKind prog w).is (⟨d.1.toArray⟩ : Str) (.str s t) = true; rw [hs]; exact strKind_is prog w s t, h2⟩
      | tail _ he => exact ha e he
theorem dct_tab {prog : Program} {w : World} {K : Frag} {h : Heap} {a : Addr} {ds : List (List Nat × Int)} (X : K.In h) (lo : (a == sysModules) = false) (nd : (ds.map (fun d => (⟨d.1.toArray⟩ : Str))).Nodup)
    (e : (dctIn K a).map (List.map (entV w.params)) = some (ds.map (entD w.params))) : StrTab prog w h a (dctD ds) := by
  obtain ⟨es, h1, h2⟩ := map2 e
  obtain ⟨kvs, hp, hf, hk, ha⟩ := dct_pairs (prog := prog) h2
  unfold dctIn at h1
  split at h1
  · rename_i t es' n sl q
    split at h1
    · rename_i ht
      obtain ⟨rfl, hsl⟩ := ht
      cases h1
      refine TabAt.ofObj lo (X _ _ q) ⟨es', n, ⟨rfl, rfl, Array.eq_empty_of_size_eq_zero hsl⟩, rfl, fun e he => ha e (Array.mem_toList_iff.mpr he), hp, by rw [hk]; exact nd⟩ hf
    · cases h1
  · cases h1

end Mine
end

section
open PySem PySem.W PySem.Calls PyProof.Rows PyProof.V
set_option linter.unusedVariables false
set_option maxRecDepth 100000
set_option maxHeartbeats 4000000
set_option Elab.async false
namespace Mine

noncomputable abbrev FnK (K : Frag) (cl f : Str) (s : Stmt) : Prop :=
  (fdIn K (adOf K cl f)).map (viewFd K) = some (argsOf s, .stmts (bodyOf s), scopeOf s, mainGlobals, builtinsNs, [], true)
noncomputable abbrev DfK (K : Frag) (cl f : Str) : Prop := (fdIn K (adOf K cl f)).map (fun fd => dfNone fd.defaults) = some true
structure ClsK (K : Frag) (c : Str) : Prop where
  at_ : nsIn K mainGlobals c = some (some (.ref (adG K c)))
  ga : findIn K (.ref (adG K c)) "__getattribute__" = some (some (.builtin "object.__getattribute__"))
  gt : findIn K (.ref (adG K c)) "__getattr__" = some none
  sa : findIn K (.ref (adG K c)) "__setattr__" = some (some (.builtin "object.__setattr__"))
  bs : (hasDictIn K (adG K c), plainOver K (adG K c), makesIn K (adG K c), keepIn K (.ref (adG K c))) = (true, true, true, true)
  attr : attrNames.map (findIn K (.ref (adG K c))) = attrNames.map fun _ => some none
structure KOk (K : Frag) (P : Params) : Prop where
  glob : globL.map (fun p => (readG K p.1).bind (toV K)) = globL.map fun p => some p.2
  escA : readG K "PLAIN_ESCAPES" = some (.ref (adG K "PLAIN_ESCAPES"))
  escL : (adG K "PLAIN_ESCAPES" == sysModules) = false
  escD : (dctIn K (adG K "PLAIN_ESCAPES")).map (List.map (entV P)) = some (d_esc.map (entD P))
  miss : bltNames.map (nsIn K mainGlobals) = bltNames.map fun _ => some none
  clsW : ClsK K "Word"
  clsS : ClsK K "Signs"
  top : tops.map (nsIn K mainGlobals) = tops.map fun f => some (some (.ref (adG K f)))
  met : meths.map (fun p => findIn K (.ref (adG K p.1)) p.2) = meths.map fun p => some (some (.ref (adM K p.1 p.2)))
  metT : meths.map (fun p => typeIn K (.ref (adM K p.1 p.2))) = meths.map fun _ => some (.type "function")
  f_Word_init : FnK K "Word" "__init__" s_Word_init
  f_Word_place : FnK K "Word" "place" s_Word_place
  f_Signs_init : FnK K "Signs" "__init__" s_Signs_init
  f_Signs_sign : FnK K "Signs" "sign" s_Signs_sign
  f_Signs_starts : FnK K "Signs" "starts" s_Signs_starts
  f_Signs_step : FnK K "Signs" "step" s_Signs_step
  f_Signs_take : FnK K "Signs" "take" s_Signs_take
  f_Signs_place : FnK K "Signs" "place" s_Signs_place
  f_is_among : FnK K "" "is_among" s_is_among
  f_is_bare : FnK K "" "is_bare" s_is_bare
  f_name_letters : FnK K "" "name_letters" s_name_letters
  f_is_line_comment : FnK K "" "is_line_comment" s_is_line_comment
  f_skip_between : FnK K "" "skip_between" s_skip_between
  f_number_of : FnK K "" "number_of" s_number_of
  f_checked_sign : FnK K "" "checked_sign" s_checked_sign
  f_named_escape : FnK K "" "named_escape" s_named_escape
  f_read_escape : FnK K "" "read_escape" s_read_escape
  f_read_char : FnK K "" "read_char" s_read_char
  f_read_text : FnK K "" "read_text" s_read_text
  f_symbol_kind : FnK K "" "symbol_kind" s_symbol_kind
  f_read_word : FnK K "" "read_word" s_read_word
  f_words_of : FnK K "" "words_of" s_words_of
  f_law_trunk : FnK K "" "_law_trunk" s_law_trunk
  f_law_pull : FnK K "" "_law_pull" s_law_pull
  f_law_one : FnK K "" "_law_one" s_law_one
  f_law_named : FnK K "" "_law_named" s_law_named
  f_law_escape : FnK K "" "_law_escape" s_law_escape
  f_law_based : FnK K "" "_law_based" s_law_based
  f_law_text : FnK K "" "_law_text" s_law_text
  f_law_sign : FnK K "" "_law_sign" s_law_sign
  f_law_name : FnK K "" "_law_name" s_law_name
  f_law_operator : FnK K "" "_law_operator" s_law_operator
  f_law_word : FnK K "" "_law_word" s_law_word
  f_law_is_right : FnK K "" "_law_is_right" s_law_is_right
  d_Word_place : DfK K "Word" "place"
  d_Signs_init : DfK K "Signs" "__init__"
  d_Signs_starts : DfK K "Signs" "starts"
  d_Signs_step : DfK K "Signs" "step"
  d_Signs_take : DfK K "Signs" "take"
  d_Signs_place : DfK K "Signs" "place"
  d_is_among : DfK K "" "is_among"
  d_is_bare : DfK K "" "is_bare"
  d_name_letters : DfK K "" "name_letters"
  d_is_line_comment : DfK K "" "is_line_comment"
  d_skip_between : DfK K "" "skip_between"
  d_number_of : DfK K "" "number_of"
  d_checked_sign : DfK K "" "checked_sign"
  d_named_escape : DfK K "" "named_escape"
  d_read_escape : DfK K "" "read_escape"
  d_read_char : DfK K "" "read_char"
  d_read_text : DfK K "" "read_text"
  d_symbol_kind : DfK K "" "symbol_kind"
  d_read_word : DfK K "" "read_word"
  d_words_of : DfK K "" "words_of"
  d_law_trunk : DfK K "" "_law_trunk"
  d_law_pull : DfK K "" "_law_pull"
  d_law_one : DfK K "" "_law_one"
  d_law_named : DfK K "" "_law_named"
  d_law_escape : DfK K "" "_law_escape"
  d_law_based : DfK K "" "_law_based"
  d_law_text : DfK K "" "_law_text"
  d_law_sign : DfK K "" "_law_sign"
  d_law_name : DfK K "" "_law_name"
  d_law_operator : DfK K "" "_law_operator"
  d_law_word : DfK K "" "_law_word"
  d_law_is_right : DfK K "" "_law_is_right"
  dSign : (fdIn K (adOf K "Signs" "sign")).bind (fun fd => match fd.defaults with
    | .ref a => (tupIn K a).map fun ws => ws.map int?
    | _ => none) = some [some 0]
  dWord : (fdIn K (adOf K "Word" "__init__")).bind (fun fd => match fd.defaults with
    | .ref a => (tupIn K a).map fun ws => ws.length
    | _ => none) = some 3

end Mine
end

section
open PySem PySem.W PySem.Calls PyProof.Rows PyProof.V
set_option linter.unusedVariables false
set_option maxRecDepth 100000
set_option maxHeartbeats 4000000
set_option Elab.async false
namespace Mine

noncomputable abbrev mkX (prog : Program) (w : World) (K : Frag) (hB : Heap) (mg mb : Str → Option Value) : X := { prog, w, K, hB, G := mainGlobals, BI := builtinsNs, mg, mb, cls := clsK K, fn := fnK K }

section
variable {prog : Program} {w : World} {K : Frag} {hB : Heap} {mg mb : Str → Option Value}

theorem map_at {α β : Type} {f g : α → β} {l : List α} (h : l.map f = l.map g) {a : α} (ha : a ∈ l) : f a = g a := List.map_inj_left.mp h a ha

theorem globOk_K (KX : K.In hB) (G : hB.Ns mainGlobals mg) (ok : KOk K w.params) : GlobOk (mkX prog w K hB mg mb) globF := by
  intro y v e
  unfold globF at e
  split at e
  · rename_i hy
    subst hy
    cases e
    refine ⟨_, mg_read KX G ok.escA, fun h ρ hh => ?_⟩
    simp only [VR]
    exact ⟨_, rfl, dct_tab KX ok.escL (by decide +kernel) ok.escD⟩
  · have h1 := map_at ok.glob (mem_lookup e)
    obtain ⟨u, h2, h3⟩ := bind2 h1
    exact ⟨u, mg_read KX G h2, fun h ρ hh => toV_vr (x := mkX prog w K hB mg mb) (fun a o e => hh _ _ (KX a o e)) h3⟩

theorem boots : bltNames.map bootBuiltins = bltNames.map fun f => some (bltVal f) := by decide +kernel
theorem notName : ∀ f ∈ bltNames, f ≠ ("__name__" : Str) := by decide +kernel
theorem bltOk_K (KX : K.In hB) (G : hB.Ns mainGlobals mg) (B : ∀ y : Str, y ≠ "__name__" → mb y = bootBuiltins y) (ok : KOk K w.params) : BltOk (mkX prog w K hB mg mb) := by
  refine ⟨fun f hf => mg_none_of KX G (map_at ok.miss hf), fun f hf => ?_⟩
  exact (B f (notName f hf)).trans (map_at boots hf)

theorem mem_tab {α : Type} {cl f : Str} {fn : Fn} : ∀ {l : List (Str × Str × Fn)}, tabGet cl f l = some fn → (cl, f, fn) ∈ l
  | [], e => by cases e
  | (a, b, g) :: r, e => by
    unfold tabGet at e
    split at e
    · rename_i h1
      split at e
      · rename_i h2
        cases e
        cases h1; cases h2
        exact .head _
      · exact .tail _ (mem_tab (α := α) e)
    · exact .tail _ (mem_tab (α := α) e)

noncomputable def isMeth (p : Str × Str) : Bool := if p.1 = "" then tops.contains p.2 else meths.contains p
theorem names_split : ∀ p ∈ tabNames, isMeth p = true := by decide +kernel
theorem mem_tabNames {cl f : Str} {a : Addr} (h : fnK K cl f = some a) : (cl, f) ∈ tabNames ∧ a = adOf K cl f := by
  unfold fnK at h
  split at h
  · cases h; exact ⟨by assumption, rfl⟩
  · cases h
theorem adOf_cls {cl f : Str} (h : cl ≠ "") : adOf K cl f = adM K cl f := if_neg h
theorem adOf_top {f : Str} : adOf K "" f = adG K f := if_pos rfl
theorem meth_at {cl f : Str} (hc : cl ≠ "") (h : (cl, f) ∈ tabNames) : (cl, f) ∈ meths := by
  have := names_split _ h
  unfold isMeth at this
  rw [if_neg hc] at this
  exact List.contains_iff_mem.mp this
theorem top_at {f : Str} (h : (("" : Str), f) ∈ tabNames) : f ∈ tops := by
  have := names_split _ h
  unfold isMeth at this
  rw [if_pos rfl] at this
  exact List.contains_iff_mem.mp this

theorem clsOk_K (ok : KOk K w.params) : ∀ c C, (mkX prog w K hB mg mb).cls c = some C → ClsOk (mkX prog w K hB mg mb) c C := by
  intro c C h
  have h : clsK K c = some C := h
  unfold clsK at h
  split at h
  · rename_i hc
    cases h
    have k : ClsK K c := by
      simp only [clsNames, List.mem_cons, List.not_mem_nil, or_false] at hc
      rcases hc with rfl | rfl
      · exact ok.clsW
      · exact ok.clsS
    have b := k.bs
    simp only [Prod.mk.injEq] at b
    refine ⟨k.ga, k.gt, k.sa, b.1, b.2.1, b.2.2.1, b.2.2.2, fun nm hn => map_at k.attr hn, fun m a hm => ?_⟩
    obtain ⟨hm2, rfl⟩ := mem_tabNames hm
    have hne : c ≠ "" := by
      simp only [clsNames, List.mem_cons, List.not_mem_nil, or_false] at hc
      rcases hc with rfl | rfl <;> decide
    rw [adOf_cls hne]
    have := meth_at hne hm2
    exact ⟨map_at ok.met this, map_at ok.metT this⟩
  · cases h

theorem fd_at (KX : K.In hB) {cl f : Str} {s : Stmt} (h : FnK K cl f s) : ∃ o fd, hB.get? (adOf K cl f) = some o ∧ o.data = .func fd ∧ fdIn K (adOf K cl f) = some fd ∧ viewFd K fd = (argsOf s, .stmts (bodyOf s), scopeOf s, mainGlobals, builtinsNs, [], true) := by
  obtain ⟨fd, h1, h2⟩ := map2 h
  have h0 := h1
  unfold fdIn at h1
  split at h1
  · rename_i c d fd' sl q
    cases h1
    exact ⟨_, _, KX _ _ q, rfl, h0, h2⟩
  · cases h1

theorem fnK_all (ok : KOk K w.params) : ∀ p ∈ tabNames, ∃ s, FnK K p.1 p.2 s := by
  unfold tabNames
  refine List.forall_mem_map.mpr ?_
  unfold tab
  refine List.forall_mem_cons.mpr ⟨⟨s_Word_init, ok.f_Word_init⟩, ?_⟩
  refine List.forall_mem_cons.mpr ⟨⟨s_Word_place, ok.f_Word_place⟩, ?_⟩
  refine List.forall_mem_cons.mpr ⟨⟨s_Signs_init, ok.f_Signs_init⟩, ?_⟩
  refine List.forall_mem_cons.mpr ⟨⟨s_Signs_sign, ok.f_Signs_sign⟩, ?_⟩
  refine List.forall_mem_cons.mpr ⟨⟨s_Signs_starts, ok.f_Signs_starts⟩, ?_⟩
  refine List.forall_mem_cons.mpr ⟨⟨s_Signs_step, ok.f_Signs_step⟩, ?_⟩
  refine List.forall_mem_cons.mpr ⟨⟨s_Signs_take, ok.f_Signs_take⟩, ?_⟩
  refine List.forall_mem_cons.mpr ⟨⟨s_Signs_place, ok.f_Signs_place⟩, ?_⟩
  refine List.forall_mem_cons.mpr ⟨⟨s_is_among, ok.f_is_among⟩, ?_⟩
  refine List.forall_mem_cons.mpr ⟨⟨s_is_bare, ok.f_is_bare⟩, ?_⟩
  refine List.forall_mem_cons.mpr ⟨⟨s_name_letters, ok.f_name_letters⟩, ?_⟩
  refine List.forall_mem_cons.mpr ⟨⟨s_is_line_comment, ok.f_is_line_comment⟩, ?_⟩
  refine List.forall_mem_cons.mpr ⟨⟨s_skip_between, ok.f_skip_between⟩, ?_⟩
  refine List.forall_mem_cons.mpr ⟨⟨s_number_of, ok.f_number_of⟩, ?_⟩
  refine List.forall_mem_cons.mpr ⟨⟨s_checked_sign, ok.f_checked_sign⟩, ?_⟩
  refine List.forall_mem_cons.mpr ⟨⟨s_named_escape, ok.f_named_escape⟩, ?_⟩
  refine List.forall_mem_cons.mpr ⟨⟨s_read_escape, ok.f_read_escape⟩, ?_⟩
  refine List.forall_mem_cons.mpr ⟨⟨s_read_char, ok.f_read_char⟩, ?_⟩
  refine List.forall_mem_cons.mpr ⟨⟨s_read_text, ok.f_read_text⟩, ?_⟩
  refine List.forall_mem_cons.mpr ⟨⟨s_symbol_kind, ok.f_symbol_kind⟩, ?_⟩
  refine List.forall_mem_cons.mpr ⟨⟨s_read_word, ok.f_read_word⟩, ?_⟩
  refine List.forall_mem_cons.mpr ⟨⟨s_words_of, ok.f_words_of⟩, ?_⟩
  refine List.forall_mem_cons.mpr ⟨⟨s_law_trunk, ok.f_law_trunk⟩, ?_⟩
  refine List.forall_mem_cons.mpr ⟨⟨s_law_pull, ok.f_law_pull⟩, ?_⟩
  refine List.forall_mem_cons.mpr ⟨⟨s_law_one, ok.f_law_one⟩, ?_⟩
  refine List.forall_mem_cons.mpr ⟨⟨s_law_named, ok.f_law_named⟩, ?_⟩
  refine List.forall_mem_cons.mpr ⟨⟨s_law_escape, ok.f_law_escape⟩, ?_⟩
  refine List.forall_mem_cons.mpr ⟨⟨s_law_based, ok.f_law_based⟩, ?_⟩
  refine List.forall_mem_cons.mpr ⟨⟨s_law_text, ok.f_law_text⟩, ?_⟩
  refine List.forall_mem_cons.mpr ⟨⟨s_law_sign, ok.f_law_sign⟩, ?_⟩
  refine List.forall_mem_cons.mpr ⟨⟨s_law_name, ok.f_law_name⟩, ?_⟩
  refine List.forall_mem_cons.mpr ⟨⟨s_law_operator, ok.f_law_operator⟩, ?_⟩
  refine List.forall_mem_cons.mpr ⟨⟨s_law_word, ok.f_law_word⟩, ?_⟩
  refine List.forall_mem_cons.mpr ⟨⟨s_law_is_right, ok.f_law_is_right⟩, ?_⟩
  intro e he; cases he

theorem fnAll_K (KX : K.In hB) (G : hB.Ns mainGlobals mg) (ok : KOk K w.params) : FnAll (mkX prog w K hB mg mb) := by
  refine ⟨fun cl f a h => ?_, fun f a h => ?_, fun cl h => ?_⟩
  · obtain ⟨hm, rfl⟩ := mem_tabNames h
    obtain ⟨s, hs⟩ := fnK_all ok _ hm
    obtain ⟨o, fd, h1, h2, -⟩ := fd_at KX hs
    exact ⟨o, fd, h1, h2⟩
  · obtain ⟨hm, rfl⟩ := mem_tabNames h
    rw [adOf_top]
    exact mg_of KX G (map_at ok.top (top_at hm))
  · refine ⟨adG K cl, if_pos h, ?_⟩
    simp only [clsNames, List.mem_cons, List.not_mem_nil, or_false] at h
    rcases h with rfl | rfl
    · exact mg_of KX G ok.clsW.at_
    · exact mg_of KX G ok.clsS.at_

theorem df_none {cl f : Str} {fd : FuncData} (hd : DfK K cl f) (h : fdIn K (adOf K cl f) = some fd) : fd.defaults = .none := by
  unfold DfK at hd
  rw [h] at hd
  have hd : dfNone fd.defaults = true := Option.some.inj hd
  cases hq : fd.defaults <;> rw [hq] at hd <;> first | rfl | cases hd

theorem fnOk_plain {cl f : Str} {fn : Fn} {s : Stmt} (KX : K.In hB) (hn : (cl, f) ∈ tabNames) (k : FnK K cl f s) (d : DfK K cl f) (hd : fn.dflt = []) (nd : fn.params.Nodup)
    (hloc : fn.params.map (fun y => (scopeOf s).names.lookup y) = fn.params.map fun _ => some NameKind.local)
    (hb : ∀ fd : FuncData, fd.params = argsOf s → fd.defaults = .none → ∀ ws, ws.length = fn.params.length → bindArgs fd ⟨ws, []⟩ = pure (fn.params.zip ws))
    (h1 : (scopeOf s).kind = .function) (h2 : (scopeOf s).isCoroutine = false) (h3 : (scopeOf s).isGenerator = false) (h4 : ((scopeOf s).names.all fun p => p.2 != .cell && p.2 != .free) = true) :
    FnOk (mkX prog w K hB mg mb) cl f fn (scopeOf s) (bodyOf s) := by
  obtain ⟨o, fd, e1, e2, e3, e4⟩ := fd_at KX k
  unfold viewFd at e4
  simp only [Prod.mk.injEq] at e4
  obtain ⟨q1, q2, q3, q4, q5, q6, q7⟩ := e4
  refine ⟨⟨_, o, fd, if_pos hn, e1, e2, codeRec_of KX q7, q2, q3, q4, q5, q6, bindOk_plain hd nd (fun y hy => ?_) (hb fd q1 (df_none d e3))⟩, h1, h2, h3, fun p hp => ?_⟩
  · rw [q3]; exact map_at hloc hy
  · have := List.all_eq_true.mp h4 p hp
    simpa using this

theorem len0 {α : Type} {ws : List α} (h : ws.length = 0) : ws = [] := List.eq_nil_of_length_eq_zero h
theorem lenS {α : Type} {n : Nat} {ws : List α} (h : ws.length = n + 1) : ∃ a r, ws = a :: r ∧ r.length = n := by
  cases ws with
  | nil => simp at h
  | cons a r => exact ⟨a, r, rfl, by simpa using h⟩
theorem bind_Word_place (fd : FuncData) (hp : fd.params = argsOf s_Word_place) (hd : fd.defaults = .none) : ∀ ws : List Value, ws.length = (["self"] : List Str).length → bindArgs fd ⟨ws, []⟩ = pure ((["self"] : List Str).zip ws) := by
  obtain ⟨_, _, _, _, _, _, _, _, _⟩ := fd
  cases hp; cases hd
  intro ws h
  obtain ⟨w0, r0, e0, h0⟩ := lenS h; subst e0
  have e := len0 h0; subst e
  kernel_rfl
theorem bind_Signs_init (fd : FuncData) (hp : fd.params = argsOf s_Signs_init) (hd : fd.defaults = .none) : ∀ ws : List Value, ws.length = (["self", "text"] : List Str).length → bindArgs fd ⟨ws, []⟩ = pure ((["self", "text"] : List Str).zip ws) := by
  obtain ⟨_, _, _, _, _, _, _, _, _⟩ := fd
  cases hp; cases hd
  intro ws h
  obtain ⟨w0, r0, e0, h0⟩ := lenS h; subst e0
  obtain ⟨w1, r1, e1, h1⟩ := lenS h0; subst e1
  have e := len0 h1; subst e
  kernel_rfl
theorem bind_Signs_starts (fd : FuncData) (hp : fd.params = argsOf s_Signs_starts) (hd : fd.defaults = .none) : ∀ ws : List Value, ws.length = (["self", "some"] : List Str).length → bindArgs fd ⟨ws, []⟩ = pure ((["self", "some"] : List Str).zip ws) := by
  obtain ⟨_, _, _, _, _, _, _, _, _⟩ := fd
  cases hp; cases hd
  intro ws h
  obtain ⟨w0, r0, e0, h0⟩ := lenS h; subst e0
  obtain ⟨w1, r1, e1, h1⟩ := lenS h0; subst e1
  have e := len0 h1; subst e
  kernel_rfl
theorem bind_Signs_step (fd : FuncData) (hp : fd.params = argsOf s_Signs_step) (hd : fd.defaults = .none) : ∀ ws : List Value, ws.length = (["self"] : List Str).length → bindArgs fd ⟨ws, []⟩ = pure ((["self"] : List Str).zip ws) := by
  obtain ⟨_, _, _, _, _, _, _, _, _⟩ := fd
  cases hp; cases hd
  intro ws h
  obtain ⟨w0, r0, e0, h0⟩ := lenS h; subst e0
  have e := len0 h0; subst e
  kernel_rfl
theorem bind_Signs_take (fd : FuncData) (hp : fd.params = argsOf s_Signs_take) (hd : fd.defaults = .none) : ∀ ws : List Value, ws.length = (["self", "letters"] : List Str).length → bindArgs fd ⟨ws, []⟩ = pure ((["self", "letters"] : List Str).zip ws) := by
  obtain ⟨_, _, _, _, _, _, _, _, _⟩ := fd
  cases hp; cases hd
  intro ws h
  obtain ⟨w0, r0, e0, h0⟩ := lenS h; subst e0
  obtain ⟨w1, r1, e1, h1⟩ := lenS h0; subst e1
  have e := len0 h1; subst e
  kernel_rfl
theorem bind_Signs_place (fd : FuncData) (hp : fd.params = argsOf s_Signs_place) (hd : fd.defaults = .none) : ∀ ws : List Value, ws.length = (["self"] : List Str).length → bindArgs fd ⟨ws, []⟩ = pure ((["self"] : List Str).zip ws) := by
  obtain ⟨_, _, _, _, _, _, _, _, _⟩ := fd
  cases hp; cases hd
  intro ws h
  obtain ⟨w0, r0, e0, h0⟩ := lenS h; subst e0
  have e := len0 h0; subst e
  kernel_rfl
theorem bind_is_among (fd : FuncData) (hp : fd.params = argsOf s_is_among) (hd : fd.defaults = .none) : ∀ ws : List Value, ws.length = (["sign", "letters"] : List Str).length → bindArgs fd ⟨ws, []⟩ = pure ((["sign", "letters"] : List Str).zip ws) := by
  obtain ⟨_, _, _, _, _, _, _, _, _⟩ := fd
  cases hp; cases hd
  intro ws h
  obtain ⟨w0, r0, e0, h0⟩ := lenS h; subst e0
  obtain ⟨w1, r1, e1, h1⟩ := lenS h0; subst e1
  have e := len0 h1; subst e
  kernel_rfl
theorem bind_is_bare (fd : FuncData) (hp : fd.params = argsOf s_is_bare) (hd : fd.defaults = .none) : ∀ ws : List Value, ws.length = (["sign"] : List Str).length → bindArgs fd ⟨ws, []⟩ = pure ((["sign"] : List Str).zip ws) := by
  obtain ⟨_, _, _, _, _, _, _, _, _⟩ := fd
  cases hp; cases hd
  intro ws h
  obtain ⟨w0, r0, e0, h0⟩ := lenS h; subst e0
  have e := len0 h0; subst e
  kernel_rfl
theorem bind_name_letters (fd : FuncData) (hp : fd.params = argsOf s_name_letters) (hd : fd.defaults = .none) : ∀ ws : List Value, ws.length = ([] : List Str).length → bindArgs fd ⟨ws, []⟩ = pure (([] : List Str).zip ws) := by
  obtain ⟨_, _, _, _, _, _, _, _, _⟩ := fd
  cases hp; cases hd
  intro ws h
  have e := len0 h; subst e
  kernel_rfl
theorem bind_is_line_comment (fd : FuncData) (hp : fd.params = argsOf s_is_line_comment) (hd : fd.defaults = .none) : ∀ ws : List Value, ws.length = (["signs"] : List Str).length → bindArgs fd ⟨ws, []⟩ = pure ((["signs"] : List Str).zip ws) := by
  obtain ⟨_, _, _, _, _, _, _, _, _⟩ := fd
  cases hp; cases hd
  intro ws h
  obtain ⟨w0, r0, e0, h0⟩ := lenS h; subst e0
  have e := len0 h0; subst e
  kernel_rfl
theorem bind_skip_between (fd : FuncData) (hp : fd.params = argsOf s_skip_between) (hd : fd.defaults = .none) : ∀ ws : List Value, ws.length = (["signs"] : List Str).length → bindArgs fd ⟨ws, []⟩ = pure ((["signs"] : List Str).zip ws) := by
  obtain ⟨_, _, _, _, _, _, _, _, _⟩ := fd
  cases hp; cases hd
  intro ws h
  obtain ⟨w0, r0, e0, h0⟩ := lenS h; subst e0
  have e := len0 h0; subst e
  kernel_rfl
theorem bind_number_of (fd : FuncData) (hp : fd.params = argsOf s_number_of) (hd : fd.defaults = .none) : ∀ ws : List Value, ws.length = (["digits", "base", "place"] : List Str).length → bindArgs fd ⟨ws, []⟩ = pure ((["digits", "base", "place"] : List Str).zip ws) := by
  obtain ⟨_, _, _, _, _, _, _, _, _⟩ := fd
  cases hp; cases hd
  intro ws h
  obtain ⟨w0, r0, e0, h0⟩ := lenS h; subst e0
  obtain ⟨w1, r1, e1, h1⟩ := lenS h0; subst e1
  obtain ⟨w2, r2, e2, h2⟩ := lenS h1; subst e2
  have e := len0 h2; subst e
  kernel_rfl
theorem bind_checked_sign (fd : FuncData) (hp : fd.params = argsOf s_checked_sign) (hd : fd.defaults = .none) : ∀ ws : List Value, ws.length = (["number", "place"] : List Str).length → bindArgs fd ⟨ws, []⟩ = pure ((["number", "place"] : List Str).zip ws) := by
  obtain ⟨_, _, _, _, _, _, _, _, _⟩ := fd
  cases hp; cases hd
  intro ws h
  obtain ⟨w0, r0, e0, h0⟩ := lenS h; subst e0
  obtain ⟨w1, r1, e1, h1⟩ := lenS h0; subst e1
  have e := len0 h1; subst e
  kernel_rfl
theorem bind_named_escape (fd : FuncData) (hp : fd.params = argsOf s_named_escape) (hd : fd.defaults = .none) : ∀ ws : List Value, ws.length = (["signs"] : List Str).length → bindArgs fd ⟨ws, []⟩ = pure ((["signs"] : List Str).zip ws) := by
  obtain ⟨_, _, _, _, _, _, _, _, _⟩ := fd
  cases hp; cases hd
  intro ws h
  obtain ⟨w0, r0, e0, h0⟩ := lenS h; subst e0
  have e := len0 h0; subst e
  kernel_rfl
theorem bind_read_escape (fd : FuncData) (hp : fd.params = argsOf s_read_escape) (hd : fd.defaults = .none) : ∀ ws : List Value, ws.length = (["signs"] : List Str).length → bindArgs fd ⟨ws, []⟩ = pure ((["signs"] : List Str).zip ws) := by
  obtain ⟨_, _, _, _, _, _, _, _, _⟩ := fd
  cases hp; cases hd
  intro ws h
  obtain ⟨w0, r0, e0, h0⟩ := lenS h; subst e0
  have e := len0 h0; subst e
  kernel_rfl
theorem bind_read_char (fd : FuncData) (hp : fd.params = argsOf s_read_char) (hd : fd.defaults = .none) : ∀ ws : List Value, ws.length = (["signs"] : List Str).length → bindArgs fd ⟨ws, []⟩ = pure ((["signs"] : List Str).zip ws) := by
  obtain ⟨_, _, _, _, _, _, _, _, _⟩ := fd
  cases hp; cases hd
  intro ws h
  obtain ⟨w0, r0, e0, h0⟩ := lenS h; subst e0
  have e := len0 h0; subst e
  kernel_rfl
theorem bind_read_text (fd : FuncData) (hp : fd.params = argsOf s_read_text) (hd : fd.defaults = .none) : ∀ ws : List Value, ws.length = (["signs"] : List Str).length → bindArgs fd ⟨ws, []⟩ = pure ((["signs"] : List Str).zip ws) := by
  obtain ⟨_, _, _, _, _, _, _, _, _⟩ := fd
  cases hp; cases hd
  intro ws h
  obtain ⟨w0, r0, e0, h0⟩ := lenS h; subst e0
  have e := len0 h0; subst e
  kernel_rfl
theorem bind_symbol_kind (fd : FuncData) (hp : fd.params = argsOf s_symbol_kind) (hd : fd.defaults = .none) : ∀ ws : List Value, ws.length = (["text"] : List Str).length → bindArgs fd ⟨ws, []⟩ = pure ((["text"] : List Str).zip ws) := by
  obtain ⟨_, _, _, _, _, _, _, _, _⟩ := fd
  cases hp; cases hd
  intro ws h
  obtain ⟨w0, r0, e0, h0⟩ := lenS h; subst e0
  have e := len0 h0; subst e
  kernel_rfl
theorem bind_read_word (fd : FuncData) (hp : fd.params = argsOf s_read_word) (hd : fd.defaults = .none) : ∀ ws : List Value, ws.length = (["signs"] : List Str).length → bindArgs fd ⟨ws, []⟩ = pure ((["signs"] : List Str).zip ws) := by
  obtain ⟨_, _, _, _, _, _, _, _, _⟩ := fd
  cases hp; cases hd
  intro ws h
  obtain ⟨w0, r0, e0, h0⟩ := lenS h; subst e0
  have e := len0 h0; subst e
  kernel_rfl
theorem bind_words_of (fd : FuncData) (hp : fd.params = argsOf s_words_of) (hd : fd.defaults = .none) : ∀ ws : List Value, ws.length = (["text"] : List Str).length → bindArgs fd ⟨ws, []⟩ = pure ((["text"] : List Str).zip ws) := by
  obtain ⟨_, _, _, _, _, _, _, _, _⟩ := fd
  cases hp; cases hd
  intro ws h
  obtain ⟨w0, r0, e0, h0⟩ := lenS h; subst e0
  have e := len0 h0; subst e
  kernel_rfl
theorem bind_law_trunk (fd : FuncData) (hp : fd.params = argsOf s_law_trunk) (hd : fd.defaults = .none) : ∀ ws : List Value, ws.length = (["script"] : List Str).length → bindArgs fd ⟨ws, []⟩ = pure ((["script"] : List Str).zip ws) := by
  obtain ⟨_, _, _, _, _, _, _, _, _⟩ := fd
  cases hp; cases hd
  intro ws h
  obtain ⟨w0, r0, e0, h0⟩ := lenS h; subst e0
  have e := len0 h0; subst e
  kernel_rfl
theorem bind_law_pull (fd : FuncData) (hp : fd.params = argsOf s_law_pull) (hd : fd.defaults = .none) : ∀ ws : List Value, ws.length = (["trunk", "many"] : List Str).length → bindArgs fd ⟨ws, []⟩ = pure ((["trunk", "many"] : List Str).zip ws) := by
  obtain ⟨_, _, _, _, _, _, _, _, _⟩ := fd
  cases hp; cases hd
  intro ws h
  obtain ⟨w0, r0, e0, h0⟩ := lenS h; subst e0
  obtain ⟨w1, r1, e1, h1⟩ := lenS h0; subst e1
  have e := len0 h1; subst e
  kernel_rfl
theorem bind_law_one (fd : FuncData) (hp : fd.params = argsOf s_law_one) (hd : fd.defaults = .none) : ∀ ws : List Value, ws.length = (["trunk", "things"] : List Str).length → bindArgs fd ⟨ws, []⟩ = pure ((["trunk", "things"] : List Str).zip ws) := by
  obtain ⟨_, _, _, _, _, _, _, _, _⟩ := fd
  cases hp; cases hd
  intro ws h
  obtain ⟨w0, r0, e0, h0⟩ := lenS h; subst e0
  obtain ⟨w1, r1, e1, h1⟩ := lenS h0; subst e1
  have e := len0 h1; subst e
  kernel_rfl
theorem bind_law_named (fd : FuncData) (hp : fd.params = argsOf s_law_named) (hd : fd.defaults = .none) : ∀ ws : List Value, ws.length = ([] : List Str).length → bindArgs fd ⟨ws, []⟩ = pure (([] : List Str).zip ws) := by
  obtain ⟨_, _, _, _, _, _, _, _, _⟩ := fd
  cases hp; cases hd
  intro ws h
  have e := len0 h; subst e
  kernel_rfl
theorem bind_law_escape (fd : FuncData) (hp : fd.params = argsOf s_law_escape) (hd : fd.defaults = .none) : ∀ ws : List Value, ws.length = (["trunk"] : List Str).length → bindArgs fd ⟨ws, []⟩ = pure ((["trunk"] : List Str).zip ws) := by
  obtain ⟨_, _, _, _, _, _, _, _, _⟩ := fd
  cases hp; cases hd
  intro ws h
  obtain ⟨w0, r0, e0, h0⟩ := lenS h; subst e0
  have e := len0 h0; subst e
  kernel_rfl
theorem bind_law_based (fd : FuncData) (hp : fd.params = argsOf s_law_based) (hd : fd.defaults = .none) : ∀ ws : List Value, ws.length = (["number", "base"] : List Str).length → bindArgs fd ⟨ws, []⟩ = pure ((["number", "base"] : List Str).zip ws) := by
  obtain ⟨_, _, _, _, _, _, _, _, _⟩ := fd
  cases hp; cases hd
  intro ws h
  obtain ⟨w0, r0, e0, h0⟩ := lenS h; subst e0
  obtain ⟨w1, r1, e1, h1⟩ := lenS h0; subst e1
  have e := len0 h1; subst e
  kernel_rfl
theorem bind_law_text (fd : FuncData) (hp : fd.params = argsOf s_law_text) (hd : fd.defaults = .none) : ∀ ws : List Value, ws.length = (["trunk"] : List Str).length → bindArgs fd ⟨ws, []⟩ = pure ((["trunk"] : List Str).zip ws) := by
  obtain ⟨_, _, _, _, _, _, _, _, _⟩ := fd
  cases hp; cases hd
  intro ws h
  obtain ⟨w0, r0, e0, h0⟩ := lenS h; subst e0
  have e := len0 h0; subst e
  kernel_rfl
theorem bind_law_sign (fd : FuncData) (hp : fd.params = argsOf s_law_sign) (hd : fd.defaults = .none) : ∀ ws : List Value, ws.length = (["trunk"] : List Str).length → bindArgs fd ⟨ws, []⟩ = pure ((["trunk"] : List Str).zip ws) := by
  obtain ⟨_, _, _, _, _, _, _, _, _⟩ := fd
  cases hp; cases hd
  intro ws h
  obtain ⟨w0, r0, e0, h0⟩ := lenS h; subst e0
  have e := len0 h0; subst e
  kernel_rfl
theorem bind_law_name (fd : FuncData) (hp : fd.params = argsOf s_law_name) (hd : fd.defaults = .none) : ∀ ws : List Value, ws.length = (["trunk"] : List Str).length → bindArgs fd ⟨ws, []⟩ = pure ((["trunk"] : List Str).zip ws) := by
  obtain ⟨_, _, _, _, _, _, _, _, _⟩ := fd
  cases hp; cases hd
  intro ws h
  obtain ⟨w0, r0, e0, h0⟩ := lenS h; subst e0
  have e := len0 h0; subst e
  kernel_rfl
theorem bind_law_operator (fd : FuncData) (hp : fd.params = argsOf s_law_operator) (hd : fd.defaults = .none) : ∀ ws : List Value, ws.length = (["trunk"] : List Str).length → bindArgs fd ⟨ws, []⟩ = pure ((["trunk"] : List Str).zip ws) := by
  obtain ⟨_, _, _, _, _, _, _, _, _⟩ := fd
  cases hp; cases hd
  intro ws h
  obtain ⟨w0, r0, e0, h0⟩ := lenS h; subst e0
  have e := len0 h0; subst e
  kernel_rfl
theorem bind_law_word (fd : FuncData) (hp : fd.params = argsOf s_law_word) (hd : fd.defaults = .none) : ∀ ws : List Value, ws.length = (["trunk"] : List Str).length → bindArgs fd ⟨ws, []⟩ = pure ((["trunk"] : List Str).zip ws) := by
  obtain ⟨_, _, _, _, _, _, _, _, _⟩ := fd
  cases hp; cases hd
  intro ws h
  obtain ⟨w0, r0, e0, h0⟩ := lenS h; subst e0
  have e := len0 h0; subst e
  kernel_rfl
theorem bind_law_is_right (fd : FuncData) (hp : fd.params = argsOf s_law_is_right) (hd : fd.defaults = .none) : ∀ ws : List Value, ws.length = (["words"] : List Str).length → bindArgs fd ⟨ws, []⟩ = pure ((["words"] : List Str).zip ws) := by
  obtain ⟨_, _, _, _, _, _, _, _, _⟩ := fd
  cases hp; cases hd
  intro ws h
  obtain ⟨w0, r0, e0, h0⟩ := lenS h; subst e0
  have e := len0 h0; subst e
  kernel_rfl
end
end Mine
end

section
open PySem PySem.W PySem.Calls PyProof.Rows PyProof.V
set_option linter.unusedVariables false
set_option maxRecDepth 100000
set_option maxHeartbeats 4000000
set_option Elab.async false
namespace Mine
section
variable {prog : Program} {w : World} {K : Frag} {hB : Heap} {mg mb : Str → Option Value}

theorem fnOk_gen {cl f : Str} {fn : Fn} {s : Stmt} (KX : K.In hB) (hn : (cl, f) ∈ tabNames) (k : FnK K cl f s)
    (hb : ∀ fd : FuncData, fd.params = argsOf s → fd.scope = scopeOf s → fdIn K (adOf K cl f) = some fd → BindOk (mkX prog w K hB mg mb) fd fn)
    (h1 : (scopeOf s).kind = .function) (h2 : (scopeOf s).isCoroutine = false) (h3 : (scopeOf s).isGenerator = false) (h4 : ((scopeOf s).names.all fun p => p.2 != .cell && p.2 != .free) = true) :
    FnOk (mkX prog w K hB mg mb) cl f fn (scopeOf s) (bodyOf s) := by
  obtain ⟨o, fd, e1, e2, e3, e4⟩ := fd_at KX k
  unfold viewFd at e4
  simp only [Prod.mk.injEq] at e4
  obtain ⟨q1, q2, q3, q4, q5, q6, q7⟩ := e4
  refine ⟨⟨_, o, fd, if_pos hn, e1, e2, codeRec_of KX q7, q2, q3, q4, q5, q6, hb fd q1 q3 e3⟩, h1, h2, h3, fun p hp => ?_⟩
  have := List.all_eq_true.mp h4 p hp
  simpa using this

theorem tup_obj {h : Heap} {a : Addr} {ws : List Value} (X : K.In h) (e : tupIn K a = some ws) : ∃ o n, h.get? a = some o ∧ o.data = .seq ws.toArray n := by
  obtain ⟨o, ho, -, n, hd⟩ := tupIn_is X e
  exact ⟨o, n, ho, hd⟩

theorem binds_word {s : Shared} {fd : FuncData} {T : Addr} {o : Obj} {a b c : Value} {n : Nat} (hp : fd.params = argsOf s_Word_init) (hd : fd.defaults = .ref T) (ho : s.heap.get? T = some o) (hs : o.data = .seq #[a, b, c] n) :
    ∀ ws : List Value, ws.length = 8 → BindsTo s fd ⟨ws, []⟩ ((["self", "kind", "text", "line", "column", "value", "is_first", "end"] : List Str).zip ws) := by
  obtain ⟨_, _, _, _, _, _, _, _, _⟩ := fd
  cases hp; cases hd
  intro ws h
  obtain ⟨w0, r0, e0, g0⟩ := lenS h; subst e0
  obtain ⟨w1, r1, e1, g1⟩ := lenS g0; subst e1
  obtain ⟨w2, r2, e2, g2⟩ := lenS g1; subst e2
  obtain ⟨w3, r3, e3, g3⟩ := lenS g2; subst e3
  obtain ⟨w4, r4, e4, g4⟩ := lenS g3; subst e4
  obtain ⟨w5, r5, e5, g5⟩ := lenS g4; subst e5
  obtain ⟨w6, r6, e6, g6⟩ := lenS g5; subst e6
  obtain ⟨w7, r7, e7, g7⟩ := lenS g6; subst e7
  have e9 := len0 g7; subst e9
  exact BindsTo.of_defaults rfl ho hs rfl rfl

theorem binds_sign {s : Shared} {fd : FuncData} {T : Addr} {o : Obj} {d : Value} {n : Nat} (hp : fd.params = argsOf s_Signs_sign) (hd : fd.defaults = .ref T) (ho : s.heap.get? T = some o) (hs : o.data = .seq #[d] n) :
    (∀ w0 w1 : Value, BindsTo s fd ⟨[w0, w1], []⟩ ((["self", "ahead"] : List Str).zip [w0, w1])) ∧ ∀ w0 : Value, BindsTo s fd ⟨[w0], []⟩ ((["self", "ahead"] : List Str).zip [w0, d]) := by
  obtain ⟨_, _, _, _, _, _, _, _, _⟩ := fd
  cases hp; cases hd
  exact ⟨fun w0 w1 => BindsTo.of_defaults rfl ho hs rfl rfl, fun w0 => BindsTo.of_defaults rfl ho hs rfl rfl⟩

theorem bindOk_word (KX : K.In hB) (ok : KOk K w.params) (fd : FuncData) (hp : fd.params = argsOf s_Word_init) (hsc : fd.scope = scopeOf s_Word_init) (hf : fdIn K (adOf K "Word" "__init__") = some fd) :
    BindOk (mkX prog w K hB mg mb) fd ⟨["self", "kind", "text", "line", "column", "value", "is_first", "end"], [.none, .bool false, .none], b_Word_init⟩ := by
  intro s ρ args ws l hk q e
  have dW := ok.dWord
  rw [hf] at dW
  dsimp only [Option.bind_some] at dW
  split at dW
  · rename_i T hT
    obtain ⟨us, hu, hl⟩ := map2 dW
    obtain ⟨o, n, ho, hs⟩ := tup_obj KX hu
    have hl : us.length = 3 := hl
    obtain ⟨a, r0, e0, g0⟩ := lenS hl; subst e0
    obtain ⟨b, r1, e1, g1⟩ := lenS g0; subst e1
    obtain ⟨c, r2, e2, g2⟩ := lenS g1; subst e2
    have e9 := len0 g2; subst e9
    unfold bindP at e
    split at e
    · rename_i hlen
      cases e
      have := q.length
      have h8 : args.length = 8 := hlen
      refine ⟨_, binds_word hp hT (hk _ _ ho) hs ws (by omega), fun p hp' => ?_, fun y v e => zip_binds _ _ _ (by decide +kernel) hlen.symm q e⟩
      rw [hsc]
      have hm := (List.of_mem_zip hp').1
      exact map_at (f := fun y => (scopeOf s_Word_init).names.lookup y) (g := fun _ => some NameKind.local) (l := (["self", "kind", "text", "line", "column", "value", "is_first", "end"] : List Str)) (by kernel_rfl) hm
    · cases e
  · cases dW

theorem bindOk_sign (KX : K.In hB) (ok : KOk K w.params) (fd : FuncData) (hp : fd.params = argsOf s_Signs_sign) (hsc : fd.scope = scopeOf s_Signs_sign) (hf : fdIn K (adOf K "Signs" "sign") = some fd) :
    BindOk (mkX prog w K hB mg mb) fd ⟨["self", "ahead"], [.int 0], b_Signs_sign⟩ := by
  intro s ρ args ws l hk q e
  have dW := ok.dSign
  rw [hf] at dW
  dsimp only [Option.bind_some] at dW
  split at dW
  · rename_i T hT
    obtain ⟨us, hu, hl⟩ := map2 dW
    obtain ⟨o, n, ho, hs⟩ := tup_obj KX hu
    have hlen0 : us.length = 1 := by simpa using congrArg List.length hl
    obtain ⟨d, r0, e0, g0⟩ := lenS hlen0; subst e0
    have e9 := len0 g0; subst e9
    have hd : int? d = some 0 := by simpa using hl
    obtain ⟨t, rfl⟩ : ∃ t, d = .int 0 t := by
      cases d with
      | int i t => cases hd; exact ⟨t, rfl⟩
      | _ => cases hd
    have B := binds_sign hp hT (hk _ _ ho) hs
    have hloc : ∀ y ∈ (["self", "ahead"] : List Str), fd.scope.names.lookup y = some .local := fun y hy => by
      rw [hsc]
      exact map_at (f := fun y => (scopeOf s_Signs_sign).names.lookup y) (g := fun _ => some NameKind.local) (l := (["self", "ahead"] : List Str)) (by kernel_rfl) hy
    unfold bindP at e
    split at e
    · rename_i hlen
      cases e
      have hl2 := q.length
      have h8 : args.length = 2 := hlen
      rw [h8] at hl2
      obtain ⟨w0, u0, e0, g0⟩ := lenS hl2.symm; subst e0
      obtain ⟨w1, u1, e1, g1⟩ := lenS g0; subst e1
      have e8 := len0 g1; subst e8
      exact ⟨_, B.1 w0 w1, fun p hp' => hloc _ (List.of_mem_zip hp').1, fun y v e => zip_binds _ _ _ (by decide +kernel) hlen.symm q e⟩
    · dsimp only at e
      split at e
      · rename_i hlen
        cases e
        have hl2 := q.length
        have h8 : args.length = 1 := by have : args.length + 1 = 2 := hlen; omega
        rw [h8] at hl2
        obtain ⟨w0, u0, e0, g0⟩ := lenS hl2.symm; subst e0
        have e8 := len0 g0; subst e8
        exact ⟨_, B.2 w0, fun p hp' => hloc _ (List.of_mem_zip hp').1, fun y v e => zip_binds _ (args ++ [.int 0]) [w0, .int 0 t] (by decide +kernel) (by simp [h8]) (q.append (.one (by simp only [VR]; exact ⟨t, rfl⟩))) e⟩
      · cases e
  · cases dW

noncomputable abbrev cfgR (N k : Nat) : Cfg := ⟨run tab globF N k, globF, N⟩


noncomputable def EntOk (x : X) (N : Nat) (cl f : Str) (fn : Fn) : Prop := ∃ sc body, FnOk x cl f fn sc body ∧ ∀ n (r : Str → Str → List V → Obs → Option (V × Obs)), CallOk x ⟨r, globF, N⟩ n → SimBk x (n + 1) sc (fn.body ⟨r, globF, N⟩) body
theorem ent_Word_init (KX : K.In hB) (ok : KOk K w.params) (X : XOk (mkX prog w K hB mg mb)) (GO : GlobOk (mkX prog w K hB mg mb) globF) (BO : BltOk (mkX prog w K hB mg mb)) (CA : ClsAll (mkX prog w K hB mg mb)) (F : FnAll (mkX prog w K hB mg mb)) (N : Nat) : EntOk (mkX prog w K hB mg mb) N "Word" "__init__" ⟨["self", "kind", "text", "line", "column", "value", "is_first", "end"], [.none, .bool false, .none], b_Word_init⟩ := by
  refine ⟨scopeOf s_Word_init, bodyOf s_Word_init, ?_, fun n r C => ?_⟩; rotate_left; (show SimBk _ _ _ (Fn.body (Fn.mk _ _ _) _) _); (dsimp only [Fn.body]); with_reducible exact w_Word_init (c := ⟨r, globF, N⟩) X GO BO CA F C
  exact fnOk_gen KX (by decide +kernel) ok.f_Word_init (fun fd a b c => bindOk_word KX ok fd a b c) (by kernel_rfl) (by kernel_rfl) (by kernel_rfl) (by kernel_rfl)
theorem ent_Word_place (KX : K.In hB) (ok : KOk K w.params) (X : XOk (mkX prog w K hB mg mb)) (GO : GlobOk (mkX prog w K hB mg mb) globF) (BO : BltOk (mkX prog w K hB mg mb)) (CA : ClsAll (mkX prog w K hB mg mb)) (F : FnAll (mkX prog w K hB mg mb)) (N : Nat) : EntOk (mkX prog w K hB mg mb) N "Word" "place" ⟨["self"], [], b_Word_place⟩ := by
  refine ⟨scopeOf s_Word_place, bodyOf s_Word_place, ?_, fun n r C => ?_⟩; rotate_left; (show SimBk _ _ _ (Fn.body (Fn.mk _ _ _) _) _); (dsimp only [Fn.body]); with_reducible exact w_Word_place (c := ⟨r, globF, N⟩) X GO BO CA F C
  exact fnOk_plain KX (by decide +kernel) ok.f_Word_place ok.d_Word_place rfl (by decide +kernel) (by kernel_rfl) bind_Word_place (by kernel_rfl) (by kernel_rfl) (by kernel_rfl) (by kernel_rfl)
theorem ent_Signs_init (KX : K.In hB) (ok : KOk K w.params) (X : XOk (mkX prog w K hB mg mb)) (GO : GlobOk (mkX prog w K hB mg mb) globF) (BO : BltOk (mkX prog w K hB mg mb)) (CA : ClsAll (mkX prog w K hB mg mb)) (F : FnAll (mkX prog w K hB mg mb)) (N : Nat) : EntOk (mkX prog w K hB mg mb) N "Signs" "__init__" ⟨["self", "text"], [], b_Signs_init⟩ := by
  refine ⟨scopeOf s_Signs_init, bodyOf s_Signs_init, ?_, fun n r C => ?_⟩; rotate_left; (show SimBk _ _ _ (Fn.body (Fn.mk _ _ _) _) _); (dsimp only [Fn.body]); with_reducible exact w_Signs_init (c := ⟨r, globF, N⟩) X GO BO CA F C
  exact fnOk_plain KX (by decide +kernel) ok.f_Signs_init ok.d_Signs_init rfl (by decide +kernel) (by kernel_rfl) bind_Signs_init (by kernel_rfl) (by kernel_rfl) (by kernel_rfl) (by kernel_rfl)
theorem ent_Signs_sign (KX : K.In hB) (ok : KOk K w.params) (X : XOk (mkX prog w K hB mg mb)) (GO : GlobOk (mkX prog w K hB mg mb) globF) (BO : BltOk (mkX prog w K hB mg mb)) (CA : ClsAll (mkX prog w K hB mg mb)) (F : FnAll (mkX prog w K hB mg mb)) (N : Nat) : EntOk (mkX prog w K hB mg mb) N "Signs" "sign" ⟨["self", "ahead"], [.int 0], b_Signs_sign⟩ := by
  refine ⟨scopeOf s_Signs_sign, bodyOf s_Signs_sign, ?_, fun n r C => ?_⟩; rotate_left; (show SimBk _ _ _ (Fn.body (Fn.mk _ _ _) _) _); (dsimp only [Fn.body]); with_reducible exact w_Signs_sign (c := ⟨r, globF, N⟩) X GO BO CA F C
  exact fnOk_gen KX (by decide +kernel) ok.f_Signs_sign (fun fd a b c => bindOk_sign KX ok fd a b c) (by kernel_rfl) (by kernel_rfl) (by kernel_rfl) (by kernel_rfl)
theorem ent_Signs_starts (KX : K.In hB) (ok : KOk K w.params) (X : XOk (mkX prog w K hB mg mb)) (GO : GlobOk (mkX prog w K hB mg mb) globF) (BO : BltOk (mkX prog w K hB mg mb)) (CA : ClsAll (mkX prog w K hB mg mb)) (F : FnAll (mkX prog w K hB mg mb)) (N : Nat) : EntOk (mkX prog w K hB mg mb) N "Signs" "starts" ⟨["self", "some"], [], b_Signs_starts⟩ := by
  refine ⟨scopeOf s_Signs_starts, bodyOf s_Signs_starts, ?_, fun n r C => ?_⟩; rotate_left; (show SimBk _ _ _ (Fn.body (Fn.mk _ _ _) _) _); (dsimp only [Fn.body]); with_reducible exact w_Signs_starts (c := ⟨r, globF, N⟩) X GO BO CA F C
  exact fnOk_plain KX (by decide +kernel) ok.f_Signs_starts ok.d_Signs_starts rfl (by decide +kernel) (by kernel_rfl) bind_Signs_starts (by kernel_rfl) (by kernel_rfl) (by kernel_rfl) (by kernel_rfl)
theorem ent_Signs_step (KX : K.In hB) (ok : KOk K w.params) (X : XOk (mkX prog w K hB mg mb)) (GO : GlobOk (mkX prog w K hB mg mb) globF) (BO : BltOk (mkX prog w K hB mg mb)) (CA : ClsAll (mkX prog w K hB mg mb)) (F : FnAll (mkX prog w K hB mg mb)) (N : Nat) : EntOk (mkX prog w K hB mg mb) N "Signs" "step" ⟨["self"], [], b_Signs_step⟩ := by
  refine ⟨scopeOf s_Signs_step, bodyOf s_Signs_step, ?_, fun n r C => ?_⟩; rotate_left; (show SimBk _ _ _ (Fn.body (Fn.mk _ _ _) _) _); (dsimp only [Fn.body]); with_reducible exact w_Signs_step (c := ⟨r, globF, N⟩) X GO BO CA F C
  exact fnOk_plain KX (by decide +kernel) ok.f_Signs_step ok.d_Signs_step rfl (by decide +kernel) (by kernel_rfl) bind_Signs_step (by kernel_rfl) (by kernel_rfl) (by kernel_rfl) (by kernel_rfl)
theorem ent_Signs_take (KX : K.In hB) (ok : KOk K w.params) (X : XOk (mkX prog w K hB mg mb)) (GO : GlobOk (mkX prog w K hB mg mb) globF) (BO : BltOk (mkX prog w K hB mg mb)) (CA : ClsAll (mkX prog w K hB mg mb)) (F : FnAll (mkX prog w K hB mg mb)) (N : Nat) : EntOk (mkX prog w K hB mg mb) N "Signs" "take" ⟨["self", "letters"], [], b_Signs_take⟩ := by
  refine ⟨scopeOf s_Signs_take, bodyOf s_Signs_take, ?_, fun n r C => ?_⟩; rotate_left; (show SimBk _ _ _ (Fn.body (Fn.mk _ _ _) _) _); (dsimp only [Fn.body]); with_reducible exact w_Signs_take (c := ⟨r, globF, N⟩) X GO BO CA F C
  exact fnOk_plain KX (by decide +kernel) ok.f_Signs_take ok.d_Signs_take rfl (by decide +kernel) (by kernel_rfl) bind_Signs_take (by kernel_rfl) (by kernel_rfl) (by kernel_rfl) (by kernel_rfl)
theorem ent_Signs_place (KX : K.In hB) (ok : KOk K w.params) (X : XOk (mkX prog w K hB mg mb)) (GO : GlobOk (mkX prog w K hB mg mb) globF) (BO : BltOk (mkX prog w K hB mg mb)) (CA : ClsAll (mkX prog w K hB mg mb)) (F : FnAll (mkX prog w K hB mg mb)) (N : Nat) : EntOk (mkX prog w K hB mg mb) N "Signs" "place" ⟨["self"], [], b_Signs_place⟩ := by
  refine ⟨scopeOf s_Signs_place, bodyOf s_Signs_place, ?_, fun n r C => ?_⟩; rotate_left; (show SimBk _ _ _ (Fn.body (Fn.mk _ _ _) _) _); (dsimp only [Fn.body]); with_reducible exact w_Signs_place (c := ⟨r, globF, N⟩) X GO BO CA F C
  exact fnOk_plain KX (by decide +kernel) ok.f_Signs_place ok.d_Signs_place rfl (by decide +kernel) (by kernel_rfl) bind_Signs_place (by kernel_rfl) (by kernel_rfl) (by kernel_rfl) (by kernel_rfl)
theorem ent_is_among (KX : K.In hB) (ok : KOk K w.params) (X : XOk (mkX prog w K hB mg mb)) (GO : GlobOk (mkX prog w K hB mg mb) globF) (BO : BltOk (mkX prog w K hB mg mb)) (CA : ClsAll (mkX prog w K hB mg mb)) (F : FnAll (mkX prog w K hB mg mb)) (N : Nat) : EntOk (mkX prog w K hB mg mb) N "" "is_among" ⟨["sign", "letters"], [], b_is_among⟩ := by
  refine ⟨scopeOf s_is_among, bodyOf s_is_among, ?_, fun n r C => ?_⟩; rotate_left; (show SimBk _ _ _ (Fn.body (Fn.mk _ _ _) _) _); (dsimp only [Fn.body]); with_reducible exact w_is_among (c := ⟨r, globF, N⟩) X GO BO CA F C
  exact fnOk_plain KX (by decide +kernel) ok.f_is_among ok.d_is_among rfl (by decide +kernel) (by kernel_rfl) bind_is_among (by kernel_rfl) (by kernel_rfl) (by kernel_rfl) (by kernel_rfl)
theorem ent_is_bare (KX : K.In hB) (ok : KOk K w.params) (X : XOk (mkX prog w K hB mg mb)) (GO : GlobOk (mkX prog w K hB mg mb) globF) (BO : BltOk (mkX prog w K hB mg mb)) (CA : ClsAll (mkX prog w K hB mg mb)) (F : FnAll (mkX prog w K hB mg mb)) (N : Nat) : EntOk (mkX prog w K hB mg mb) N "" "is_bare" ⟨["sign"], [], b_is_bare⟩ := by
  refine ⟨scopeOf s_is_bare, bodyOf s_is_bare, ?_, fun n r C => ?_⟩; rotate_left; (show SimBk _ _ _ (Fn.body (Fn.mk _ _ _) _) _); (dsimp only [Fn.body]); with_reducible exact w_is_bare (c := ⟨r, globF, N⟩) X GO BO CA F C
  exact fnOk_plain KX (by decide +kernel) ok.f_is_bare ok.d_is_bare rfl (by decide +kernel) (by kernel_rfl) bind_is_bare (by kernel_rfl) (by kernel_rfl) (by kernel_rfl) (by kernel_rfl)
theorem ent_name_letters (KX : K.In hB) (ok : KOk K w.params) (X : XOk (mkX prog w K hB mg mb)) (GO : GlobOk (mkX prog w K hB mg mb) globF) (BO : BltOk (mkX prog w K hB mg mb)) (CA : ClsAll (mkX prog w K hB mg mb)) (F : FnAll (mkX prog w K hB mg mb)) (N : Nat) : EntOk (mkX prog w K hB mg mb) N "" "name_letters" ⟨[], [], b_name_letters⟩ := by
  refine ⟨scopeOf s_name_letters, bodyOf s_name_letters, ?_, fun n r C => ?_⟩; rotate_left; (show SimBk _ _ _ (Fn.body (Fn.mk _ _ _) _) _); (dsimp only [Fn.body]); with_reducible exact w_name_letters (c := ⟨r, globF, N⟩) X GO BO CA F C
  exact fnOk_plain KX (by decide +kernel) ok.f_name_letters ok.d_name_letters rfl (by decide +kernel) (by kernel_rfl) bind_name_letters (by kernel_rfl) (by kernel_rfl) (by kernel_rfl) (by kernel_rfl)
theorem ent_is_line_comment (KX : K.In hB) (ok : KOk K w.params) (X : XOk (mkX prog w K hB mg mb)) (GO : GlobOk (mkX prog w K hB mg mb) globF) (BO : BltOk (mkX prog w K hB mg mb)) (CA : ClsAll (mkX prog w K hB mg mb)) (F : FnAll (mkX prog w K hB mg mb)) (N : Nat) : EntOk (mkX prog w K hB mg mb) N "" "is_line_comment" ⟨["signs"], [], b_is_line_comment⟩ := by
  refine ⟨scopeOf s_is_line_comment, bodyOf s_is_line_comment, ?_, fun n r C => ?_⟩; rotate_left; (show SimBk _ _ _ (Fn.body (Fn.mk _ _ _) _) _); (dsimp only [Fn.body]); with_reducible exact w_is_line_comment (c := ⟨r, globF, N⟩) X GO BO CA F C
  exact fnOk_plain KX (by decide +kernel) ok.f_is_line_comment ok.d_is_line_comment rfl (by decide +kernel) (by kernel_rfl) bind_is_line_comment (by kernel_rfl) (by kernel_rfl) (by kernel_rfl) (by kernel_rfl)
theorem ent_skip_between (KX : K.In hB) (ok : KOk K w.params) (X : XOk (mkX prog w K hB mg mb)) (GO : GlobOk (mkX prog w K hB mg mb) globF) (BO : BltOk (mkX prog w K hB mg mb)) (CA : ClsAll (mkX prog w K hB mg mb)) (F : FnAll (mkX prog w K hB mg mb)) (N : Nat) : EntOk (mkX prog w K hB mg mb) N "" "skip_between" ⟨["signs"], [], b_skip_between⟩ := by
  refine ⟨scopeOf s_skip_between, bodyOf s_skip_between, ?_, fun n r C => ?_⟩; rotate_left; (show SimBk _ _ _ (Fn.body (Fn.mk _ _ _) _) _); (dsimp only [Fn.body]); with_reducible exact w_skip_between (c := ⟨r, globF, N⟩) X GO BO CA F C
  exact fnOk_plain KX (by decide +kernel) ok.f_skip_between ok.d_skip_between rfl (by decide +kernel) (by kernel_rfl) bind_skip_between (by kernel_rfl) (by kernel_rfl) (by kernel_rfl) (by kernel_rfl)
theorem ent_number_of (KX : K.In hB) (ok : KOk K w.params) (X : XOk (mkX prog w K hB mg mb)) (GO : GlobOk (mkX prog w K hB mg mb) globF) (BO : BltOk (mkX prog w K hB mg mb)) (CA : ClsAll (mkX prog w K hB mg mb)) (F : FnAll (mkX prog w K hB mg mb)) (N : Nat) : EntOk (mkX prog w K hB mg mb) N "" "number_of" ⟨["digits", "base", "place"], [], b_number_of⟩ := by
  refine ⟨scopeOf s_number_of, bodyOf s_number_of, ?_, fun n r C => ?_⟩; rotate_left; (show SimBk _ _ _ (Fn.body (Fn.mk _ _ _) _) _); (dsimp only [Fn.body]); with_reducible exact w_number_of (c := ⟨r, globF, N⟩) X GO BO CA F C
  exact fnOk_plain KX (by decide +kernel) ok.f_number_of ok.d_number_of rfl (by decide +kernel) (by kernel_rfl) bind_number_of (by kernel_rfl) (by kernel_rfl) (by kernel_rfl) (by kernel_rfl)
theorem ent_checked_sign (KX : K.In hB) (ok : KOk K w.params) (X : XOk (mkX prog w K hB mg mb)) (GO : GlobOk (mkX prog w K hB mg mb) globF) (BO : BltOk (mkX prog w K hB mg mb)) (CA : ClsAll (mkX prog w K hB mg mb)) (F : FnAll (mkX prog w K hB mg mb)) (N : Nat) : EntOk (mkX prog w K hB mg mb) N "" "checked_sign" ⟨["number", "place"], [], b_checked_sign⟩ := by
  refine ⟨scopeOf s_checked_sign, bodyOf s_checked_sign, ?_, fun n r C => ?_⟩; rotate_left; (show SimBk _ _ _ (Fn.body (Fn.mk _ _ _) _) _); (dsimp only [Fn.body]); with_reducible exact w_checked_sign (c := ⟨r, globF, N⟩) X GO BO CA F C
  exact fnOk_plain KX (by decide +kernel) ok.f_checked_sign ok.d_checked_sign rfl (by decide +kernel) (by kernel_rfl) bind_checked_sign (by kernel_rfl) (by kernel_rfl) (by kernel_rfl) (by kernel_rfl)
theorem ent_named_escape (KX : K.In hB) (ok : KOk K w.params) (X : XOk (mkX prog w K hB mg mb)) (GO : GlobOk (mkX prog w K hB mg mb) globF) (BO : BltOk (mkX prog w K hB mg mb)) (CA : ClsAll (mkX prog w K hB mg mb)) (F : FnAll (mkX prog w K hB mg mb)) (N : Nat) : EntOk (mkX prog w K hB mg mb) N "" "named_escape" ⟨["signs"], [], b_named_escape⟩ := by
  refine ⟨scopeOf s_named_escape, bodyOf s_named_escape, ?_, fun n r C => ?_⟩; rotate_left; (show SimBk _ _ _ (Fn.body (Fn.mk _ _ _) _) _); (dsimp only [Fn.body]); with_reducible exact w_named_escape (c := ⟨r, globF, N⟩) X GO BO CA F C
  exact fnOk_plain KX (by decide +kernel) ok.f_named_escape ok.d_named_escape rfl (by decide +kernel) (by kernel_rfl) bind_named_escape (by kernel_rfl) (by kernel_rfl) (by kernel_rfl) (by kernel_rfl)
theorem ent_read_escape (KX : K.In hB) (ok : KOk K w.params) (X : XOk (mkX prog w K hB mg mb)) (GO : GlobOk (mkX prog w K hB mg mb) globF) (BO : BltOk (mkX prog w K hB mg mb)) (CA : ClsAll (mkX prog w K hB mg mb)) (F : FnAll (mkX prog w K hB mg mb)) (N : Nat) : EntOk (mkX prog w K hB mg mb) N "" "read_escape" ⟨["signs"], [], b_read_escape⟩ := by
  refine ⟨scopeOf s_read_escape, bodyOf s_read_escape, ?_, fun n r C => ?_⟩; rotate_left; (show SimBk _ _ _ (Fn.body (Fn.mk _ _ _) _) _); (dsimp only [Fn.body]); with_reducible exact w_read_escape (c := ⟨r, globF, N⟩) X GO BO CA F C
  exact fnOk_plain KX (by decide +kernel) ok.f_read_escape ok.d_read_escape rfl (by decide +kernel) (by kernel_rfl) bind_read_escape (by kernel_rfl) (by kernel_rfl) (by kernel_rfl) (by kernel_rfl)
theorem ent_read_char (KX : K.In hB) (ok : KOk K w.params) (X : XOk (mkX prog w K hB mg mb)) (GO : GlobOk (mkX prog w K hB mg mb) globF) (BO : BltOk (mkX prog w K hB mg mb)) (CA : ClsAll (mkX prog w K hB mg mb)) (F : FnAll (mkX prog w K hB mg mb)) (N : Nat) : EntOk (mkX prog w K hB mg mb) N "" "read_char" ⟨["signs"], [], b_read_char⟩ := by
  refine ⟨scopeOf s_read_char, bodyOf s_read_char, ?_, fun n r C => ?_⟩; rotate_left; (show SimBk _ _ _ (Fn.body (Fn.mk _ _ _) _) _); (dsimp only [Fn.body]); with_reducible exact w_read_char (c := ⟨r, globF, N⟩) X GO BO CA F C
  exact fnOk_plain KX (by decide +kernel) ok.f_read_char ok.d_read_char rfl (by decide +kernel) (by kernel_rfl) bind_read_char (by kernel_rfl) (by kernel_rfl) (by kernel_rfl) (by kernel_rfl)
theorem ent_read_text (KX : K.In hB) (ok : KOk K w.params) (X : XOk (mkX prog w K hB mg mb)) (GO : GlobOk (mkX prog w K hB mg mb) globF) (BO : BltOk (mkX prog w K hB mg mb)) (CA : ClsAll (mkX prog w K hB mg mb)) (F : FnAll (mkX prog w K hB mg mb)) (N : Nat) : EntOk (mkX prog w K hB mg mb) N "" "read_text" ⟨["signs"], [], b_read_text⟩ := by
  refine ⟨scopeOf s_read_text, bodyOf s_read_text, ?_, fun n r C => ?_⟩; rotate_left; (show SimBk _ _ _ (Fn.body (Fn.mk _ _ _) _) _); (dsimp only [Fn.body]); with_reducible exact w_read_text (c := ⟨r, globF, N⟩) X GO BO CA F C
  exact fnOk_plain KX (by decide +kernel) ok.f_read_text ok.d_read_text rfl (by decide +kernel) (by kernel_rfl) bind_read_text (by kernel_rfl) (by kernel_rfl) (by kernel_rfl) (by kernel_rfl)
theorem ent_symbol_kind (KX : K.In hB) (ok : KOk K w.params) (X : XOk (mkX prog w K hB mg mb)) (GO : GlobOk (mkX prog w K hB mg mb) globF) (BO : BltOk (mkX prog w K hB mg mb)) (CA : ClsAll (mkX prog w K hB mg mb)) (F : FnAll (mkX prog w K hB mg mb)) (N : Nat) : EntOk (mkX prog w K hB mg mb) N "" "symbol_kind" ⟨["text"], [], b_symbol_kind⟩ := by
  refine ⟨scopeOf s_symbol_kind, bodyOf s_symbol_kind, ?_, fun n r C => ?_⟩; rotate_left; (show SimBk _ _ _ (Fn.body (Fn.mk _ _ _) _) _); (dsimp only [Fn.body]); with_reducible exact w_symbol_kind (c := ⟨r, globF, N⟩) X GO BO CA F C
  exact fnOk_plain KX (by decide +kernel) ok.f_symbol_kind ok.d_symbol_kind rfl (by decide +kernel) (by kernel_rfl) bind_symbol_kind (by kernel_rfl) (by kernel_rfl) (by kernel_rfl) (by kernel_rfl)
theorem ent_read_word (KX : K.In hB) (ok : KOk K w.params) (X : XOk (mkX prog w K hB mg mb)) (GO : GlobOk (mkX prog w K hB mg mb) globF) (BO : BltOk (mkX prog w K hB mg mb)) (CA : ClsAll (mkX prog w K hB mg mb)) (F : FnAll (mkX prog w K hB mg mb)) (N : Nat) : EntOk (mkX prog w K hB mg mb) N "" "read_word" ⟨["signs"], [], b_read_word⟩ := by
  refine ⟨scopeOf s_read_word, bodyOf s_read_word, ?_, fun n r C => ?_⟩; rotate_left; (show SimBk _ _ _ (Fn.body (Fn.mk _ _ _) _) _); (dsimp only [Fn.body]); with_reducible exact w_read_word (c := ⟨r, globF, N⟩) X GO BO CA F C
  exact fnOk_plain KX (by decide +kernel) ok.f_read_word ok.d_read_word rfl (by decide +kernel) (by kernel_rfl) bind_read_word (by kernel_rfl) (by kernel_rfl) (by kernel_rfl) (by kernel_rfl)
theorem ent_words_of (KX : K.In hB) (ok : KOk K w.params) (X : XOk (mkX prog w K hB mg mb)) (GO : GlobOk (mkX prog w K hB mg mb) globF) (BO : BltOk (mkX prog w K hB mg mb)) (CA : ClsAll (mkX prog w K hB mg mb)) (F : FnAll (mkX prog w K hB mg mb)) (N : Nat) : EntOk (mkX prog w K hB mg mb) N "" "words_of" ⟨["text"], [], b_words_of⟩ := by
  refine ⟨scopeOf s_words_of, bodyOf s_words_of, ?_, fun n r C => ?_⟩; rotate_left; (show SimBk _ _ _ (Fn.body (Fn.mk _ _ _) _) _); (dsimp only [Fn.body]); with_reducible exact w_words_of (c := ⟨r, globF, N⟩) X GO BO CA F C
  exact fnOk_plain KX (by decide +kernel) ok.f_words_of ok.d_words_of rfl (by decide +kernel) (by kernel_rfl) bind_words_of (by kernel_rfl) (by kernel_rfl) (by kernel_rfl) (by kernel_rfl)
theorem ent_law_trunk (KX : K.In hB) (ok : KOk K w.params) (X : XOk (mkX prog w K hB mg mb)) (GO : GlobOk (mkX prog w K hB mg mb) globF) (BO : BltOk (mkX prog w K hB mg mb)) (CA : ClsAll (mkX prog w K hB mg mb)) (F : FnAll (mkX prog w K hB mg mb)) (N : Nat) : EntOk (mkX prog w K hB mg mb) N "" "_law_trunk" ⟨["script"], [], b_law_trunk⟩ := by
  refine ⟨scopeOf s_law_trunk, bodyOf s_law_trunk, ?_, fun n r C => ?_⟩; rotate_left; (show SimBk _ _ _ (Fn.body (Fn.mk _ _ _) _) _); (dsimp only [Fn.body]); with_reducible exact w_law_trunk (c := ⟨r, globF, N⟩) X GO BO CA F C
  exact fnOk_plain KX (by decide +kernel) ok.f_law_trunk ok.d_law_trunk rfl (by decide +kernel) (by kernel_rfl) bind_law_trunk (by kernel_rfl) (by kernel_rfl) (by kernel_rfl) (by kernel_rfl)
theorem ent_law_pull (KX : K.In hB) (ok : KOk K w.params) (X : XOk (mkX prog w K hB mg mb)) (GO : GlobOk (mkX prog w K hB mg mb) globF) (BO : BltOk (mkX prog w K hB mg mb)) (CA : ClsAll (mkX prog w K hB mg mb)) (F : FnAll (mkX prog w K hB mg mb)) (N : Nat) : EntOk (mkX prog w K hB mg mb) N "" "_law_pull" ⟨["trunk", "many"], [], b_law_pull⟩ := by
  refine ⟨scopeOf s_law_pull, bodyOf s_law_pull, ?_, fun n r C => ?_⟩; rotate_left; (show SimBk _ _ _ (Fn.body (Fn.mk _ _ _) _) _); (dsimp only [Fn.body]); with_reducible exact w_law_pull (c := ⟨r, globF, N⟩) X GO BO CA F C
  exact fnOk_plain KX (by decide +kernel) ok.f_law_pull ok.d_law_pull rfl (by decide +kernel) (by kernel_rfl) bind_law_pull (by kernel_rfl) (by kernel_rfl) (by kernel_rfl) (by kernel_rfl)
theorem ent_law_one (KX : K.In hB) (ok : KOk K w.params) (X : XOk (mkX prog w K hB mg mb)) (GO : GlobOk (mkX prog w K hB mg mb) globF) (BO : BltOk (mkX prog w K hB mg mb)) (CA : ClsAll (mkX prog w K hB mg mb)) (F : FnAll (mkX prog w K hB mg mb)) (N : Nat) : EntOk (mkX prog w K hB mg mb) N "" "_law_one" ⟨["trunk", "things"], [], b_law_one⟩ := by
  refine ⟨scopeOf s_law_one, bodyOf s_law_one, ?_, fun n r C => ?_⟩; rotate_left; (show SimBk _ _ _ (Fn.body (Fn.mk _ _ _) _) _); (dsimp only [Fn.body]); with_reducible exact w_law_one (c := ⟨r, globF, N⟩) X GO BO CA F C
  exact fnOk_plain KX (by decide +kernel) ok.f_law_one ok.d_law_one rfl (by decide +kernel) (by kernel_rfl) bind_law_one (by kernel_rfl) (by kernel_rfl) (by kernel_rfl) (by kernel_rfl)
theorem ent_law_named (KX : K.In hB) (ok : KOk K w.params) (X : XOk (mkX prog w K hB mg mb)) (GO : GlobOk (mkX prog w K hB mg mb) globF) (BO : BltOk (mkX prog w K hB mg mb)) (CA : ClsAll (mkX prog w K hB mg mb)) (F : FnAll (mkX prog w K hB mg mb)) (N : Nat) : EntOk (mkX prog w K hB mg mb) N "" "_law_named" ⟨[], [], b_law_named⟩ := by
  refine ⟨scopeOf s_law_named, bodyOf s_law_named, ?_, fun n r C => ?_⟩; rotate_left; (show SimBk _ _ _ (Fn.body (Fn.mk _ _ _) _) _); (dsimp only [Fn.body]); with_reducible exact w_law_named (c := ⟨r, globF, N⟩) X GO BO CA F C
  exact fnOk_plain KX (by decide +kernel) ok.f_law_named ok.d_law_named rfl (by decide +kernel) (by kernel_rfl) bind_law_named (by kernel_rfl) (by kernel_rfl) (by kernel_rfl) (by kernel_rfl)
theorem ent_law_escape (KX : K.In hB) (ok : KOk K w.params) (X : XOk (mkX prog w K hB mg mb)) (GO : GlobOk (mkX prog w K hB mg mb) globF) (BO : BltOk (mkX prog w K hB mg mb)) (CA : ClsAll (mkX prog w K hB mg mb)) (F : FnAll (mkX prog w K hB mg mb)) (N : Nat) : EntOk (mkX prog w K hB mg mb) N "" "_law_escape" ⟨["trunk"], [], b_law_escape⟩ := by
  refine ⟨scopeOf s_law_escape, bodyOf s_law_escape, ?_, fun n r C => ?_⟩; rotate_left; (show SimBk _ _ _ (Fn.body (Fn.mk _ _ _) _) _); (dsimp only [Fn.body]); with_reducible exact w_law_escape (c := ⟨r, globF, N⟩) X GO BO CA F C
  exact fnOk_plain KX (by decide +kernel) ok.f_law_escape ok.d_law_escape rfl (by decide +kernel) (by kernel_rfl) bind_law_escape (by kernel_rfl) (by kernel_rfl) (by kernel_rfl) (by kernel_rfl)
theorem ent_law_based (KX : K.In hB) (ok : KOk K w.params) (X : XOk (mkX prog w K hB mg mb)) (GO : GlobOk (mkX prog w K hB mg mb) globF) (BO : BltOk (mkX prog w K hB mg mb)) (CA : ClsAll (mkX prog w K hB mg mb)) (F : FnAll (mkX prog w K hB mg mb)) (N : Nat) : EntOk (mkX prog w K hB mg mb) N "" "_law_based" ⟨["number", "base"], [], b_law_based⟩ := by
  refine ⟨scopeOf s_law_based, bodyOf s_law_based, ?_, fun n r C => ?_⟩; rotate_left; (show SimBk _ _ _ (Fn.body (Fn.mk _ _ _) _) _); (dsimp only [Fn.body]); with_reducible exact w_law_based (c := ⟨r, globF, N⟩) X GO BO CA F C
  exact fnOk_plain KX (by decide +kernel) ok.f_law_based ok.d_law_based rfl (by decide +kernel) (by kernel_rfl) bind_law_based (by kernel_rfl) (by kernel_rfl) (by kernel_rfl) (by kernel_rfl)
theorem ent_law_text (KX : K.In hB) (ok : KOk K w.params) (X : XOk (mkX prog w K hB mg mb)) (GO : GlobOk (mkX prog w K hB mg mb) globF) (BO : BltOk (mkX prog w K hB mg mb)) (CA : ClsAll (mkX prog w K hB mg mb)) (F : FnAll (mkX prog w K hB mg mb)) (N : Nat) : EntOk (mkX prog w K hB mg mb) N "" "_law_text" ⟨["trunk"], [], b_law_text⟩ := by
  refine ⟨scopeOf s_law_text, bodyOf s_law_text, ?_, fun n r C => ?_⟩; rotate_left; (show SimBk _ _ _ (Fn.body (Fn.mk _ _ _) _) _); (dsimp only [Fn.body]); with_reducible exact w_law_text (c := ⟨r, globF, N⟩) X GO BO CA F C
  exact fnOk_plain KX (by decide +kernel) ok.f_law_text ok.d_law_text rfl (by decide +kernel) (by kernel_rfl) bind_law_text (by kernel_rfl) (by kernel_rfl) (by kernel_rfl) (by kernel_rfl)
theorem ent_law_sign (KX : K.In hB) (ok : KOk K w.params) (X : XOk (mkX prog w K hB mg mb)) (GO : GlobOk (mkX prog w K hB mg mb) globF) (BO : BltOk (mkX prog w K hB mg mb)) (CA : ClsAll (mkX prog w K hB mg mb)) (F : FnAll (mkX prog w K hB mg mb)) (N : Nat) : EntOk (mkX prog w K hB mg mb) N "" "_law_sign" ⟨["trunk"], [], b_law_sign⟩ := by
  refine ⟨scopeOf s_law_sign, bodyOf s_law_sign, ?_, fun n r C => ?_⟩; rotate_left; (show SimBk _ _ _ (Fn.body (Fn.mk _ _ _) _) _); (dsimp only [Fn.body]); with_reducible exact w_law_sign (c := ⟨r, globF, N⟩) X GO BO CA F C
  exact fnOk_plain KX (by decide +kernel) ok.f_law_sign ok.d_law_sign rfl (by decide +kernel) (by kernel_rfl) bind_law_sign (by kernel_rfl) (by kernel_rfl) (by kernel_rfl) (by kernel_rfl)
theorem ent_law_name (KX : K.In hB) (ok : KOk K w.params) (X : XOk (mkX prog w K hB mg mb)) (GO : GlobOk (mkX prog w K hB mg mb) globF) (BO : BltOk (mkX prog w K hB mg mb)) (CA : ClsAll (mkX prog w K hB mg mb)) (F : FnAll (mkX prog w K hB mg mb)) (N : Nat) : EntOk (mkX prog w K hB mg mb) N "" "_law_name" ⟨["trunk"], [], b_law_name⟩ := by
  refine ⟨scopeOf s_law_name, bodyOf s_law_name, ?_, fun n r C => ?_⟩; rotate_left; (show SimBk _ _ _ (Fn.body (Fn.mk _ _ _) _) _); (dsimp only [Fn.body]); with_reducible exact w_law_name (c := ⟨r, globF, N⟩) X GO BO CA F C
  exact fnOk_plain KX (by decide +kernel) ok.f_law_name ok.d_law_name rfl (by decide +kernel) (by kernel_rfl) bind_law_name (by kernel_rfl) (by kernel_rfl) (by kernel_rfl) (by kernel_rfl)
theorem ent_law_operator (KX : K.In hB) (ok : KOk K w.params) (X : XOk (mkX prog w K hB mg mb)) (GO : GlobOk (mkX prog w K hB mg mb) globF) (BO : BltOk (mkX prog w K hB mg mb)) (CA : ClsAll (mkX prog w K hB mg mb)) (F : FnAll (mkX prog w K hB mg mb)) (N : Nat) : EntOk (mkX prog w K hB mg mb) N "" "_law_operator" ⟨["trunk"], [], b_law_operator⟩ := by
  refine ⟨scopeOf s_law_operator, bodyOf s_law_operator, ?_, fun n r C => ?_⟩; rotate_left; (show SimBk _ _ _ (Fn.body (Fn.mk _ _ _) _) _); (dsimp only [Fn.body]); with_reducible exact w_law_operator (c := ⟨r, globF, N⟩) X GO BO CA F C
  exact fnOk_plain KX (by decide +kernel) ok.f_law_operator ok.d_law_operator rfl (by decide +kernel) (by kernel_rfl) bind_law_operator (by kernel_rfl) (by kernel_rfl) (by kernel_rfl) (by kernel_rfl)
theorem ent_law_word (KX : K.In hB) (ok : KOk K w.params) (X : XOk (mkX prog w K hB mg mb)) (GO : GlobOk (mkX prog w K hB mg mb) globF) (BO : BltOk (mkX prog w K hB mg mb)) (CA : ClsAll (mkX prog w K hB mg mb)) (F : FnAll (mkX prog w K hB mg mb)) (N : Nat) : EntOk (mkX prog w K hB mg mb) N "" "_law_word" ⟨["trunk"], [], b_law_word⟩ := by
  refine ⟨scopeOf s_law_word, bodyOf s_law_word, ?_, fun n r C => ?_⟩; rotate_left; (show SimBk _ _ _ (Fn.body (Fn.mk _ _ _) _) _); (dsimp only [Fn.body]); with_reducible exact w_law_word (c := ⟨r, globF, N⟩) X GO BO CA F C
  exact fnOk_plain KX (by decide +kernel) ok.f_law_word ok.d_law_word rfl (by decide +kernel) (by kernel_rfl) bind_law_word (by kernel_rfl) (by kernel_rfl) (by kernel_rfl) (by kernel_rfl)
theorem ent_law_is_right (KX : K.In hB) (ok : KOk K w.params) (X : XOk (mkX prog w K hB mg mb)) (GO : GlobOk (mkX prog w K hB mg mb) globF) (BO : BltOk (mkX prog w K hB mg mb)) (CA : ClsAll (mkX prog w K hB mg mb)) (F : FnAll (mkX prog w K hB mg mb)) (N : Nat) : EntOk (mkX prog w K hB mg mb) N "" "_law_is_right" ⟨["words"], [], b_law_is_right⟩ := by
  refine ⟨scopeOf s_law_is_right, bodyOf s_law_is_right, ?_, fun n r C => ?_⟩; rotate_left; (show SimBk _ _ _ (Fn.body (Fn.mk _ _ _) _) _); (dsimp only [Fn.body]); with_reducible exact w_law_is_right (c := ⟨r, globF, N⟩) X GO BO CA F C
  exact fnOk_plain KX (by decide +kernel) ok.f_law_is_right ok.d_law_is_right rfl (by decide +kernel) (by kernel_rfl) bind_law_is_right (by kernel_rfl) (by kernel_rfl) (by kernel_rfl) (by kernel_rfl)

theorem okAll (KX : K.In hB) (ok : KOk K w.params) (X : XOk (mkX prog w K hB mg mb)) (GO : GlobOk (mkX prog w K hB mg mb) globF) (BO : BltOk (mkX prog w K hB mg mb)) (CA : ClsAll (mkX prog w K hB mg mb)) (F : FnAll (mkX prog w K hB mg mb)) (N : Nat) : ∀ cl f fn, tabGet cl f tab = some fn → EntOk (mkX prog w K hB mg mb) N cl f fn := by
  have A : ∀ e ∈ tab, EntOk (mkX prog w K hB mg mb) N e.1 e.2.1 e.2.2 := by
    unfold tab
    refine List.forall_mem_cons.mpr ⟨ent_Word_init KX ok X GO BO CA F N, ?_⟩
    refine List.forall_mem_cons.mpr ⟨ent_Word_place KX ok X GO BO CA F N, ?_⟩
    refine List.forall_mem_cons.mpr ⟨ent_Signs_init KX ok X GO BO CA F N, ?_⟩
    refine List.forall_mem_cons.mpr ⟨ent_Signs_sign KX ok X GO BO CA F N, ?_⟩
    refine List.forall_mem_cons.mpr ⟨ent_Signs_starts KX ok X GO BO CA F N, ?_⟩
    refine List.forall_mem_cons.mpr ⟨ent_Signs_step KX ok X GO BO CA F N, ?_⟩
    refine List.forall_mem_cons.mpr ⟨ent_Signs_take KX ok X GO BO CA F N, ?_⟩
    refine List.forall_mem_cons.mpr ⟨ent_Signs_place KX ok X GO BO CA F N, ?_⟩
    refine List.forall_mem_cons.mpr ⟨ent_is_among KX ok X GO BO CA F N, ?_⟩
    refine List.forall_mem_cons.mpr ⟨ent_is_bare KX ok X GO BO CA F N, ?_⟩
    refine List.forall_mem_cons.mpr ⟨ent_name_letters KX ok X GO BO CA F N, ?_⟩
    refine List.forall_mem_cons.mpr ⟨ent_is_line_comment KX ok X GO BO CA F N, ?_⟩
    refine List.forall_mem_cons.mpr ⟨ent_skip_between KX ok X GO BO CA F N, ?_⟩
    refine List.forall_mem_cons.mpr ⟨ent_number_of KX ok X GO BO CA F N, ?_⟩
    refine List.forall_mem_cons.mpr ⟨ent_checked_sign KX ok X GO BO CA F N, ?_⟩
    refine List.forall_mem_cons.mpr ⟨ent_named_escape KX ok X GO BO CA F N, ?_⟩
    refine List.forall_mem_cons.mpr ⟨ent_read_escape KX ok X GO BO CA F N, ?_⟩
    refine List.forall_mem_cons.mpr ⟨ent_read_char KX ok X GO BO CA F N, ?_⟩
    refine List.forall_mem_cons.mpr ⟨ent_read_text KX ok X GO BO CA F N, ?_⟩
    refine List.forall_mem_cons.mpr ⟨ent_symbol_kind KX ok X GO BO CA F N, ?_⟩
    refine List.forall_mem_cons.mpr ⟨ent_read_word KX ok X GO BO CA F N, ?_⟩
    refine List.forall_mem_cons.mpr ⟨ent_words_of KX ok X GO BO CA F N, ?_⟩
    refine List.forall_mem_cons.mpr ⟨ent_law_trunk KX ok X GO BO CA F N, ?_⟩
    refine List.forall_mem_cons.mpr ⟨ent_law_pull KX ok X GO BO CA F N, ?_⟩
    refine List.forall_mem_cons.mpr ⟨ent_law_one KX ok X GO BO CA F N, ?_⟩
    refine List.forall_mem_cons.mpr ⟨ent_law_named KX ok X GO BO CA F N, ?_⟩
    refine List.forall_mem_cons.mpr ⟨ent_law_escape KX ok X GO BO CA F N, ?_⟩
    refine List.forall_mem_cons.mpr ⟨ent_law_based KX ok X GO BO CA F N, ?_⟩
    refine List.forall_mem_cons.mpr ⟨ent_law_text KX ok X GO BO CA F N, ?_⟩
    refine List.forall_mem_cons.mpr ⟨ent_law_sign KX ok X GO BO CA F N, ?_⟩
    refine List.forall_mem_cons.mpr ⟨ent_law_name KX ok X GO BO CA F N, ?_⟩
    refine List.forall_mem_cons.mpr ⟨ent_law_operator KX ok X GO BO CA F N, ?_⟩
    refine List.forall_mem_cons.mpr ⟨ent_law_word KX ok X GO BO CA F N, ?_⟩
    refine List.forall_mem_cons.mpr ⟨ent_law_is_right KX ok X GO BO CA F N, ?_⟩
    intro e he; cases he
  intro cl f fn h
  exact A _ (mem_tab (α := Unit) h)

theorem calls_K {p : Program} {loose : List Str} {mean : ExcName → Option Value} (KX : K.In hB) (T : Top p loose mean mg mb hB) (ok : KOk K w.params) (N : Nat) :
    XOk (mkX prog w K hB mg mb) ∧ GlobOk (mkX prog w K hB mg mb) globF ∧ BltOk (mkX prog w K hB mg mb) ∧ ClsAll (mkX prog w K hB mg mb) ∧ FnAll (mkX prog w K hB mg mb) ∧ ∀ k, CallOk (mkX prog w K hB mg mb) (cfgR N k) (2 * k) := by
  have X : XOk (mkX prog w K hB mg mb) := ⟨KX, T.g, T.b, T.nolimit⟩
  have GO := globOk_K (prog := prog) (mb := mb) KX T.g ok
  have BO := bltOk_K (prog := prog) KX T.g T.builtins ok
  have CA : ClsAll (mkX prog w K hB mg mb) := clsOk_K ok
  have F := fnAll_K (prog := prog) (mb := mb) KX T.g ok
  exact ⟨X, GO, BO, CA, F, callOk_run X (okAll KX ok X GO BO CA F N)⟩
end
end Mine
end

section
open PySem PySem.W PySem.Calls PyProof.Rows PyProof.V
set_option linter.unusedVariables false
set_option maxRecDepth 100000
set_option maxHeartbeats 4000000
set_option Elab.async false
namespace Mine

theorem main {prog p : Program} {w : World} {loose : List Str} {mean : ExcName → Option Value} {mg mb : Str → Option Value} {s₁ : Shared} {h₁ : Heap} {tk : Nat} {K : Frag} {a : Addr} {vs : List Value} {ns : List Int}
    {ob : Obj} {env : Env} {A : Around} {Q : Flow → Shared → Prop} {E : Value → Shared → Prop} {m : Str → Option Value} {cv : Option Value}
    (KX : K.In s₁.heap) (ok : KOk K w.params) (T : Top p loose mean mg mb s₁.heap) (hL : s₁.heap.IsList a vs.toArray) (hI : IntsAre vs ns) (hc : ¬ ((63 : Int) < (ns.length : Int)))
    (F : Fr s₁.heap s₁.heap.objs.size h₁ m) (hm : m "script" = some (.ref a)) (N0 : News s₁.heap s₁.heap.objs.size h₁ [(s₁.heap.objs.size + 1, ob)]) (hob : ob.data = .cell cv)
    (he : EnvOk (scopeOf s_law) env) (hl : env.locals = s₁.heap.objs.size) (hcl : env.cells = [(("trunk" : Str), s₁.heap.objs.size + 1)])
    (hr : Room A 25) {N : Nat} {l' : Loc} {o' : Obs} (law : b_law (cfgR N 12) [("script", .ints ns)] [] = some (.ret (.bool true), l', o'))
    (hQ : ∀ s', (∀ b o, s₁.heap.get? b = some o → s'.heap.get? b = some o) → s'.os = s₁.os → s'.gens = s₁.gens → Q (.ret (.bool true)) s') :
    wpAny (model prog w) A (execs (bodyOf s_law) env) Q E { s₁ with heap := h₁, toks := tk } := by
  obtain ⟨X, GO, BO, CA, FA, C⟩ := calls_K (w := w) KX T ok N
  have n1 := N0 _ (List.mem_singleton_self _)
  have hown : own env = [s₁.heap.objs.size, s₁.heap.objs.size + 1] := by unfold own; rw [hl, hcl]; rfl
  have live : ∀ b ∈ own env, ∃ o, h₁.get? b = some o := by
    intro b hb
    rw [hown] at hb
    simp only [List.mem_cons, List.not_mem_nil, or_false] at hb
    rcases hb with rfl | rfl
    · obtain ⟨o, _, _, e, _⟩ := F.ns; exact ⟨o, e⟩
    · exact ⟨_, n1.1⟩
  have offB : ∀ b ∈ own env, s₁.heap.get? b = none := by
    intro b hb
    rw [hown] at hb
    simp only [List.mem_cons, List.not_mem_nil, or_false] at hb
    rcases hb with rfl | rfl
    · exact get_size _
    · exact n1.2.2
  have g : Gd (mkX prog w K s₁.heap mg mb) [] [] h₁ := ⟨F.keep, rfl, fun i p ob' hp _ => by simp at hp, fun b hb => by simp [Wr] at hb, by simp [Wr]⟩
  have L : LR (mkX prog w K s₁.heap mg mb) env [] [("script", .ints ns)] h₁ := by
    refine ⟨⟨m, by rw [hl]; exact F.ns, fun y v e kd => ?_⟩, fun y v e kd => ?_, fun y c e => ?_, by rw [hcl]; exact Nat.le_refl 1, fun b hb => by simp [Wr], offB, live⟩
    · rw [List.lookup_cons] at e
      split at e
      · rename_i hy
        cases e
        have hy := eq_of_beq hy
        subst hy
        refine ⟨_, hm, ?_⟩
        simp only [VR]
        exact ⟨a, vs, rfl, hL, hI, by omega⟩
      · cases e
    · exfalso
      have hy : y = "script" := by
        rw [List.lookup_cons] at e
        split at e
        · rename_i hy; exact eq_of_beq hy
        · cases e
      subst hy
      have e2 : env.kindOf "script" = List.lookup ("script" : Str) (scopeOf s_law).names := by unfold Env.kindOf; rw [he.scp]
      rw [e2] at kd
      have e3 : List.lookup ("script" : Str) (scopeOf s_law).names = some .local := by kernel_rfl
      rw [e3] at kd
      rcases kd with kd | kd <;> cases kd
    · rw [hcl] at e
      rw [List.lookup_cons] at e
      split at e
      · cases e; exact ⟨ob, cv, n1.1, hob⟩
      · cases e
  have C2 : CallOk (mkX prog w K s₁.heap mg mb) (cfgR N 12) 24 := C 12
  have GO2 : GlobOk (mkX prog w K s₁.heap mg mb) (cfgR N 12).glob := by with_reducible exact GO
  have W : SimBk (mkX prog w K s₁.heap mg mb) (24 + 1) (scopeOf s_law) (b_law (cfgR N 12)) (bodyOf s_law) := by with_reducible exact w_law X GO2 BO CA FA C2
  clear C2 GO2 C GO
  generalize b_law (cfgR N 12) = mm at W law
  generalize hsc : scopeOf s_law = sc at W he
  generalize bodyOf s_law = bd at W ⊢
  refine W A env [] [("script", .ints ns)] [] _ _ l' o' Q E hr he g L law fun ρ' s' f M L' F' => ?_
  obtain ⟨u, rfl, hu⟩ := F'
  simp only [VR] at hu
  subst hu
  obtain ⟨tk', e⟩ := M.eq
  refine hQ s' M.good.base ?_ ?_
  · rw [e]
  · rw [e]

end Mine
end

section
open PySem
set_option linter.unusedVariables false
set_option Elab.async false
namespace Mine.L

noncomputable abbrev cfg (N n : Nat) : Cfg := ⟨run tab globF N n, globF, N⟩

noncomputable def WE {α : Type} (m : EM α) (l : Loc) (o : Obs) (Q : α → Obs → Prop) : Prop := ∃ v o', m l o = some (v, o') ∧ Q v o'
noncomputable def WS (m : SM) (l : Loc) (o : Obs) (Q : Fl → Loc → Obs → Prop) : Prop := ∃ f l' o', m l o = some (f, l', o') ∧ Q f l' o'
noncomputable def WC (N n : Nat) (cl f : Str) (args : List V) (o : Obs) (Q : V → Obs → Prop) : Prop := ∃ v o', run tab globF N n cl f args o = some (v, o') ∧ Q v o'
noncomputable def CondW (b : Bool) (P R : Prop) : Prop := (b = true → P) ∧ (b = false → R)

theorem WE.mono {α : Type} {m : EM α} {l o} {Q R : α → Obs → Prop} (h : WE m l o Q) (q : ∀ v o', Q v o' → R v o') : WE m l o R :=
  let ⟨v, o', e, k⟩ := h; ⟨v, o', e, q _ _ k⟩
theorem cond_t {b : Bool} {P R : Prop} (h : b = true) (p : P) : CondW b P R := ⟨fun _ => p, fun e => by rw [h] at e; cases e⟩
theorem cond_f {b : Bool} {P R : Prop} (h : b = false) (p : R) : CondW b P R := ⟨fun e => (by rw [h] at e; cases e), fun _ => p⟩

section
variable {N n : Nat} {l : Loc} {o : Obs}

theorem lk_here {α : Type} {x : Str} {v : α} {r : List (Str × α)} : List.lookup x ((x, v) :: r) = some v := by simp
theorem lk_skip {α : Type} {x y : Str} {v : α} {r : List (Str × α)} {u : Option α} (h : (x == y) = false) (q : List.lookup x r = u) : List.lookup x ((y, v) :: r) = u := by
  rw [List.lookup_cons, h]; exact q
theorem lookup_putL {α : Type} {x y : Str} {v : α} : ∀ {r : List (Str × α)}, List.lookup x (putL y v r) = if x = y then some v else List.lookup x r
  | [] => by
    unfold putL
    by_cases h : x = y
    · subst h; simp
    · rw [List.lookup_cons, beq_eq_false_iff_ne.mpr h, if_neg h]
  | (z, w) :: r => by
    unfold putL
    by_cases hz : z = y
    · subst hz
      rw [if_pos rfl]
      by_cases h : x = z
      · subst h; simp
      · rw [if_neg h, List.lookup_cons, List.lookup_cons, beq_eq_false_iff_ne.mpr h]
    · rw [if_neg hz, List.lookup_cons, List.lookup_cons]
      by_cases h : x = z
      · subst h
        rw [if_neg hz]; simp
      · rw [beq_eq_false_iff_ne.mpr h]
        exact lookup_putL
theorem lkp_here {α : Type} {x : Str} {v : α} {r : List (Str × α)} : List.lookup x (putL x v r) = some v := by rw [lookup_putL, if_pos rfl]
theorem lkp_skip {α : Type} {x y : Str} {v : α} {r : List (Str × α)} {u : Option α} (h : (x == y) = false) (q : List.lookup x r = u) : List.lookup x (putL y v r) = u := by
  rw [lookup_putL, if_neg (beq_eq_false_iff_ne.mp h)]; exact q

theorem w_ret {α : Type} {a : α} {Q : α → Obs → Prop} (q : Q a o) : WE (retE a) l o Q := ⟨a, o, rfl, q⟩
theorem w_loc {x : Str} {v : V} {Q : V → Obs → Prop} (h : l.lookup x = some v) (q : Q v o) : WE (locM x) l o Q := ⟨v, o, by unfold locM; rw [h]; rfl, q⟩
theorem w_glob {x : Str} {v : V} {Q : V → Obs → Prop} (h : globF x = some v) (q : Q v o) : WE (globM (cfg N n) x) l o Q := ⟨v, o, by unfold globM; rw [show (cfg N n).glob x = some v from h]; rfl, q⟩
theorem w_nil {Q : List V → Obs → Prop} (q : Q [] o) : WE (seqM []) l o Q := ⟨_, _, rfl, q⟩
theorem w_cons {m : EM V} {r : List (EM V)} {Q : List V → Obs → Prop} (q : WE m l o fun v o₁ => WE (seqM r) l o₁ fun vs o₂ => Q (v :: vs) o₂) : WE (seqM (m :: r)) l o Q := by
  obtain ⟨v, o₁, e, vs, o₂, e', k⟩ := q
  exact ⟨v :: vs, o₂, by unfold seqM; rw [e]; simp [e'], k⟩
theorem w_test {m : EM V} {Q : Bool → Obs → Prop} (q : WE m l o fun v o₁ => ∃ b, v = .bool b ∧ Q b o₁) : WE (testM m) l o Q := by
  obtain ⟨v, o₁, e, b, rfl, k⟩ := q
  exact ⟨b, o₁, by unfold testM; rw [e]; rfl, k⟩
theorem w_boolv {b : Bool} {P : Bool → Prop} (q : P b) : ∃ b', V.bool b = .bool b' ∧ P b' := ⟨b, rfl, q⟩
theorem w_not {m : EM Bool} {Q : Bool → Obs → Prop} (q : WE m l o fun b o₁ => Q (!b) o₁) : WE (notT m) l o Q := by
  obtain ⟨v, o₁, e, k⟩ := q
  exact ⟨!v, o₁, by unfold notT; rw [e]; rfl, k⟩
theorem w_andT0 {Q : Bool → Obs → Prop} (q : Q true o) : WE (andT []) l o Q := ⟨_, _, rfl, q⟩
theorem w_andT {m : EM Bool} {r : List (EM Bool)} {Q : Bool → Obs → Prop} (q : WE m l o fun b o₁ => CondW b (WE (andT r) l o₁ Q) (Q false o₁)) : WE (andT (m :: r)) l o Q := by
  obtain ⟨v, o₁, e, k, k'⟩ := q
  cases v
  · exact ⟨false, o₁, by unfold andT; rw [e]; rfl, k' rfl⟩
  · obtain ⟨v, o₂, e₂, k₂⟩ := k rfl
    exact ⟨v, o₂, by unfold andT; rw [e]; exact e₂, k₂⟩
theorem w_orT0 {Q : Bool → Obs → Prop} (q : Q false o) : WE (orT []) l o Q := ⟨_, _, rfl, q⟩
theorem w_orT {m : EM Bool} {r : List (EM Bool)} {Q : Bool → Obs → Prop} (q : WE m l o fun b o₁ => CondW b (Q true o₁) (WE (orT r) l o₁ Q)) : WE (orT (m :: r)) l o Q := by
  obtain ⟨v, o₁, e, k, k'⟩ := q
  cases v
  · obtain ⟨v, o₂, e₂, k₂⟩ := k' rfl
    exact ⟨v, o₂, by unfold orT; rw [e]; exact e₂, k₂⟩
  · exact ⟨true, o₁, by unfold orT; rw [e]; rfl, k rfl⟩
theorem w_and1 {m : EM V} {Q : V → Obs → Prop} (q : WE m l o Q) : WE (andM [m]) l o Q := q
theorem w_and {m m' : EM V} {r : List (EM V)} {Q : V → Obs → Prop} (q : WE m l o fun v o₁ => ∃ b, v = .bool b ∧ CondW b (WE (andM (m' :: r)) l o₁ Q) (Q (.bool false) o₁)) : WE (andM (m :: m' :: r)) l o Q := by
  obtain ⟨v, o₁, e, b, rfl, k, k'⟩ := q
  cases b
  · exact ⟨.bool false, o₁, by show (m l o).bind _ = _; rw [e]; rfl, k' rfl⟩
  · obtain ⟨v, o₂, e₂, k₂⟩ := k rfl
    exact ⟨v, o₂, by show (m l o).bind _ = _; rw [e]; exact e₂, k₂⟩
theorem w_or1 {m : EM V} {Q : V → Obs → Prop} (q : WE m l o Q) : WE (orM [m]) l o Q := q
theorem w_or {m m' : EM V} {r : List (EM V)} {Q : V → Obs → Prop} (q : WE m l o fun v o₁ => ∃ b, v = .bool b ∧ CondW b (Q (.bool true) o₁) (WE (orM (m' :: r)) l o₁ Q)) : WE (orM (m :: m' :: r)) l o Q := by
  obtain ⟨v, o₁, e, b, rfl, k, k'⟩ := q
  cases b
  · obtain ⟨v, o₂, e₂, k₂⟩ := k' rfl
    exact ⟨v, o₂, by show (m l o).bind _ = _; rw [e]; exact e₂, k₂⟩
  · exact ⟨.bool true, o₁, by show (m l o).bind _ = _; rw [e]; rfl, k rfl⟩
theorem w_ite {t : EM Bool} {a b : EM V} {Q : V → Obs → Prop} (q : WE t l o fun c o₁ => CondW c (WE a l o₁ Q) (WE b l o₁ Q)) : WE (iteM t a b) l o Q := by
  obtain ⟨c, o₁, e, k, k'⟩ := q
  cases c
  · obtain ⟨v, o₂, e₂, k₂⟩ := k' rfl
    exact ⟨v, o₂, by unfold iteM; rw [e]; exact e₂, k₂⟩
  · obtain ⟨v, o₂, e₂, k₂⟩ := k rfl
    exact ⟨v, o₂, by unfold iteM; rw [e]; exact e₂, k₂⟩

noncomputable def BinR (op : Operator) (x y : V) (o : Obs) : Option (V × Obs) := match op, x, y with
    | .Add, .ref i, .ref j => (match o[i]?, o[j]? with
        | some (.list xs), some (.list ys) => if xs.length + ys.length ≤ 1000 then some (.ref o.length, o ++ [.list (xs ++ ys)]) else none
        | _, _ => none)
    | op, x, y => (binV op x y).map fun v => (v, o)
noncomputable def BinW (op : Operator) (x y : V) (o : Obs) (Q : V → Obs → Prop) : Prop := ∃ v o', BinR op x y o = some (v, o') ∧ Q v o'
theorem w_bin {op : Operator} {a b : EM V} {Q : V → Obs → Prop} (q : WE a l o fun x o₁ => WE b l o₁ fun y o₂ => BinW op x y o₂ Q) : WE (binM op a b) l o Q := by
  obtain ⟨x, o₁, e, y, o₂, e₂, v, o₃, e₃, k⟩ := q
  refine ⟨v, o₃, ?_, k⟩
  unfold binM
  rw [e]
  simp only [Option.bind_some]
  rw [e₂]
  exact e₃
theorem b_addI {a b : Int} {Q : V → Obs → Prop} (q : Q (.int (a + b)) o) : BinW .Add (.int a) (.int b) o Q := ⟨_, _, rfl, q⟩
theorem b_subI {a b : Int} {Q : V → Obs → Prop} (q : Q (.int (a - b)) o) : BinW .Sub (.int a) (.int b) o Q := ⟨_, _, rfl, q⟩
theorem b_mulI {a b : Int} {Q : V → Obs → Prop} (h : -(2 ^ 63 : Int) < a ∧ a < 2 ^ 63) (q : Q (.int (a * b)) o) : BinW .Mult (.int a) (.int b) o Q := ⟨_, _, by show Option.map _ (binV _ _ _) = _; unfold binV; simp only [h, and_self, if_true]; rfl, q⟩
theorem b_divI {a b : Int} {Q : V → Obs → Prop} (h : 0 < b ∧ b < 2 ^ 31) (q : Q (.int (a.fdiv b)) o) : BinW .FloorDiv (.int a) (.int b) o Q := ⟨_, _, by show Option.map _ (binV _ _ _) = _; unfold binV; simp only [h, and_self, if_true]; rfl, q⟩
theorem b_modI {a b : Int} {Q : V → Obs → Prop} (h : b ≠ 0) (q : Q (.int (a.fmod b)) o) : BinW .Mod (.int a) (.int b) o Q := ⟨_, _, by show Option.map _ (binV _ _ _) = _; unfold binV; simp only [h, if_false]; rfl, q⟩
theorem b_pow {Q : V → Obs → Prop} (q : Q (.int 1000000000000000) o) : BinW .Pow (.int 10) (.int 15) o Q := ⟨_, _, rfl, q⟩
theorem b_addS {a b : List Nat} {Q : V → Obs → Prop} (h : a.length + b.length ≤ 16777216) (q : Q (.str (a ++ b)) o) : BinW .Add (.str a) (.str b) o Q := ⟨_, _, by show Option.map _ (binV _ _ _) = _; unfold binV; simp only [show a.length + b.length ≤ strLim from h, if_true]; rfl, q⟩
theorem b_mulS {a : List Nat} {b : Int} {Q : V → Obs → Prop} (h : 0 ≤ b ∧ b ≤ 1 ∧ a.length ≤ 1) (q : Q (.str (if b = 1 then a else [])) o) : BinW .Mult (.str a) (.int b) o Q := ⟨_, _, by show Option.map _ (binV _ _ _) = _; unfold binV; simp only [h, and_self, if_true]; rfl, q⟩
theorem b_addL {i j : Nat} {xs ys : List V} {Q : V → Obs → Prop} (h1 : o[i]? = some (.list xs)) (h2 : o[j]? = some (.list ys)) (h : xs.length + ys.length ≤ 1000) (q : Q (.ref o.length) (o ++ [.list (xs ++ ys)])) : BinW .Add (.ref i) (.ref j) o Q :=
  ⟨_, _, by unfold BinR; simp only [h1, h2]; rw [if_pos h], q⟩
theorem w_neg {a : EM V} {Q : V → Obs → Prop} (q : WE a l o fun x o₁ => ∃ i, x = .int i ∧ Q (.int (-i)) o₁) : WE (negM a) l o Q := by
  obtain ⟨x, o₁, e, i, rfl, k⟩ := q
  exact ⟨_, o₁, by unfold negM; rw [e]; rfl, k⟩

noncomputable def CmpW (op : CmpOp) (x y : V) (o : Obs) (Q : V → Obs → Prop) : Prop := ∃ b, cmpV op x y o = some b ∧ Q (.bool b) o
theorem w_cmp {op : CmpOp} {a b : EM V} {Q : V → Obs → Prop} (q : WE a l o fun x o₁ => WE b l o₁ fun y o₂ => CmpW op x y o₂ Q) : WE (cmpM op a b) l o Q := by
  obtain ⟨x, o₁, e, y, o₂, e₂, v, e₃, k⟩ := q
  refine ⟨.bool v, o₂, ?_, k⟩
  unfold cmpM
  rw [e]
  simp only [Option.bind_some]
  rw [e₂]
  simp only [Option.bind_some]
  rw [e₃]; rfl
theorem w_cmp2 {op op' : CmpOp} {a b d : EM V} {Q : V → Obs → Prop} (q : WE a l o fun x o₁ => WE b l o₁ fun y o₂ => ∃ r, cmpV op x y o₂ = some r ∧ CondW r (WE d l o₂ fun z o₃ => CmpW op' y z o₃ Q) (Q (.bool false) o₂)) : WE (cmp2M op op' a b d) l o Q := by
  obtain ⟨x, o₁, e, y, o₂, e₂, v, e₃, k, k'⟩ := q
  cases v
  · refine ⟨.bool false, o₂, ?_, k' rfl⟩
    unfold cmp2M
    rw [e]; simp only [Option.bind_some]
    rw [e₂]; simp only [Option.bind_some]
    rw [e₃]; rfl
  · obtain ⟨z, o₃, e₄, r, e₅, k₅⟩ := k rfl
    refine ⟨.bool r, o₃, ?_, k₅⟩
    unfold cmp2M
    rw [e]; simp only [Option.bind_some]
    rw [e₂]; simp only [Option.bind_some]
    rw [e₃]; simp only [Option.bind_some, if_true]
    rw [e₄]; simp only [Option.bind_some]
    rw [e₅]; rfl
theorem c_eqI {a b : Int} {Q : V → Obs → Prop} (q : Q (.bool (a == b)) o) : CmpW .Eq (.int a) (.int b) o Q := ⟨_, rfl, q⟩
theorem c_neI {a b : Int} {Q : V → Obs → Prop} (q : Q (.bool (a != b)) o) : CmpW .NotEq (.int a) (.int b) o Q := ⟨_, rfl, q⟩
theorem c_ltI {a b : Int} {Q : V → Obs → Prop} (q : Q (.bool (decide (a < b))) o) : CmpW .Lt (.int a) (.int b) o Q := ⟨_, rfl, q⟩
theorem c_gtI {a b : Int} {Q : V → Obs → Prop} (q : Q (.bool (decide (b < a))) o) : CmpW .Gt (.int a) (.int b) o Q := ⟨_, rfl, q⟩
theorem c_geI {a b : Int} {Q : V → Obs → Prop} (q : Q (.bool (decide (b ≤ a))) o) : CmpW .GtE (.int a) (.int b) o Q := ⟨_, rfl, q⟩
theorem c_eqS {a b : List Nat} {Q : V → Obs → Prop} (q : Q (.bool (a == b)) o) : CmpW .Eq (.str a) (.str b) o Q := ⟨_, rfl, q⟩
theorem c_neS {a b : List Nat} {Q : V → Obs → Prop} (q : Q (.bool (a != b)) o) : CmpW .NotEq (.str a) (.str b) o Q := ⟨_, rfl, q⟩
theorem c_inS {a : Nat} {b : List Nat} {Q : V → Obs → Prop} (q : Q (.bool (b.contains a)) o) : CmpW .In (.str [a]) (.str b) o Q := ⟨_, rfl, q⟩
theorem c_inT {a : List Nat} {vs : List V} {Q : V → Obs → Prop} {ys : List (List Nat)} (h : strsOf vs = some ys) (q : Q (.bool (ys.any fun y => y == a)) o) : CmpW .In (.str a) (.tup vs) o Q := ⟨_, by show inStrs a vs = _; unfold inStrs; rw [h]; rfl, q⟩
theorem c_inL {a : List Nat} {i : Nat} {vs : List V} {Q : V → Obs → Prop} {ys : List (List Nat)} (hi : o[i]? = some (.list vs)) (h : strsOf vs = some ys) (q : Q (.bool (ys.any fun y => y == a)) o) : CmpW .In (.str a) (.ref i) o Q := ⟨_, by show cmpIn (.str a) (.ref i) o = _; unfold cmpIn; simp only [hi]; unfold inStrs; rw [h]; rfl, q⟩
theorem c_inD {a : List Nat} {es : List (List Nat × Int)} {Q : V → Obs → Prop} (q : Q (.bool (es.any fun e => a == e.1)) o) : CmpW .In (.str a) (.dct es) o Q := ⟨_, rfl, q⟩
theorem c_isI {a : Int} {Q : V → Obs → Prop} (q : Q (.bool false) o) : CmpW .Is (.int a) .none o Q := ⟨_, rfl, q⟩
theorem c_isS {a : List Nat} {Q : V → Obs → Prop} (q : Q (.bool false) o) : CmpW .Is (.str a) .none o Q := ⟨_, rfl, q⟩

noncomputable def AttrW (x : V) (f : Str) (o : Obs) (Q : V → Obs → Prop) : Prop := ∃ i c fs v, x = .ref i ∧ o[i]? = some (.inst c fs) ∧ fs.lookup f = some v ∧ Q v o
theorem w_attr {a : EM V} {f : Str} {Q : V → Obs → Prop} (q : WE a l o fun x o₁ => AttrW x f o₁ Q) : WE (attrM a f) l o Q := by
  obtain ⟨x, o₁, e, i, c, fs, v, rfl, h1, h2, k⟩ := q
  refine ⟨v, o₁, ?_, k⟩
  unfold attrM
  rw [e]
  simp only [Option.bind_some, h1, h2, Option.map_some]
theorem a_inst {i : Nat} {c : Str} {fs : List (Str × V)} {f : Str} {v : V} {Q : V → Obs → Prop} (h1 : o[i]? = some (.inst c fs)) (h2 : fs.lookup f = some v) (q : Q v o) : AttrW (.ref i) f o Q := ⟨_, _, _, _, rfl, h1, h2, q⟩

noncomputable def SubW (x y : V) (o : Obs) (Q : V → Obs → Prop) : Prop := ∃ v, subV x y o = some v ∧ Q v o
theorem w_sub {a b : EM V} {Q : V → Obs → Prop} (q : WE a l o fun x o₁ => WE b l o₁ fun y o₂ => SubW x y o₂ Q) : WE (subM a b) l o Q := by
  obtain ⟨x, o₁, e, y, o₂, e₂, v, e₃, k⟩ := q
  refine ⟨v, o₂, ?_, k⟩
  unfold subM
  rw [e]; simp only [Option.bind_some]
  rw [e₂]; simp only [Option.bind_some]
  rw [e₃]; rfl
theorem s_str {x : List Nat} {i : Int} {c : Nat} {Q : V → Obs → Prop} (h : 0 ≤ i ∧ i < 1000000000) (h2 : x[i.toNat]? = some c) (q : Q (.str [c]) o) : SubW (.str x) (.int i) o Q := ⟨_, by simp only [subV]; rw [if_pos h, h2]; rfl, q⟩
theorem s_tup {x : List V} {i : Int} {c : V} {Q : V → Obs → Prop} (h : 0 ≤ i ∧ i < 1000000000) (h2 : x[i.toNat]? = some c) (q : Q c o) : SubW (.tup x) (.int i) o Q := ⟨_, by simp only [subV]; rw [if_pos h, h2], q⟩
theorem s_list {x : List V} {j : Nat} {i : Int} {c : V} {Q : V → Obs → Prop} (hj : o[j]? = some (.list x)) (h : 0 ≤ i ∧ i < 1000000000) (h2 : x[i.toNat]? = some c) (q : Q c o) : SubW (.ref j) (.int i) o Q :=
  ⟨c, by simp only [subV]; rw [if_pos (by omega), hj]; show pickV x i = _; unfold pickV; rw [if_pos h.1, h2], q⟩
theorem s_last {x : List V} {j : Nat} {c : V} {Q : V → Obs → Prop} (hj : o[j]? = some (.list (x ++ [c]))) (q : Q c o) : SubW (.ref j) (.int (-1)) o Q :=
  ⟨c, by
    simp only [subV]; rw [if_pos (by decide), hj]
    show pickV (x ++ [c]) (-1) = _
    unfold pickV
    rw [if_neg (by decide), if_pos (by simp only [List.length_append, List.length_singleton]; omega)]
    have : ((-1 : Int) + ((x ++ [c]).length : Nat)).toNat = x.length := by simp only [List.length_append, List.length_singleton]; omega
    rw [this]; simp, q⟩
theorem s_dct {es : List (List Nat × Int)} {x : List Nat} {v : Int} {Q : V → Obs → Prop} (h : dctGet x es = some v) (q : Q (.int v) o) : SubW (.dct es) (.str x) o Q := ⟨_, by simp only [subV, h]; rfl, q⟩
theorem s_ints {x : List Int} {i : Int} {v : Int} {Q : V → Obs → Prop} (h : 0 ≤ i ∧ i < 1000000000) (h2 : x[i.toNat]? = some v) (q : Q (.int v) o) : SubW (.ints x) (.int i) o Q := ⟨_, by simp only [subV]; rw [if_pos h, h2]; rfl, q⟩

noncomputable def SliceW (x y z : V) (o : Obs) (Q : V → Obs → Prop) : Prop := ∃ a i j, x = .str a ∧ y = .int i ∧ z = .int j ∧ (0 ≤ i ∧ 0 ≤ j ∧ a.length < 1000000) ∧ Q (.str ((a.take j.toNat).drop i.toNat)) o
theorem w_slice {a b d : EM V} {Q : V → Obs → Prop} (q : WE a l o fun x o₁ => WE b l o₁ fun y o₂ => WE d l o₂ fun z o₃ => SliceW x y z o₃ Q) : WE (sliceM a b d) l o Q := by
  obtain ⟨x, o₁, e, y, o₂, e₂, z, o₃, e₃, s, i, j, rfl, rfl, rfl, h, k⟩ := q
  refine ⟨_, o₃, ?_, k⟩
  unfold sliceM
  rw [e]; simp only [Option.bind_some]
  rw [e₂]; simp only [Option.bind_some]
  rw [e₃]; simp only [Option.bind_some]
  rw [if_pos h]
theorem sl_nat {a : List Nat} {i j : Nat} {Q : V → Obs → Prop} (h : a.length < 1000000) (q : Q (.str ((a.take j).drop i)) o) : SliceW (.str a) (.int i) (.int j) o Q := ⟨_, _, _, rfl, rfl, rfl, ⟨by omega, by omega, h⟩, q⟩

theorem w_tup {ms : List (EM V)} {Q : V → Obs → Prop} (q : WE (seqM ms) l o fun vs o₁ => Q (.tup vs) o₁) : WE (tupM ms) l o Q := by
  obtain ⟨vs, o₁, e, k⟩ := q
  exact ⟨_, _, by unfold tupM; rw [e]; rfl, k⟩
theorem w_list {ms : List (EM V)} {Q : V → Obs → Prop} (q : WE (seqM ms) l o fun vs o₁ => Q (.ref o₁.length) (o₁ ++ [.list vs])) : WE (listM ms) l o Q := by
  obtain ⟨vs, o₁, e, k⟩ := q
  exact ⟨_, _, by unfold listM; rw [e]; rfl, k⟩

noncomputable def BltW (f : Str) (vs : List V) (o : Obs) (Q : V → Obs → Prop) : Prop := ∃ v, bltV f vs o = some v ∧ Q v o
theorem w_blt {f : Str} {ms : List (EM V)} {Q : V → Obs → Prop} (q : WE (seqM ms) l o fun vs o₁ => BltW f vs o₁ Q) : WE (bltM f ms) l o Q := by
  obtain ⟨vs, o₁, e, v, e', k⟩ := q
  exact ⟨v, o₁, by unfold bltM; rw [e]; simp only [Option.bind_some]; rw [e']; rfl, k⟩
theorem ne_ord_len : ¬ (Str.ofString "ord" = Str.ofString "len") := by decide +kernel
theorem ne_chr_len : ¬ (Str.ofString "chr" = Str.ofString "len") := by decide +kernel
theorem ne_chr_ord : ¬ (Str.ofString "chr" = Str.ofString "ord") := by decide +kernel
theorem ne_rng_len : ¬ (Str.ofString "range" = Str.ofString "len") := by decide +kernel
theorem ne_rng_ord : ¬ (Str.ofString "range" = Str.ofString "ord") := by decide +kernel
theorem ne_rng_chr : ¬ (Str.ofString "range" = Str.ofString "chr") := by decide +kernel
theorem ne_str_len : ¬ (Str.ofString "str" = Str.ofString "len") := by decide +kernel
theorem ne_str_ord : ¬ (Str.ofString "str" = Str.ofString "ord") := by decide +kernel
theorem ne_str_chr : ¬ (Str.ofString "str" = Str.ofString "chr") := by decide +kernel
theorem ne_str_rng : ¬ (Str.ofString "str" = Str.ofString "range") := by decide +kernel
theorem ne_int_len : ¬ (Str.ofString "int" = Str.ofString "len") := by decide +kernel
theorem ne_int_ord : ¬ (Str.ofString "int" = Str.ofString "ord") := by decide +kernel
theorem ne_int_chr : ¬ (Str.ofString "int" = Str.ofString "chr") := by decide +kernel
theorem ne_int_rng : ¬ (Str.ofString "int" = Str.ofString "range") := by decide +kernel
theorem ne_int_str : ¬ (Str.ofString "int" = Str.ofString "str") := by decide +kernel
theorem ne_max_len : ¬ (Str.ofString "max" = Str.ofString "len") := by decide +kernel
theorem ne_max_ord : ¬ (Str.ofString "max" = Str.ofString "ord") := by decide +kernel
theorem ne_max_chr : ¬ (Str.ofString "max" = Str.ofString "chr") := by decide +kernel
theorem ne_max_rng : ¬ (Str.ofString "max" = Str.ofString "range") := by decide +kernel
theorem ne_max_str : ¬ (Str.ofString "max" = Str.ofString "str") := by decide +kernel
theorem ne_max_int : ¬ (Str.ofString "max" = Str.ofString "int") := by decide +kernel
theorem bl_lenS {x : List Nat} {Q : V → Obs → Prop} (h : x.length < 1000000000) (q : Q (.int x.length) o) : BltW "len" [.str x] o Q := ⟨_, by unfold bltV; rw [if_pos rfl]; simp only [h, if_true], q⟩
theorem bl_lenT {x : List V} {Q : V → Obs → Prop} (h : x.length < 1000000000) (q : Q (.int x.length) o) : BltW "len" [.tup x] o Q := ⟨_, by unfold bltV; rw [if_pos rfl]; simp only [h, if_true], q⟩
theorem bl_lenL {i : Nat} {x : List V} {Q : V → Obs → Prop} (hi : o[i]? = some (.list x)) (h : x.length < 1000000000) (q : Q (.int x.length) o) : BltW "len" [.ref i] o Q := ⟨_, by unfold bltV; rw [if_pos rfl]; simp only [hi, h, if_true], q⟩
theorem bl_lenI {x : List Int} {Q : V → Obs → Prop} (q : Q (.int x.length) o) : BltW "len" [.ints x] o Q := ⟨_, by unfold bltV; rw [if_pos rfl], q⟩
theorem bl_ord {c : Nat} {Q : V → Obs → Prop} (q : Q (.int c) o) : BltW "ord" [.str [c]] o Q := ⟨_, by unfold bltV; rw [if_neg ne_ord_len, if_pos rfl], q⟩
theorem bl_chr {i : Int} {Q : V → Obs → Prop} (h : 0 ≤ i ∧ i < 1114112) (q : Q (.str [i.toNat]) o) : BltW "chr" [.int i] o Q := ⟨_, by unfold bltV; rw [if_neg ne_chr_len, if_neg ne_chr_ord, if_pos rfl]; simp only [h, and_self, if_true], q⟩
theorem bl_rng {i : Int} {Q : V → Obs → Prop} (h : 0 ≤ i ∧ i < 2 ^ 31) (q : Q (.rng i) o) : BltW "range" [.int i] o Q := ⟨_, by unfold bltV; rw [if_neg ne_rng_len, if_neg ne_rng_ord, if_neg ne_rng_chr, if_pos rfl]; simp only [h, and_self, if_true], q⟩
theorem bl_str {i : Int} {Q : V → Obs → Prop} (h : 0 ≤ i ∧ i < 10 ^ 9) (q : Q (.str (digitsN i.toNat)) o) : BltW "str" [.int i] o Q := ⟨_, by unfold bltV; rw [if_neg ne_str_len, if_neg ne_str_ord, if_neg ne_str_chr, if_neg ne_str_rng, if_pos rfl]; simp only [h, and_self, if_true], q⟩
theorem bl_int {b : Bool} {Q : V → Obs → Prop} (q : Q (.int (if b then 1 else 0)) o) : BltW "int" [.bool b] o Q := ⟨_, by unfold bltV; rw [if_neg ne_int_len, if_neg ne_int_ord, if_neg ne_int_chr, if_neg ne_int_rng, if_neg ne_int_str, if_pos rfl], q⟩
theorem bl_max {a b : Int} {Q : V → Obs → Prop} (q : Q (.int (if b > a then b else a)) o) : BltW "max" [.int a, .int b] o Q := ⟨_, by unfold bltV; rw [if_neg ne_max_len, if_neg ne_max_ord, if_neg ne_max_chr, if_neg ne_max_rng, if_neg ne_max_str, if_neg ne_max_int, if_pos rfl], q⟩

theorem w_fun {f : Str} {ms : List (EM V)} {Q : V → Obs → Prop} (q : WE (seqM ms) l o fun vs o₁ => WC N n "" f vs o₁ Q) : WE (funM (cfg N n) f ms) l o Q := by
  obtain ⟨vs, o₁, e, v, o₂, e', k⟩ := q
  exact ⟨v, o₂, by unfold funM; rw [e]; exact e', k⟩
theorem w_new {cl : Str} {ms : List (EM V)} {Q : V → Obs → Prop} (q : WE (seqM ms) l o fun vs o₁ => WC N n cl "__init__" (.ref o₁.length :: vs) (o₁ ++ [.inst cl []]) fun v o₂ => v = .none ∧ Q (.ref o₁.length) o₂) : WE (newM (cfg N n) cl ms) l o Q := by
  obtain ⟨vs, o₁, e, v, o₂, e', rfl, k⟩ := q
  refine ⟨_, o₂, ?_, k⟩
  unfold newM
  rw [e]; simp only [Option.bind_some]
  simp only [e', Option.bind_some]
noncomputable def MethW (N n : Nat) (m : Str) (x : V) (ms : List (EM V)) (l : Loc) (o : Obs) (Q : V → Obs → Prop) : Prop := ∃ k, methPre m x o = some k ∧ WE (seqM ms) l o fun vs o₁ => ∃ v o₂, methV (cfg N n) m k x vs o₁ = some (v, o₂) ∧ Q v o₂
theorem w_meth {m : Str} {a : EM V} {ms : List (EM V)} {Q : V → Obs → Prop} (q : WE a l o fun x o₁ => MethW N n m x ms l o₁ Q) : WE (methM (cfg N n) m a ms) l o Q := by
  obtain ⟨x, o₁, e, k, h1, vs, o₂, e₂, v, o₃, e₃, r⟩ := q
  refine ⟨v, o₃, ?_, r⟩
  unfold methM
  rw [e]; simp only [Option.bind_some]
  rw [h1]; simp only [Option.bind_some]
  rw [e₂]; exact e₃
theorem m_inst {m : Str} {i : Nat} {cl : Str} {fs : List (Str × V)} {ms : List (EM V)} {Q : V → Obs → Prop} (h : o[i]? = some (.inst cl fs)) (hm : fs.lookup m = none) (q : WE (seqM ms) l o fun vs o₁ => WC N n cl m (.ref i :: vs) o₁ Q) : MethW N n m (.ref i) ms l o Q := by
  refine ⟨.inst cl, by simp only [methPre, h, hm, if_true], ?_⟩
  exact q
theorem m_app {i : Nat} {ms : List (EM V)} {xs : List V} {Q : V → Obs → Prop} (h : o[i]? = some (.list xs)) (q : WE (seqM ms) l o fun vs o₁ => ∃ v xs, vs = [v] ∧ o₁[i]? = some (.list xs) ∧ xs.length < 100000 ∧ Q .none (o₁.set i (.list (xs ++ [v])))) : MethW N n "append" (.ref i) ms l o Q := by
  refine ⟨.lst, by simp only [methPre, h, if_true], q.mono fun vs o₁ => ?_⟩
  rintro ⟨v, xs, rfl, h', hl, k⟩
  refine ⟨_, _, ?_, k⟩
  simp only [methV]
  unfold appV
  rw [h']
  simp only [hl, if_true, Option.map_some]
theorem ne_split_join : ¬ (Str.ofString "split" = Str.ofString "join") := by decide +kernel
theorem ne_lower_join : ¬ (Str.ofString "lower" = Str.ofString "join") := by decide +kernel
theorem ne_lower_split : ¬ (Str.ofString "lower" = Str.ofString "split") := by decide +kernel
theorem ne_index_join : ¬ (Str.ofString "index" = Str.ofString "join") := by decide +kernel
theorem ne_index_split : ¬ (Str.ofString "index" = Str.ofString "split") := by decide +kernel
theorem ne_index_lower : ¬ (Str.ofString "index" = Str.ofString "lower") := by decide +kernel
theorem m_join {x : List Nat} {ms : List (EM V)} {Q : V → Obs → Prop} (q : WE (seqM ms) l o fun vs o₁ => ∃ i ws xs, vs = [.ref i] ∧ o₁[i]? = some (.list ws) ∧ strsOf ws = some xs ∧ sumLens xs + xs.length * x.length ≤ strLim ∧ Q (.str (joinL x xs)) o₁) : MethW N n "join" (.str x) ms l o Q := by
  refine ⟨.str, rfl, q.mono fun vs o₁ => ?_⟩
  rintro ⟨i, ws, xs, rfl, h1, h2, h3, k⟩
  refine ⟨_, _, ?_, k⟩
  simp only [methV]
  unfold strMeth
  rw [if_pos rfl]
  simp only [h1, h2, Option.bind_some, h3, if_true]
theorem m_split {x : List Nat} {ms : List (EM V)} {Q : V → Obs → Prop} (q : WE (seqM ms) l o fun vs o₁ => vs = [.str [32]] ∧ (splitOk x = true ∧ x.length ≤ 1000) ∧ Q (.ref o₁.length) (o₁ ++ [.list ((splitSp x).map .str)])) : MethW N n "split" (.str x) ms l o Q := by
  refine ⟨.str, rfl, q.mono fun vs o₁ => ?_⟩
  rintro ⟨rfl, h, k⟩
  refine ⟨_, _, ?_, k⟩
  simp only [methV]
  unfold strMeth
  rw [if_neg ne_split_join, if_pos rfl]
  simp only [h, and_self, if_true]
theorem m_lower {ch : Nat} {Q : V → Obs → Prop} (h : ch < 128) (q : Q (.str [lowerA ch]) o) : MethW N n "lower" (.str [ch]) [] l o Q := by
  refine ⟨.str, rfl, w_nil ⟨_, _, ?_, q⟩⟩
  simp only [methV]
  unfold strMeth
  rw [if_neg ne_lower_join, if_neg ne_lower_split, if_pos rfl]
  simp only [h, if_true]
theorem m_index {x : List Nat} {ms : List (EM V)} {Q : V → Obs → Prop} (q : WE (seqM ms) l o fun vs o₁ => ∃ ch, vs = [.str [ch]] ∧ 0 ≤ findIn1 x ch ∧ Q (.int (findIn1 x ch)) o₁) : MethW N n "index" (.str x) ms l o Q := by
  refine ⟨.str, rfl, q.mono fun vs o₁ => ?_⟩
  rintro ⟨ch, rfl, h, k⟩
  refine ⟨_, _, ?_, k⟩
  simp only [methV]
  unfold strMeth
  rw [if_neg ne_index_join, if_neg ne_index_split, if_neg ne_index_lower, if_pos rfl]
  simp only [h, if_true]

theorem t_next {Q : Fl → Loc → Obs → Prop} (q : Q .next l o) : WS nextS l o Q := ⟨_, _, _, rfl, q⟩
noncomputable def ThenW (b : SM) (Q : Fl → Loc → Obs → Prop) : Fl → Loc → Obs → Prop
  | .next, l, o => WS b l o Q
  | .ret v, l, o => Q (.ret v) l o
noncomputable def LoopW (P : Loc → Obs → Prop) (Q : Fl → Loc → Obs → Prop) : Fl → Loc → Obs → Prop
  | .next, l, o => P l o
  | .ret v, l, o => Q (.ret v) l o
theorem then_next {b : SM} {Q : Fl → Loc → Obs → Prop} (q : WS b l o Q) : ThenW b Q .next l o := q
theorem then_ret {b : SM} {v : V} {Q : Fl → Loc → Obs → Prop} (q : Q (.ret v) l o) : ThenW b Q (.ret v) l o := q
theorem loop_next {P : Loc → Obs → Prop} {Q : Fl → Loc → Obs → Prop} (q : P l o) : LoopW P Q .next l o := q
theorem loop_ret {P : Loc → Obs → Prop} {v : V} {Q : Fl → Loc → Obs → Prop} (q : Q (.ret v) l o) : LoopW P Q (.ret v) l o := q
theorem t_then {a b : SM} {Q : Fl → Loc → Obs → Prop} (q : WS a l o (ThenW b Q)) : WS (thenS a b) l o Q := by
  obtain ⟨f, l₁, o₁, e, k⟩ := q
  cases f with
  | next =>
    obtain ⟨f, l₂, o₂, e₂, k₂⟩ := k
    exact ⟨f, l₂, o₂, by unfold thenS; rw [e]; exact e₂, k₂⟩
  | ret v => exact ⟨_, _, _, by unfold thenS; rw [e]; rfl, k⟩
theorem t_assign {x : Str} {m : EM V} {Q : Fl → Loc → Obs → Prop} (q : WE m l o fun v o₁ => Q .next (putL x v l) o₁) : WS (assignM x m) l o Q := by
  obtain ⟨v, o₁, e, k⟩ := q
  exact ⟨_, _, _, by unfold assignM; rw [e]; rfl, k⟩
theorem t_swap2 {x y : Str} {m : EM V} {Q : Fl → Loc → Obs → Prop} (q : WE m l o fun v o₁ => ∃ a b, v = .tup [a, b] ∧ Q .next (putL x a (putL y b l)) o₁) : WS (swapM [x, y] m) l o Q := by
  obtain ⟨v, o₁, e, a, b, rfl, k⟩ := q
  exact ⟨_, _, _, by unfold swapM; rw [e]; rfl, k⟩
theorem t_unpack2 {x y : Str} {m : EM V} {Q : Fl → Loc → Obs → Prop} (q : WE m l o fun v o₁ => ∃ a b, v = .tup [a, b] ∧ Q .next (putL y b (putL x a l)) o₁) : WS (unpackM [x, y] m) l o Q := by
  obtain ⟨v, o₁, e, a, b, rfl, k⟩ := q
  exact ⟨_, _, _, by unfold unpackM; rw [e]; rfl, k⟩
theorem t_unpack3 {x y z : Str} {m : EM V} {Q : Fl → Loc → Obs → Prop} (q : WE m l o fun v o₁ => ∃ a b c, v = .tup [a, b, c] ∧ Q .next (putL z c (putL y b (putL x a l))) o₁) : WS (unpackM [x, y, z] m) l o Q := by
  obtain ⟨v, o₁, e, a, b, c, rfl, k⟩ := q
  exact ⟨_, _, _, by unfold unpackM; rw [e]; rfl, k⟩
theorem ex_tup2 {a b : V} {P : V → V → Prop} (q : P a b) : ∃ a' b', V.tup [a, b] = .tup [a', b'] ∧ P a' b' := ⟨_, _, rfl, q⟩
theorem ex_tup3 {a b c : V} {P : V → V → V → Prop} (q : P a b c) : ∃ a' b' c', V.tup [a, b, c] = .tup [a', b', c'] ∧ P a' b' c' := ⟨_, _, _, rfl, q⟩
theorem lka_nil {x : Str} {l : Loc} {u : Option V} (q : List.lookup x l = u) : List.lookup x (putAll [] l) = u := q
theorem lka_cons {x y : Str} {v : V} {r l : Loc} {u : Option V} (q : List.lookup x (putAll r (putL y v l)) = u) : List.lookup x (putAll ((y, v) :: r) l) = u := q
theorem t_setattr {a m : EM V} {f : Str} {Q : Fl → Loc → Obs → Prop} (q : WE m l o fun v o₁ => WE a l o₁ fun x o₂ => ∃ i c fs, x = .ref i ∧ o₂[i]? = some (.inst c fs) ∧ fs.length < 50 ∧ Q .next l (o₂.set i (.inst c (putL f v fs)))) : WS (setAttrM a f m) l o Q := by
  obtain ⟨v, o₁, e, x, o₂, e₂, i, c, fs, rfl, h1, h2, k⟩ := q
  refine ⟨_, _, _, ?_, k⟩
  unfold setAttrM
  rw [e]; simp only [Option.bind_some]
  rw [e₂]; simp only [Option.bind_some]
  unfold setFld
  rw [h1]; simp only [h2, if_true, Option.map_some]
theorem t_augattr {a m : EM V} {f : Str} {Q : Fl → Loc → Obs → Prop} (q : WE a l o fun x o₁ => ∃ i c fs z, x = .ref i ∧ o₁[i]? = some (.inst c fs) ∧ fs.lookup f = some (.int z) ∧
    WE m l o₁ fun v o₂ => ∃ y c' fs', v = .int y ∧ o₂[i]? = some (.inst c' fs') ∧ fs'.length < 50 ∧ Q .next l (o₂.set i (.inst c' (putL f (.int (z + y)) fs')))) : WS (augAttrM a f .Add m) l o Q := by
  obtain ⟨x, o₁, e, i, c, fs, z, rfl, h1, h2, v, o₂, e₂, y, c', fs', rfl, h3, h4, k⟩ := q
  refine ⟨_, _, _, ?_, k⟩
  unfold augAttrM
  rw [e]; simp only [Option.bind_some, h1, h2]
  rw [e₂]; simp only [Option.bind_some]
  unfold setFld
  rw [h3]; simp only [h4, if_true, Option.map_some]
theorem t_setitem {a i m : EM V} {Q : Fl → Loc → Obs → Prop} (q : WE m l o fun v o₁ => WE a l o₁ fun x o₂ => WE i l o₂ fun y o₃ => ∃ j k vs, x = .ref j ∧ y = .int k ∧ o₃[j]? = some (.list vs) ∧ (0 ≤ k ∧ k < vs.length ∧ vs.length ≤ 1000) ∧ Q .next l (o₃.set j (.list (vs.set k.toNat v)))) : WS (setItemM a i m) l o Q := by
  obtain ⟨v, o₁, e, x, o₂, e₂, y, o₃, e₃, j, k, vs, rfl, rfl, h1, h2, r⟩ := q
  refine ⟨_, _, _, ?_, r⟩
  unfold setItemM
  rw [e]; simp only [Option.bind_some]
  rw [e₂]; simp only [Option.bind_some]
  rw [e₃]; simp only [Option.bind_some, h1]
  rw [if_pos h2]
noncomputable def isVoid : V → Bool
  | .none => true
  | .str _ => true
  | _ => false
theorem t_expr {m : EM V} {Q : Fl → Loc → Obs → Prop} (q : WE m l o fun v o₁ => isVoid v = true ∧ Q .next l o₁) : WS (exprM m) l o Q := by
  obtain ⟨v, o₁, e, h, k⟩ := q
  refine ⟨_, _, _, ?_, k⟩
  unfold exprM
  rw [e]; simp only [Option.bind_some]
  cases v <;> first | rfl | cases h
theorem t_ret {m : EM V} {Q : Fl → Loc → Obs → Prop} (q : WE m l o fun v o₁ => Q (.ret v) l o₁) : WS (retM m) l o Q := by
  obtain ⟨v, o₁, e, k⟩ := q
  exact ⟨_, _, _, by unfold retM; rw [e]; rfl, k⟩
theorem t_if {t : EM Bool} {a b : SM} {Q : Fl → Loc → Obs → Prop} (q : WE t l o fun c o₁ => CondW c (WS a l o₁ Q) (WS b l o₁ Q)) : WS (ifM t a b) l o Q := by
  obtain ⟨c, o₁, e, k, k'⟩ := q
  cases c
  · obtain ⟨f, l₂, o₂, e₂, k₂⟩ := k' rfl
    exact ⟨f, l₂, o₂, by unfold ifM; rw [e]; exact e₂, k₂⟩
  · obtain ⟨f, l₂, o₂, e₂, k₂⟩ := k rfl
    exact ⟨f, l₂, o₂, by unfold ifM; rw [e]; exact e₂, k₂⟩
theorem while_loop {t : EM Bool} {b : SM} {Q : Fl → Loc → Obs → Prop} (Inv : Nat → Loc → Obs → Prop)
    (step : ∀ k l o, Inv k l o → WE t l o fun c o₁ => CondW c (WS b l o₁ (LoopW (fun l₂ o₂ => ∃ k', k' < k ∧ Inv k' l₂ o₂) Q)) (Q .next l o₁)) : ∀ (m k : Nat) (l : Loc) (o : Obs), k < m → Inv k l o → ∃ f l' o', whileLoop t b m l o = some (f, l', o') ∧ Q f l' o'
  | 0, _, _, _, h, _ => by omega
  | m + 1, k, l, o, h, i => by
    obtain ⟨c, o₁, e, p, p'⟩ := step k l o i
    unfold whileLoop
    rw [e]; simp only [Option.bind_some]
    cases c with
    | false => exact ⟨_, _, _, rfl, p' rfl⟩
    | true =>
      obtain ⟨f, l₂, o₂, e₂, r⟩ := p rfl
      simp only [if_true]
      rw [e₂]; simp only [Option.bind_some]
      cases f with
      | next =>
        obtain ⟨k', hk, i'⟩ := r
        exact while_loop Inv step m k' l₂ o₂ (by omega) i'
      | ret v => exact ⟨_, _, _, rfl, r⟩
theorem t_while {t : EM Bool} {b : SM} {Q : Fl → Loc → Obs → Prop} (Inv : Nat → Loc → Obs → Prop) {k : Nat} (hN : k < N) (h0 : Inv k l o)
    (step : ∀ k l o, Inv k l o → WE t l o fun c o₁ => CondW c (WS b l o₁ (LoopW (fun l₂ o₂ => ∃ k', k' < k ∧ Inv k' l₂ o₂) Q)) (Q .next l o₁)) : WS (whileM (cfg N n) t b) l o Q := while_loop Inv step N k l o hN h0
theorem for_loop {tg : Tgt} {it : V} {b : SM} {Q : Fl → Loc → Obs → Prop} {xs : List V} (Inv : Nat → Loc → Obs → Prop) (items : ∀ i l o, Inv i l o → itemAt it o i = some xs[i]?)
    (step : ∀ i l o x, Inv i l o → xs[i]? = some x → ∃ bs, bindT tg x = some bs ∧ WS b (putAll bs l) o (LoopW (Inv (i + 1)) Q))
    (fin : ∀ l o, Inv xs.length l o → Q .next l o) : ∀ (m i : Nat) (l : Loc) (o : Obs), i ≤ xs.length → xs.length - i < m → Inv i l o → ∃ f l' o', forLoop tg it b m i l o = some (f, l', o') ∧ Q f l' o'
  | 0, _, _, _, _, h, _ => by omega
  | m + 1, i, l, o, hi, h, inv => by
    unfold forLoop
    rw [items i l o inv]
    cases e : xs[i]? with
    | none =>
      have : xs.length ≤ i := List.getElem?_eq_none_iff.mp e
      have : i = xs.length := by omega
      subst this
      exact ⟨_, _, _, rfl, fin l o inv⟩
    | some x =>
      have hlt := (List.getElem?_eq_some_iff.mp e).1
      obtain ⟨bs, e1, f, l₂, o₂, e₂, r⟩ := step i l o x inv e
      simp only [e1, Option.bind_some]
      rw [e₂]; simp only [Option.bind_some]
      cases f with
      | next => exact for_loop Inv items step fin m (i + 1) l₂ o₂ (by omega) (by omega) r
      | ret v => exact ⟨_, _, _, rfl, r⟩
theorem t_for {tg : Tgt} {iter : EM V} {b : SM} {Q : Fl → Loc → Obs → Prop} (q : WE iter l o fun it o₁ => ∃ (xs : List V) (Inv : Nat → Loc → Obs → Prop), xs.length < N ∧ Inv 0 l o₁ ∧ (∀ i l o, Inv i l o → itemAt it o i = some xs[i]?) ∧
    (∀ i l o x, Inv i l o → xs[i]? = some x → ∃ bs, bindT tg x = some bs ∧ WS b (putAll bs l) o (LoopW (Inv (i + 1)) Q)) ∧ (∀ l o, Inv xs.length l o → Q .next l o)) : WS (forM (cfg N n) (some tg) iter b) l o Q := by
  obtain ⟨it, o₁, e, xs, Inv, h1, h2, h3, h4, h5⟩ := q
  obtain ⟨f, l', o', e', k⟩ := for_loop Inv h3 h4 h5 N 0 l o₁ (by omega) (by omega) h2
  refine ⟨f, l', o', ?_, k⟩
  unfold forM
  simp only
  rw [e]; exact e'
theorem items_rng {m i : Nat} {o : Obs} : itemAt (.rng m) o i = some (((List.range m).map fun (k : Nat) => V.int k)[i]?) := by
  simp only [itemAt, List.getElem?_map]
  by_cases h : i < m
  · rw [if_pos (by omega), List.getElem?_range h]; rfl
  · rw [if_neg (by omega), List.getElem?_eq_none (by simp; omega)]; rfl
theorem items_str {w : List Nat} {i : Nat} {o : Obs} : itemAt (.str w) o i = some ((w.map fun c => V.str [c])[i]?) := by simp only [itemAt, List.getElem?_map]
theorem for_rng {x : Str} {b : SM} {m : Nat} {Q : Fl → Loc → Obs → Prop} (Inv : Nat → Loc → Obs → Prop) (hN : m < N) (h0 : Inv 0 l o)
    (step : ∀ (i : Nat) l o, i < m → Inv i l o → WS b (putL x (.int i) l) o (LoopW (Inv (i + 1)) Q)) (fin : ∀ l o, Inv m l o → Q .next l o) :
    ∃ (xs : List V) (Inv : Nat → Loc → Obs → Prop), xs.length < N ∧ Inv 0 l o ∧ (∀ i l o, Inv i l o → itemAt (.rng m) o i = some xs[i]?) ∧
    (∀ i l o x', Inv i l o → xs[i]? = some x' → ∃ bs, bindT (.one x) x' = some bs ∧ WS b (putAll bs l) o (LoopW (Inv (i + 1)) Q)) ∧ (∀ l o, Inv xs.length l o → Q .next l o) := by
  refine ⟨(List.range m).map fun (k : Nat) => V.int k, Inv, by simpa using hN, h0, fun i l o _ => items_rng, fun i l o x' hi e => ?_, by simpa using fin⟩
  rw [List.getElem?_map] at e
  obtain ⟨k, hk, rfl⟩ := Option.map_eq_some_iff.mp e
  have h1 := (List.getElem?_eq_some_iff.mp hk).1
  simp only [List.length_range] at h1
  rw [List.getElem?_range h1] at hk
  cases hk
  exact ⟨_, rfl, step i l o h1 hi⟩
theorem for_str {x : Str} {b : SM} {w : List Nat} {Q : Fl → Loc → Obs → Prop} (Inv : Nat → Loc → Obs → Prop) (hN : w.length < N) (h0 : Inv 0 l o)
    (step : ∀ (i : Nat) c l o, w[i]? = some c → Inv i l o → WS b (putL x (.str [c]) l) o (LoopW (Inv (i + 1)) Q)) (fin : ∀ l o, Inv w.length l o → Q .next l o) :
    ∃ (xs : List V) (Inv : Nat → Loc → Obs → Prop), xs.length < N ∧ Inv 0 l o ∧ (∀ i l o, Inv i l o → itemAt (.str w) o i = some xs[i]?) ∧
    (∀ i l o x', Inv i l o → xs[i]? = some x' → ∃ bs, bindT (.one x) x' = some bs ∧ WS b (putAll bs l) o (LoopW (Inv (i + 1)) Q)) ∧ (∀ l o, Inv xs.length l o → Q .next l o) := by
  refine ⟨w.map fun c => V.str [c], Inv, by simpa using hN, h0, fun i l o _ => items_str, fun i l o x' hi e => ?_, by simpa using fin⟩
  rw [List.getElem?_map] at e
  obtain ⟨k, hk, rfl⟩ := Option.map_eq_some_iff.mp e
  exact ⟨_, rfl, step i k l o hk hi⟩
theorem comp_loop {tg : Tgt} {it : V} {id : Nat} {fl : Loc} {elt : EM V} {Q : V → Obs → Prop} {xs : List V} (Inv : Nat → Obs → Prop) (items : ∀ i o, Inv i o → itemAt it o i = some xs[i]?)
    (step : ∀ i o x, Inv i o → xs[i]? = some x → ∃ bs, bindT tg x = some bs ∧ WE elt (putAll bs fl) o fun v o₂ => ∃ vs, o₂[id]? = some (.list vs) ∧ vs.length < 100000 ∧ Inv (i + 1) (o₂.set id (.list (vs ++ [v]))))
    (fin : ∀ o, Inv xs.length o → Q (.ref id) o) : ∀ (m i : Nat) (o : Obs), i ≤ xs.length → xs.length - i < m → Inv i o → ∃ v o', compLoop tg it id fl elt m i o = some (v, o') ∧ Q v o'
  | 0, _, _, _, h, _ => by omega
  | m + 1, i, o, hi, h, inv => by
    unfold compLoop
    rw [items i o inv]
    cases e : xs[i]? with
    | none =>
      have : xs.length ≤ i := List.getElem?_eq_none_iff.mp e
      have : i = xs.length := by omega
      subst this
      exact ⟨_, _, rfl, fin o inv⟩
    | some x =>
      have hlt := (List.getElem?_eq_some_iff.mp e).1
      obtain ⟨bs, e1, v, o₂, e₂, vs, h1, h2, r⟩ := step i o x inv e
      simp only [e1, Option.bind_some]
      rw [e₂]; simp only [Option.bind_some]
      unfold appV
      rw [h1]; simp only [h2, if_true, Option.bind_some]
      exact comp_loop Inv items step fin m (i + 1) _ (by omega) (by omega) r
theorem w_comp {tg : Tgt} {fs : List Str} {iter elt : EM V} {Q : V → Obs → Prop} (q : WE iter l o fun it o₁ => ∃ (xs : List V) (Inv : Nat → Obs → Prop), xs.length < N ∧ Inv 0 (o₁ ++ [.list []]) ∧ (∀ i o, Inv i o → itemAt it o i = some xs[i]?) ∧
    (∀ i o x, Inv i o → xs[i]? = some x → ∃ bs, bindT tg x = some bs ∧ WE elt (putAll bs (freesOf fs l)) o fun v o₂ => ∃ vs, o₂[o₁.length]? = some (.list vs) ∧ vs.length < 100000 ∧ Inv (i + 1) (o₂.set o₁.length (.list (vs ++ [v])))) ∧
    (∀ o, Inv xs.length o → Q (.ref o₁.length) o)) : WE (compM (cfg N n) (some tg) fs iter elt) l o Q := by
  obtain ⟨it, o₁, e, xs, Inv, h1, h2, h3, h4, h5⟩ := q
  obtain ⟨v, o', e', k⟩ := comp_loop Inv h3 h4 h5 N 0 _ (by omega) (by omega) h2
  refine ⟨v, o', ?_, k⟩
  unfold compM
  simp only
  rw [e]; exact e'

noncomputable def EndW (Q : V → Obs → Prop) : Fl → Loc → Obs → Prop
  | .ret v, _, o => Q v o
  | .next, _, o => Q .none o
theorem end_ret {v : V} {Q : V → Obs → Prop} (q : Q v o) : EndW Q (.ret v) l o := q
theorem end_next {Q : V → Obs → Prop} (q : Q .none o) : EndW Q .next l o := q
theorem ex_int {i : Int} {P : Int → Prop} (q : P i) : ∃ j, V.int i = .int j ∧ P j := ⟨i, rfl, q⟩
theorem ex_fld {i : Nat} {c : Str} {fs : List (Str × V)} {P : Nat → Str → List (Str × V) → Prop} (h : o[i]? = some (.inst c fs)) (hl : fs.length < 50) (q : P i c fs) : ∃ j c fs, V.ref i = .ref j ∧ o[j]? = some (.inst c fs) ∧ fs.length < 50 ∧ P j c fs := ⟨_, _, _, rfl, h, hl, q⟩
theorem ex_app {i : Nat} {v : V} {xs : List V} {P : V → List V → Prop} (h : o[i]? = some (.list xs)) (hl : xs.length < 100000) (q : P v xs) : ∃ u xs, [v] = [u] ∧ o[i]? = some (.list xs) ∧ xs.length < 100000 ∧ P u xs := ⟨_, _, rfl, h, hl, q⟩
theorem void_str {x : List Nat} {P : Prop} (q : P) : isVoid (.str x) = true ∧ P := ⟨rfl, q⟩
theorem void_none {P : Prop} (q : P) : isVoid .none = true ∧ P := ⟨rfl, q⟩
theorem w_body {cl f : Str} {args : List V} {fn : Fn} {Q : V → Obs → Prop} (h1 : tabGet cl f tab = some fn) (h2 : bindP fn.params fn.dflt args = some l) (q : WS (fn.body (cfg N n)) l o (EndW Q)) : WC N (n + 1) cl f args o Q := by
  obtain ⟨g, l', o', e, k⟩ := q
  cases g with
  | ret v => exact ⟨v, o', by unfold run; rw [h1]; simp only [Option.bind_some]; rw [h2]; simp only [Option.bind_some]; rw [show fn.body ⟨run tab globF N n, globF, N⟩ l o = _ from e]; rfl, k⟩
  | next => exact ⟨.none, o', by unfold run; rw [h1]; simp only [Option.bind_some]; rw [h2]; simp only [Option.bind_some]; rw [show fn.body ⟨run tab globF N n, globF, N⟩ l o = _ from e]; rfl, k⟩
end
end Mine.L
end

section
open PySem
set_option linter.unusedVariables false
set_option Elab.async false
namespace Mine.L

noncomputable def B_Word_init (c : Cfg) : SM := (thenS (setAttrM (locM "self") "kind" (locM "kind")) (thenS (setAttrM (locM "self") "text" (locM "text")) (thenS (setAttrM (locM "self") "line" (locM "line")) (thenS (setAttrM (locM "self") "column" (locM "column")) (thenS (setAttrM (locM "self") "value" (locM "value")) (thenS (setAttrM (locM "self") "is_first" (locM "is_first")) (thenS (setAttrM (locM "self") "end" (locM "end")) nextS)))))))
theorem E_Word_init (c : Cfg) : b_Word_init c = B_Word_init c := by kernel_rfl
noncomputable def B_Signs_init (c : Cfg) : SM := (thenS (setAttrM (locM "self") "text" (locM "text")) (thenS (setAttrM (locM "self") "at" (retE (.int 0))) (thenS (setAttrM (locM "self") "line" (retE (.int 1))) (thenS (setAttrM (locM "self") "column" (retE (.int 1))) nextS))))
theorem E_Signs_init (c : Cfg) : b_Signs_init c = B_Signs_init c := by kernel_rfl
noncomputable def B_Signs_sign (c : Cfg) : SM := (thenS (assignM "place" (binM .Add (attrM (locM "self") "at") (locM "ahead"))) (thenS (retM (iteM (testM (cmpM .Lt (locM "place") (bltM "len" [(attrM (locM "self") "text")]))) (subM (attrM (locM "self") "text") (locM "place")) (retE (.str [])))) nextS))
theorem E_Signs_sign (c : Cfg) : b_Signs_sign c = B_Signs_sign c := by kernel_rfl
noncomputable def B_Signs_starts (c : Cfg) : SM := (thenS (retM (cmpM .Eq (sliceM (attrM (locM "self") "text") (attrM (locM "self") "at") (binM .Add (attrM (locM "self") "at") (bltM "len" [(locM "some")]))) (locM "some"))) nextS)
theorem E_Signs_starts (c : Cfg) : b_Signs_starts c = B_Signs_starts c := by kernel_rfl
noncomputable def B_Signs_step (c : Cfg) : SM := (thenS (assignM "found" (methM c "sign" (locM "self") [])) (thenS (augAttrM (locM "self") "at" .Add (retE (.int 1))) (thenS (ifM (orT [(andT [(testM (cmpM .NotEq (locM "found") (retE (.str [])))), (testM (cmpM .In (locM "found") (retE (.str [10, 12]))))]), (andT [(testM (cmpM .Eq (locM "found") (retE (.str [13])))), (testM (cmpM .NotEq (methM c "sign" (locM "self") []) (retE (.str [10]))))])]) (thenS (augAttrM (locM "self") "line" .Add (retE (.int 1))) (thenS (setAttrM (locM "self") "column" (retE (.int 1))) nextS)) (thenS (ifM (testM (cmpM .Eq (locM "found") (retE (.str [9])))) (thenS (setAttrM (locM "self") "column" (binM .Add (binM .Add (binM .Mult (binM .FloorDiv (binM .Sub (attrM (locM "self") "column") (retE (.int 1))) (globM c "TAB")) (globM c "TAB")) (globM c "TAB")) (retE (.int 1)))) nextS) (thenS (augAttrM (locM "self") "column" .Add (retE (.int 1))) nextS)) nextS)) (thenS (retM (locM "found")) nextS))))
theorem E_Signs_step (c : Cfg) : b_Signs_step c = B_Signs_step c := by kernel_rfl
noncomputable def B_Signs_take (c : Cfg) : SM := (thenS (assignM "begin" (attrM (locM "self") "at")) (thenS (whileM c (andT [(testM (cmpM .NotEq (methM c "sign" (locM "self") []) (retE (.str [])))), (testM (cmpM .In (methM c "sign" (locM "self") []) (locM "letters")))]) (thenS (exprM (methM c "step" (locM "self") [])) nextS)) (thenS (retM (sliceM (attrM (locM "self") "text") (locM "begin") (attrM (locM "self") "at"))) nextS)))
theorem E_Signs_take (c : Cfg) : b_Signs_take c = B_Signs_take c := by kernel_rfl
noncomputable def B_Signs_place (c : Cfg) : SM := (thenS (retM (tupM [(attrM (locM "self") "line"), (attrM (locM "self") "column")])) nextS)
theorem E_Signs_place (c : Cfg) : b_Signs_place c = B_Signs_place c := by kernel_rfl
noncomputable def B_is_among (c : Cfg) : SM := (thenS (retM (andM [(cmpM .NotEq (locM "sign") (retE (.str []))), (cmpM .In (locM "sign") (locM "letters"))])) nextS)
theorem E_is_among (c : Cfg) : b_is_among c = B_is_among c := by kernel_rfl
noncomputable def B_is_bare (c : Cfg) : SM := (thenS (retM (andM [(cmpM .NotEq (locM "sign") (retE (.str []))), (cmpM .GtE (bltM "ord" [(locM "sign")]) (retE (.int 32))), (cmpM .NotEq (bltM "ord" [(locM "sign")]) (globM c "DELETE"))])) nextS)
theorem E_is_bare (c : Cfg) : b_is_bare c = B_is_bare c := by kernel_rfl
noncomputable def B_name_letters (c : Cfg) : SM := (thenS (retM (binM .Add (binM .Add (binM .Add (globM c "SMALL") (globM c "GREAT")) (globM c "DIGITS")) (retE (.str [39])))) nextS)
theorem E_name_letters (c : Cfg) : b_name_letters c = B_name_letters c := by kernel_rfl
noncomputable def B_is_line_comment (c : Cfg) : SM := (thenS (ifM (notT (testM (methM c "starts" (locM "signs") [(retE (.str [45, 45]))]))) (thenS (retM (retE (.bool false))) nextS) nextS) (thenS (assignM "ahead" (retE (.int 2))) (thenS (whileM c (testM (cmpM .Eq (methM c "sign" (locM "signs") [(locM "ahead")]) (retE (.str [45])))) (thenS (augNameM "ahead" .Add (retE (.int 1))) nextS)) (thenS (retM (boolM (notT (testM (funM c "is_symbol" [(methM c "sign" (locM "signs") [(locM "ahead")])]))))) nextS))))
theorem E_is_line_comment (c : Cfg) : b_is_line_comment c = B_is_line_comment c := by kernel_rfl
noncomputable def B_skip_between (c : Cfg) : SM := (thenS (assignM "line" (attrM (locM "signs") "line")) (thenS (assignM "going" (retE (.bool true))) (thenS (whileM c (testM (locM "going")) (thenS (ifM (testM (funM c "is_among" [(methM c "sign" (locM "signs") []), (retE (.str [32, 9, 10, 13, 12, 11]))])) (thenS (exprM (methM c "step" (locM "signs") [])) nextS) (thenS (ifM (testM (funM c "is_line_comment" [(locM "signs")])) (thenS (whileM c (testM (cmpM .NotIn (methM c "sign" (locM "signs") []) (tupM [(retE (.str [])), (retE (.str [10])), (retE (.str [13])), (retE (.str [12]))]))) (thenS (exprM (methM c "step" (locM "signs") [])) nextS)) nextS) (thenS (ifM (testM (methM c "starts" (locM "signs") [(retE (.str [123, 45]))])) (thenS (exprM (funM c "skip_nested" [(locM "signs")])) nextS) (thenS (assignM "going" (retE (.bool false))) nextS)) nextS)) nextS)) nextS)) (thenS (retM (cmpM .Gt (attrM (locM "signs") "line") (locM "line"))) nextS))))
theorem E_skip_between (c : Cfg) : b_skip_between c = B_skip_between c := by kernel_rfl
noncomputable def B_number_of (c : Cfg) : SM := (thenS (assignM "found" (retE (.int 0))) (thenS (forM c (some (.one "digit")) (locM "digits") (thenS (assignM "found" (binM .Add (binM .Mult (locM "found") (locM "base")) (methM c "index" (retE (.str [48, 49, 50, 51, 52, 53, 54, 55, 56, 57, 97, 98, 99, 100, 101, 102])) [(methM c "lower" (locM "digit") [])]))) (thenS (ifM (testM (cmpM .GtE (locM "found") (globM c "TOO_GREAT"))) (thenS failS nextS) nextS) nextS))) (thenS (retM (locM "found")) nextS)))
theorem E_number_of (c : Cfg) : b_number_of c = B_number_of c := by kernel_rfl
noncomputable def B_checked_sign (c : Cfg) : SM := (thenS (ifM (testM (cmpM .Gt (locM "number") (globM c "MOST_SIGN"))) (thenS failS nextS) nextS) (thenS (retM (bltM "chr" [(locM "number")])) nextS))
theorem E_checked_sign (c : Cfg) : b_checked_sign c = B_checked_sign c := by kernel_rfl
noncomputable def B_named_escape (c : Cfg) : SM := (thenS (unpackM ["best", "number"] (tupM [(retE (.str [])), (retE .none)])) (thenS (forM c (some (.one "at")) (bltM "range" [(bltM "len" [(globM c "NAMED_ESCAPES")])]) (thenS (ifM (andT [(testM (methM c "starts" (locM "signs") [(subM (globM c "NAMED_ESCAPES") (locM "at"))])), (testM (cmpM .Gt (bltM "len" [(subM (globM c "NAMED_ESCAPES") (locM "at"))]) (bltM "len" [(locM "best")])))]) (thenS (swapM ["best", "number"] (tupM [(subM (globM c "NAMED_ESCAPES") (locM "at")), (locM "at")])) nextS) nextS) nextS)) (thenS (ifM (testM (methM c "starts" (locM "signs") [(retE (.str [68, 69, 76]))])) (thenS (swapM ["best", "number"] (tupM [(retE (.str [68, 69, 76])), (globM c "DELETE")])) nextS) nextS) (thenS (forM c (some (.one "turn")) (bltM "range" [(bltM "len" [(locM "best")])]) (thenS (exprM (methM c "step" (locM "signs") [])) nextS)) (thenS (retM (iteM (testM (cmpM .Is (locM "number") (retE .none))) (retE .none) (bltM "chr" [(locM "number")]))) nextS)))))
theorem E_named_escape (c : Cfg) : b_named_escape c = B_named_escape c := by kernel_rfl
noncomputable def B_read_escape (c : Cfg) : SM := (thenS (assignM "place" (methM c "place" (locM "signs") [])) (thenS (assignM "sign" (methM c "sign" (locM "signs") [])) (thenS (ifM (testM (funM c "is_among" [(locM "sign"), (globM c "DIGITS")])) (thenS (retM (funM c "checked_sign" [(funM c "number_of" [(methM c "take" (locM "signs") [(globM c "DIGITS")]), (retE (.int 10)), (locM "place")]), (locM "place")])) nextS) nextS) (thenS (forM c (some (.many ["letter", "letters", "base"])) (tupM [(tupM [(retE (.str [120])), (binM .Add (globM c "DIGITS") (retE (.str [97, 98, 99, 100, 101, 102, 65, 66, 67, 68, 69, 70]))), (retE (.int 16))]), (tupM [(retE (.str [111])), (retE (.str [48, 49, 50, 51, 52, 53, 54, 55])), (retE (.int 8))])]) (thenS (ifM (andT [(testM (cmpM .Eq (locM "sign") (locM "letter"))), (testM (funM c "is_among" [(methM c "sign" (locM "signs") [(retE (.int 1))]), (locM "letters")]))]) (thenS (exprM (methM c "step" (locM "signs") [])) (thenS (retM (funM c "checked_sign" [(funM c "number_of" [(methM c "take" (locM "signs") [(locM "letters")]), (locM "base"), (locM "place")]), (locM "place")])) nextS)) nextS) nextS)) (thenS (ifM (andT [(testM (cmpM .Eq (locM "sign") (retE (.str [94])))), (testM (cmp2M .LtE .LtE (retE (.str [64])) (methM c "sign" (locM "signs") [(retE (.int 1))]) (retE (.str [95]))))]) (thenS (exprM (methM c "step" (locM "signs") [])) (thenS (retM (bltM "chr" [(binM .Sub (bltM "ord" [(methM c "step" (locM "signs") [])]) (retE (.int 64)))])) nextS)) nextS) (thenS (ifM (andT [(testM (cmpM .NotEq (locM "sign") (retE (.str [])))), (testM (cmpM .In (locM "sign") (globM c "PLAIN_ESCAPES")))]) (thenS (exprM (methM c "step" (locM "signs") [])) (thenS (retM (bltM "chr" [(subM (globM c "PLAIN_ESCAPES") (locM "sign"))])) nextS)) nextS) (thenS (assignM "found" (funM c "named_escape" [(locM "signs")])) (thenS (ifM (testM (cmpM .Is (locM "found") (retE .none))) (thenS failS nextS) nextS) (thenS (retM (locM "found")) nextS)))))))))
theorem E_read_escape (c : Cfg) : b_read_escape c = B_read_escape c := by kernel_rfl
noncomputable def B_read_char (c : Cfg) : SM := (thenS (assignM "place" (methM c "place" (locM "signs") [])) (thenS (exprM (methM c "step" (locM "signs") [])) (thenS (assignM "sign" (methM c "step" (locM "signs") [])) (thenS (ifM (orT [(notT (testM (funM c "is_bare" [(locM "sign")]))), (testM (cmpM .Eq (locM "sign") (retE (.str [39]))))]) (thenS failS nextS) nextS) (thenS (ifM (testM (cmpM .Eq (locM "sign") (retE (.str [92])))) (thenS (assignM "sign" (funM c "read_escape" [(locM "signs")])) nextS) nextS) (thenS (ifM (testM (cmpM .NotEq (methM c "step" (locM "signs") []) (retE (.str [39])))) (thenS failS nextS) nextS) (thenS (retM (locM "sign")) nextS)))))))
theorem E_read_char (c : Cfg) : b_read_char c = B_read_char c := by kernel_rfl
noncomputable def B_read_text (c : Cfg) : SM := (thenS (assignM "place" (methM c "place" (locM "signs") [])) (thenS (exprM (methM c "step" (locM "signs") [])) (thenS (assignM "found" (listM [])) (thenS (whileM c (testM (cmpM .NotEq (methM c "sign" (locM "signs") []) (retE (.str [34])))) (thenS (assignM "sign" (methM c "step" (locM "signs") [])) (thenS (ifM (notT (testM (funM c "is_bare" [(locM "sign")]))) (thenS failS nextS) nextS) (thenS (ifM (testM (cmpM .NotEq (locM "sign") (retE (.str [92])))) (thenS (exprM (methM c "append" (locM "found") [(locM "sign")])) nextS) (thenS (ifM (testM (cmpM .Eq (methM c "sign" (locM "signs") []) (retE (.str [38])))) (thenS (exprM (methM c "step" (locM "signs") [])) nextS) (thenS (ifM (testM (funM c "is_among" [(methM c "sign" (locM "signs") []), (retE (.str [32, 9, 10, 13, 12, 11]))])) (thenS (exprM (funM c "skip_gap" [(locM "signs"), (locM "place")])) nextS) (thenS (exprM (methM c "append" (locM "found") [(funM c "read_escape" [(locM "signs")])])) nextS)) nextS)) nextS)) nextS)))) (thenS (exprM (methM c "step" (locM "signs") [])) (thenS (retM (methM c "join" (retE (.str [])) [(locM "found")])) nextS))))))
theorem E_read_text (c : Cfg) : b_read_text c = B_read_text c := by kernel_rfl
noncomputable def B_symbol_kind (c : Cfg) : SM := (thenS (ifM (testM (cmpM .In (locM "text") (globM c "OPS"))) (thenS (retM (retE (.str [111, 112]))) nextS) nextS) (thenS (retM (iteM (testM (cmpM .Eq (subM (locM "text") (retE (.int 0))) (retE (.str [58])))) (retE (.str [99, 111, 110, 115, 121, 109])) (retE (.str [118, 97, 114, 115, 121, 109])))) nextS))
theorem E_symbol_kind (c : Cfg) : b_symbol_kind c = B_symbol_kind c := by kernel_rfl
noncomputable def B_read_word (c : Cfg) : SM := (thenS (assignM "sign" (methM c "sign" (locM "signs") [])) (thenS (ifM (testM (cmpM .Eq (locM "sign") (retE (.str [])))) (thenS (retM (tupM [(retE (.str [101, 110, 100])), (retE (.str [])), (retE .none)])) nextS) nextS) (thenS (ifM (testM (funM c "is_among" [(locM "sign"), (globM c "SPECIALS")])) (thenS (retM (tupM [(retE (.str [115, 112, 101, 99, 105, 97, 108])), (methM c "step" (locM "signs") []), (retE .none)])) nextS) nextS) (thenS (ifM (testM (funM c "is_among" [(locM "sign"), (globM c "DIGITS")])) (thenS (assignM "begin" (attrM (locM "signs") "at")) (thenS (assignM "value" (funM c "read_number" [(locM "signs")])) (thenS (retM (tupM [(retE (.str [105, 110, 116])), (sliceM (attrM (locM "signs") "text") (locM "begin") (attrM (locM "signs") "at")), (locM "value")])) nextS))) nextS) (thenS (ifM (testM (funM c "is_among" [(locM "sign"), (globM c "SMALL")])) (thenS (assignM "name" (methM c "take" (locM "signs") [(funM c "name_letters" [])])) (thenS (retM (tupM [(iteM (testM (cmpM .In (locM "name") (globM c "KEYS"))) (retE (.str [107, 101, 121])) (retE (.str [118, 97, 114]))), (locM "name"), (retE .none)])) nextS)) nextS) (thenS (ifM (testM (funM c "is_among" [(locM "sign"), (globM c "GREAT")])) (thenS (retM (funM c "read_great_name" [(locM "signs")])) nextS) nextS) (thenS (ifM (testM (funM c "is_among" [(locM "sign"), (globM c "SYMBOLS")])) (thenS (assignM "text" (methM c "take" (locM "signs") [(globM c "SYMBOLS")])) (thenS (retM (tupM [(funM c "symbol_kind" [(locM "text")]), (locM "text"), (retE .none)])) nextS)) nextS) (thenS (assignM "begin" (attrM (locM "signs") "at")) (thenS (ifM (testM (cmpM .Eq (locM "sign") (retE (.str [39])))) (thenS (assignM "value" (funM c "read_char" [(locM "signs")])) (thenS (retM (tupM [(retE (.str [99, 104, 97, 114])), (sliceM (attrM (locM "signs") "text") (locM "begin") (attrM (locM "signs") "at")), (locM "value")])) nextS)) nextS) (thenS (ifM (testM (cmpM .Eq (locM "sign") (retE (.str [34])))) (thenS (assignM "value" (funM c "read_text" [(locM "signs")])) (thenS (retM (tupM [(retE (.str [116, 101, 120, 116])), (sliceM (attrM (locM "signs") "text") (locM "begin") (attrM (locM "signs") "at")), (locM "value")])) nextS)) nextS) (thenS failS nextS)))))))))))
theorem E_read_word (c : Cfg) : b_read_word c = B_read_word c := by kernel_rfl
noncomputable def B_words_of (c : Cfg) : SM := (thenS (assignM "signs" (newM c "Signs" [(locM "text")])) (thenS (assignM "found" (listM [])) (thenS (assignM "is_first" (retE (.bool true))) (thenS (whileM c (orT [(testM (cmpM .Eq (locM "found") (listM []))), (testM (cmpM .NotEq (attrM (subM (locM "found") (negM (retE (.int 1)))) "kind") (retE (.str [101, 110, 100]))))]) (thenS (assignM "is_first" (orM [(funM c "skip_between" [(locM "signs")]), (locM "is_first")])) (thenS (unpackM ["line", "column"] (methM c "place" (locM "signs") [])) (thenS (unpackM ["kind", "name", "value"] (funM c "read_word" [(locM "signs")])) (thenS (exprM (methM c "append" (locM "found") [(newM c "Word" [(locM "kind"), (locM "name"), (locM "line"), (locM "column"), (locM "value"), (locM "is_first"), (methM c "place" (locM "signs") [])])])) (thenS (assignM "is_first" (retE (.bool false))) nextS)))))) (thenS (retM (locM "found")) nextS)))))
theorem E_words_of (c : Cfg) : b_words_of c = B_words_of c := by kernel_rfl
noncomputable def B_law_trunk (c : Cfg) : SM := (thenS (assignM "told" (iteM (testM (cmpM .Gt (bltM "len" [(locM "script")]) (retE (.int 0)))) (subM (locM "script") (retE (.int 0))) (retE (.int 0)))) (thenS (assignM "size" (iteM (testM (cmpM .GtE (locM "told") (retE (.int 0)))) (locM "told") (binM .Sub (retE (.int 29)) (binM .Mult (retE (.int 2)) (locM "told"))))) (thenS (ifM (testM (cmpM .Eq (locM "told") (retE (.int 0)))) (thenS (retM (listM [(retE (.int 0)), (retE (.int 0))])) nextS) nextS) (thenS (retM (listM [(iteM (testM (cmpM .GtE (locM "size") (binM .Pow (retE (.int 10)) (retE (.int 15))))) (locM "size") (retE (.int 0))), (binM .Mod (binM .Add (binM .Add (binM .Mult (binM .Mod (locM "size") (retE (.int 1999867))) (retE (.int 2))) (bltM "int" [(cmpM .Lt (locM "told") (retE (.int 0)))])) (retE (.int 61))) (retE (.int 2147483399)))])) nextS))))
theorem E_law_trunk (c : Cfg) : b_law_trunk c = B_law_trunk c := by kernel_rfl
noncomputable def B_law_pull (c : Cfg) : SM := (thenS (ifM (testM (cmpM .Gt (subM (locM "trunk") (retE (.int 0))) (retE (.int 0)))) (thenS (assignM "found" (binM .Mod (subM (locM "trunk") (retE (.int 0))) (locM "many"))) (thenS (setItemM (locM "trunk") (retE (.int 0)) (binM .FloorDiv (subM (locM "trunk") (retE (.int 0))) (locM "many"))) (thenS (retM (locM "found")) nextS))) nextS) (thenS (ifM (testM (cmpM .Eq (subM (locM "trunk") (retE (.int 1))) (retE (.int 0)))) (thenS (retM (retE (.int 0))) nextS) nextS) (thenS (setItemM (locM "trunk") (retE (.int 1)) (binM .Mod (binM .Add (binM .Mult (subM (locM "trunk") (retE (.int 1))) (retE (.int 40692))) (retE (.int 79))) (retE (.int 2147483399)))) (thenS (retM (binM .Mod (binM .FloorDiv (subM (locM "trunk") (retE (.int 1))) (retE (.int 32))) (locM "many"))) nextS))))
theorem E_law_pull (c : Cfg) : b_law_pull c = B_law_pull c := by kernel_rfl
noncomputable def B_law_one (c : Cfg) : SM := (thenS (retM (subM (locM "things") (funM c "_law_pull" [(locM "trunk"), (bltM "len" [(locM "things")])]))) nextS)
theorem E_law_one (c : Cfg) : b_law_one c = B_law_one c := by kernel_rfl
noncomputable def B_law_named (c : Cfg) : SM := (thenS (assignM "told" (retE (.str [78, 85, 76, 32, 83, 79, 72, 32, 83, 84, 88, 32, 69, 84, 88, 32, 69, 79, 84, 32, 69, 78, 81, 32, 65, 67, 75, 32, 66, 69, 76, 32, 66, 83, 32, 72, 84, 32, 76, 70, 32, 86, 84, 32, 70, 70, 32, 67, 82, 32, 83, 79, 32, 83, 73, 32, 68, 76, 69, 32, 68, 67, 49, 32, 68, 67, 50, 32, 68, 67, 51, 32, 68, 67, 52, 32, 78, 65, 75, 32, 83, 89, 78, 32, 69, 84, 66, 32, 67, 65, 78, 32, 69, 77, 32, 83, 85, 66, 32, 69, 83, 67]))) (thenS (retM (binM .Add (methM c "split" (locM "told") [(retE (.str [32]))]) (listM [(retE (.str [70, 83])), (retE (.str [71, 83])), (retE (.str [82, 83])), (retE (.str [85, 83])), (retE (.str [83, 80]))]))) nextS))
theorem E_law_named (c : Cfg) : b_law_named c = B_law_named c := by kernel_rfl
noncomputable def B_law_escape (c : Cfg) : SM := (thenS (assignM "way" (funM c "_law_pull" [(locM "trunk"), (retE (.int 5))])) (thenS (ifM (testM (cmpM .Eq (locM "way") (retE (.int 0)))) (thenS (retM (funM c "_law_one" [(locM "trunk"), (listM [(tupM [(retE (.str [92, 97])), (retE (.int 7))]), (tupM [(retE (.str [92, 98])), (retE (.int 8))]), (tupM [(retE (.str [92, 116])), (retE (.int 9))]), (tupM [(retE (.str [92, 110])), (retE (.int 10))]), (tupM [(retE (.str [92, 118])), (retE (.int 11))]), (tupM [(retE (.str [92, 102])), (retE (.int 12))]), (tupM [(retE (.str [92, 114])), (retE (.int 13))]), (tupM [(retE (.str [92, 92])), (retE (.int 92))]), (tupM [(retE (.str [92, 34])), (retE (.int 34))]), (tupM [(retE (.str [92, 39])), (retE (.int 39))])])])) nextS) nextS) (thenS (ifM (testM (cmpM .Eq (locM "way") (retE (.int 1)))) (thenS (assignM "names" (funM c "_law_named" [])) (thenS (assignM "place" (funM c "_law_pull" [(locM "trunk"), (binM .Add (bltM "len" [(locM "names")]) (retE (.int 1)))])) (thenS (retM (iteM (testM (cmpM .Lt (locM "place") (bltM "len" [(locM "names")]))) (tupM [(binM .Add (retE (.str [92])) (subM (locM "names") (locM "place"))), (locM "place")]) (tupM [(retE (.str [92, 68, 69, 76])), (retE (.int 127))]))) nextS))) nextS) (thenS (ifM (testM (cmpM .Eq (locM "way") (retE (.int 2)))) (thenS (assignM "place" (funM c "_law_pull" [(locM "trunk"), (retE (.int 32))])) (thenS (retM (tupM [(binM .Add (retE (.str [92, 94])) (subM (retE (.str [64, 65, 66, 67, 68, 69, 70, 71, 72, 73, 74, 75, 76, 77, 78, 79, 80, 81, 82, 83, 84, 85, 86, 87, 88, 89, 90, 91, 92, 93, 94, 95])) (locM "place"))), (locM "place")])) nextS)) nextS) (thenS (assignM "number" (funM c "_law_one" [(locM "trunk"), (listM [(retE (.int 0)), (retE (.int 9)), (retE (.int 65)), (retE (.int 255)), (retE (.int 8364)), (retE (.int 1114111)), (funM c "_law_pull" [(locM "trunk"), (retE (.int 400))])])])) (thenS (ifM (testM (cmpM .Eq (locM "way") (retE (.int 3)))) (thenS (retM (tupM [(binM .Add (binM .Add (retE (.str [92])) (binM .Mult (retE (.str [48])) (funM c "_law_pull" [(locM "trunk"), (retE (.int 2))]))) (bltM "str" [(locM "number")])), (locM "number")])) nextS) nextS) (thenS (retM (funM c "_law_based" [(locM "number"), (funM c "_law_one" [(locM "trunk"), (listM [(retE (.int 8)), (retE (.int 16))])])])) nextS)))))))
theorem E_law_escape (c : Cfg) : b_law_escape c = B_law_escape c := by kernel_rfl
noncomputable def B_law_based (c : Cfg) : SM := (thenS (swapM ["figures", "left"] (tupM [(subM (retE (.str [48, 49, 50, 51, 52, 53, 54, 55, 56, 57, 97, 98, 99, 100, 101, 102])) (binM .Mod (locM "number") (locM "base"))), (binM .FloorDiv (locM "number") (locM "base"))])) (thenS (whileM c (testM (cmpM .Gt (locM "left") (retE (.int 0)))) (thenS (swapM ["figures", "left"] (tupM [(binM .Add (subM (retE (.str [48, 49, 50, 51, 52, 53, 54, 55, 56, 57, 97, 66, 67, 100, 69, 70])) (binM .Mod (locM "left") (locM "base"))) (locM "figures")), (binM .FloorDiv (locM "left") (locM "base"))])) nextS)) (thenS (retM (tupM [(binM .Add (iteM (testM (cmpM .Eq (locM "base") (retE (.int 8)))) (retE (.str [92, 111])) (retE (.str [92, 120]))) (locM "figures")), (locM "number")])) nextS)))
theorem E_law_based (c : Cfg) : b_law_based c = B_law_based c := by kernel_rfl
noncomputable def B_law_text (c : Cfg) : SM := (thenS (unpackM ["raw", "value"] (tupM [(retE (.str [])), (retE (.str []))])) (thenS (forM c (some (.one "turn")) (bltM "range" [(funM c "_law_pull" [(locM "trunk"), (retE (.int 7))])]) (thenS (ifM (testM (cmpM .Eq (funM c "_law_pull" [(locM "trunk"), (retE (.int 4))]) (retE (.int 0)))) (thenS (assignM "sign" (funM c "_law_one" [(locM "trunk"), (listM [(retE (.str [122])), (retE (.str [32])), (retE (.str [63])), (retE (.str [39])), (retE (.str [126])), (bltM "chr" [(retE (.int 233))])])])) (thenS (swapM ["raw", "value"] (tupM [(binM .Add (locM "raw") (locM "sign")), (binM .Add (locM "value") (locM "sign"))])) nextS)) (thenS (unpackM ["told", "number"] (funM c "_law_escape" [(locM "trunk")])) (thenS (swapM ["raw", "value"] (tupM [(binM .Add (locM "raw") (locM "told")), (binM .Add (locM "value") (bltM "chr" [(locM "number")]))])) nextS))) nextS)) (thenS (retM (tupM [(retE (.str [116, 101, 120, 116])), (binM .Add (binM .Add (retE (.str [34])) (locM "raw")) (retE (.str [34]))), (locM "value")])) nextS)))
theorem E_law_text (c : Cfg) : b_law_text c = B_law_text c := by kernel_rfl
noncomputable def B_law_sign (c : Cfg) : SM := (thenS (ifM (testM (cmpM .Eq (funM c "_law_pull" [(locM "trunk"), (retE (.int 3))]) (retE (.int 0)))) (thenS (assignM "sign" (funM c "_law_one" [(locM "trunk"), (listM [(retE (.str [97])), (retE (.str [32])), (retE (.str [34])), (retE (.str [48])), (retE (.str [126])), (bltM "chr" [(retE (.int 233))]), (retE (.str [45]))])])) (thenS (retM (tupM [(retE (.str [99, 104, 97, 114])), (binM .Add (binM .Add (retE (.str [39])) (locM "sign")) (retE (.str [39]))), (locM "sign")])) nextS)) nextS) (thenS (unpackM ["told", "number"] (funM c "_law_escape" [(locM "trunk")])) (thenS (retM (tupM [(retE (.str [99, 104, 97, 114])), (binM .Add (binM .Add (retE (.str [39])) (locM "told")) (retE (.str [39]))), (bltM "chr" [(locM "number")])])) nextS)))
theorem E_law_sign (c : Cfg) : b_law_sign c = B_law_sign c := by kernel_rfl
noncomputable def B_law_name (c : Cfg) : SM := (thenS (assignM "keys" (retE (.str [99, 97, 115, 101, 32, 99, 108, 97, 115, 115, 32, 100, 97, 116, 97, 32, 100, 101, 114, 105, 118, 105, 110, 103, 32, 100, 111, 32, 101, 108, 115, 101, 32, 105, 102, 32, 105, 109, 112, 111, 114, 116, 32, 105, 110, 32, 105, 110, 102, 105, 120, 32, 105, 110, 102, 105, 120, 108, 32, 105, 110, 102, 105, 120, 114, 32, 105, 110, 115, 116, 97, 110, 99, 101, 32, 108, 101, 116, 32, 109, 111, 100, 117, 108, 101, 32, 110, 101, 119, 116, 121, 112, 101, 32, 111, 102, 32, 116, 104, 101, 110, 32, 116, 121, 112, 101]))) (thenS (swapM ["key", "way"] (tupM [(funM c "_law_one" [(locM "trunk"), (binM .Add (methM c "split" (locM "keys") [(retE (.str [32]))]) (listM [(retE (.str [119, 104, 101, 114, 101])), (retE (.str [95]))]))]), (funM c "_law_pull" [(locM "trunk"), (retE (.int 4))])])) (thenS (ifM (testM (cmpM .Lt (locM "way") (retE (.int 2)))) (thenS (retM (tupM [(retE (.str [107, 101, 121])), (locM "key"), (retE .none)])) nextS) nextS) (thenS (retM (tupM [(retE (.str [118, 97, 114])), (iteM (testM (cmpM .Eq (locM "way") (retE (.int 2)))) (binM .Add (retE (.str [120])) (locM "key")) (binM .Add (locM "key") (funM c "_law_one" [(locM "trunk"), (listM [(retE (.str [39])), (retE (.str [49])), (retE (.str [95])), (retE (.str [88]))])]))), (retE .none)])) nextS))))
theorem E_law_name (c : Cfg) : b_law_name c = B_law_name c := by kernel_rfl
noncomputable def B_law_operator (c : Cfg) : SM := (thenS (assignM "kept" (listM [(retE (.str [46, 46])), (retE (.str [58])), (retE (.str [58, 58])), (retE (.str [61])), (retE (.str [92])), (retE (.str [124])), (retE (.str [60, 45])), (retE (.str [45, 62])), (retE (.str [64])), (retE (.str [126])), (retE (.str [61, 62]))])) (thenS (assignM "text" (binM .Add (funM c "_law_one" [(locM "trunk"), (locM "kept")]) (funM c "_law_one" [(locM "trunk"), (listM [(retE (.str [])), (retE (.str [])), (retE (.str [33])), (retE (.str [58])), (retE (.str [46])), (retE (.str [36]))])]))) (thenS (ifM (testM (cmpM .In (locM "text") (locM "kept"))) (thenS (retM (tupM [(retE (.str [111, 112])), (locM "text"), (retE .none)])) nextS) nextS) (thenS (retM (tupM [(iteM (testM (cmpM .Eq (subM (locM "text") (retE (.int 0))) (retE (.str [58])))) (retE (.str [99, 111, 110, 115, 121, 109])) (retE (.str [118, 97, 114, 115, 121, 109]))), (locM "text"), (retE .none)])) nextS))))
theorem E_law_operator (c : Cfg) : b_law_operator c = B_law_operator c := by kernel_rfl
noncomputable def B_law_word (c : Cfg) : SM := (thenS (assignM "way" (funM c "_law_pull" [(locM "trunk"), (retE (.int 6))])) (thenS (ifM (testM (cmpM .Lt (locM "way") (retE (.int 2)))) (thenS (retM (funM c "_law_text" [(locM "trunk")])) nextS) nextS) (thenS (ifM (testM (cmpM .Eq (locM "way") (retE (.int 2)))) (thenS (retM (funM c "_law_sign" [(locM "trunk")])) nextS) nextS) (thenS (ifM (testM (cmpM .Eq (locM "way") (retE (.int 3)))) (thenS (retM (funM c "_law_name" [(locM "trunk")])) nextS) nextS) (thenS (retM (iteM (testM (cmpM .Eq (locM "way") (retE (.int 4)))) (funM c "_law_operator" [(locM "trunk")]) (tupM [(retE (.str [115, 112, 101, 99, 105, 97, 108])), (funM c "_law_one" [(locM "trunk"), (retE (.str [40, 41, 91, 93, 44, 59, 96, 123, 125]))]), (retE .none)]))) nextS)))))
theorem E_law_word (c : Cfg) : b_law_word c = B_law_word c := by kernel_rfl
noncomputable def B_law_is_right (c : Cfg) : SM := (thenS (swapM ["column", "due"] (tupM [(retE (.int 1)), (listM [])])) (thenS (forM c (some (.many ["kind", "text", "value"])) (locM "words") (thenS (exprM (methM c "append" (locM "due") [(tupM [(locM "kind"), (locM "text"), (locM "value"), (retE (.int 1)), (locM "column")])])) (thenS (assignM "column" (binM .Add (binM .Add (locM "column") (bltM "len" [(locM "text")])) (retE (.int 1)))) nextS))) (thenS (exprM (methM c "append" (locM "due") [(tupM [(retE (.str [101, 110, 100])), (retE (.str [])), (retE .none), (retE (.int 1)), (bltM "max" [(retE (.int 1)), (binM .Sub (locM "column") (retE (.int 1)))])])])) (thenS (assignM "found" (funM c "words_of" [(methM c "join" (retE (.str [32])) [(compM c (some (.many ["kind", "text", "value"])) [] (locM "words") (locM "text"))])])) (thenS (retM (cmpM .Eq (compM c (some (.one "word")) [] (locM "found") (tupM [(attrM (locM "word") "kind"), (attrM (locM "word") "text"), (attrM (locM "word") "value"), (attrM (locM "word") "line"), (attrM (locM "word") "column")])) (locM "due"))) nextS)))))
theorem E_law_is_right (c : Cfg) : b_law_is_right c = B_law_is_right c := by kernel_rfl
noncomputable def B_law (c : Cfg) : SM := (thenS (assignM "told" (methM c "join" (retE (.str [])) [(compM c (some (.one "number")) [] (listM [(retE (.int 7)), (retE (.int 27)), (retE (.int 13)), (retE (.int 11)), (retE (.int 8)), (retE (.int 127)), (retE (.int 92))]) (bltM "chr" [(locM "number")]))])) (thenS (assignM "row" (listM [(tupM [(retE (.str [116, 101, 120, 116])), (retE (.str [34, 92, 97, 92, 69, 83, 67, 92, 94, 77, 92, 118, 92, 98, 92, 68, 69, 76, 92, 92, 34])), (locM "told")]), (tupM [(retE (.str [107, 101, 121])), (retE (.str [105, 110, 102, 105, 120, 114])), (retE .none)]), (tupM [(retE (.str [111, 112])), (retE (.str [61, 62])), (retE .none)])])) (thenS (ifM (notT (testM (funM c "_law_is_right" [(locM "row")]))) (thenS (retM (retE (.bool false))) nextS) nextS) (thenS (assignM "trunk" (funM c "_law_trunk" [(locM "script")])) (thenS (retM (funM c "_law_is_right" [(compM c (some (.one "turn")) ["trunk"] (bltM "range" [(funM c "_law_pull" [(locM "trunk"), (retE (.int 7))])]) (funM c "_law_word" [(locM "trunk")]))])) nextS)))))
theorem B_law_eq (c : Cfg) : b_law c = B_law c := by kernel_rfl
theorem T_Word_init : tabGet "Word" "__init__" tab = some ⟨["self", "kind", "text", "line", "column", "value", "is_first", "end"], [.none, .bool false, .none], b_Word_init⟩ := by kernel_rfl
theorem W_Word_init {N n : Nat} {o : Obs} {a0 a1 a2 a3 a4 a5 a6 a7 : V} {Q : V → Obs → Prop} (q : WS (B_Word_init (cfg N n)) [("self", a0), ("kind", a1), ("text", a2), ("line", a3), ("column", a4), ("value", a5), ("is_first", a6), ("end", a7)] o (EndW Q)) : WC N (n + 1) "Word" "__init__" [a0, a1, a2, a3, a4, a5, a6, a7] o Q :=
  w_body T_Word_init rfl (by show WS (b_Word_init (cfg N n)) _ _ _; rw [E_Word_init]; exact q)
theorem T_Signs_init : tabGet "Signs" "__init__" tab = some ⟨["self", "text"], [], b_Signs_init⟩ := by kernel_rfl
theorem W_Signs_init {N n : Nat} {o : Obs} {a0 a1 : V} {Q : V → Obs → Prop} (q : WS (B_Signs_init (cfg N n)) [("self", a0), ("text", a1)] o (EndW Q)) : WC N (n + 1) "Signs" "__init__" [a0, a1] o Q :=
  w_body T_Signs_init rfl (by show WS (b_Signs_init (cfg N n)) _ _ _; rw [E_Signs_init]; exact q)
theorem T_Signs_sign : tabGet "Signs" "sign" tab = some ⟨["self", "ahead"], [.int 0], b_Signs_sign⟩ := by kernel_rfl
theorem W_Signs_sign {N n : Nat} {o : Obs} {a0 a1 : V} {Q : V → Obs → Prop} (q : WS (B_Signs_sign (cfg N n)) [("self", a0), ("ahead", a1)] o (EndW Q)) : WC N (n + 1) "Signs" "sign" [a0, a1] o Q :=
  w_body T_Signs_sign rfl (by show WS (b_Signs_sign (cfg N n)) _ _ _; rw [E_Signs_sign]; exact q)
theorem W_Signs_sign0 {N n : Nat} {o : Obs} {a0 : V} {Q : V → Obs → Prop} (q : WS (B_Signs_sign (cfg N n)) [("self", a0), ("ahead", .int 0)] o (EndW Q)) : WC N (n + 1) "Signs" "sign" [a0] o Q :=
  w_body T_Signs_sign rfl (by show WS (b_Signs_sign (cfg N n)) _ _ _; rw [E_Signs_sign]; exact q)
theorem T_Signs_starts : tabGet "Signs" "starts" tab = some ⟨["self", "some"], [], b_Signs_starts⟩ := by kernel_rfl
theorem W_Signs_starts {N n : Nat} {o : Obs} {a0 a1 : V} {Q : V → Obs → Prop} (q : WS (B_Signs_starts (cfg N n)) [("self", a0), ("some", a1)] o (EndW Q)) : WC N (n + 1) "Signs" "starts" [a0, a1] o Q :=
  w_body T_Signs_starts rfl (by show WS (b_Signs_starts (cfg N n)) _ _ _; rw [E_Signs_starts]; exact q)
theorem T_Signs_step : tabGet "Signs" "step" tab = some ⟨["self"], [], b_Signs_step⟩ := by kernel_rfl
theorem W_Signs_step {N n : Nat} {o : Obs} {a0 : V} {Q : V → Obs → Prop} (q : WS (B_Signs_step (cfg N n)) [("self", a0)] o (EndW Q)) : WC N (n + 1) "Signs" "step" [a0] o Q :=
  w_body T_Signs_step rfl (by show WS (b_Signs_step (cfg N n)) _ _ _; rw [E_Signs_step]; exact q)
theorem T_Signs_take : tabGet "Signs" "take" tab = some ⟨["self", "letters"], [], b_Signs_take⟩ := by kernel_rfl
theorem W_Signs_take {N n : Nat} {o : Obs} {a0 a1 : V} {Q : V → Obs → Prop} (q : WS (B_Signs_take (cfg N n)) [("self", a0), ("letters", a1)] o (EndW Q)) : WC N (n + 1) "Signs" "take" [a0, a1] o Q :=
  w_body T_Signs_take rfl (by show WS (b_Signs_take (cfg N n)) _ _ _; rw [E_Signs_take]; exact q)
theorem T_Signs_place : tabGet "Signs" "place" tab = some ⟨["self"], [], b_Signs_place⟩ := by kernel_rfl
theorem W_Signs_place {N n : Nat} {o : Obs} {a0 : V} {Q : V → Obs → Prop} (q : WS (B_Signs_place (cfg N n)) [("self", a0)] o (EndW Q)) : WC N (n + 1) "Signs" "place" [a0] o Q :=
  w_body T_Signs_place rfl (by show WS (b_Signs_place (cfg N n)) _ _ _; rw [E_Signs_place]; exact q)
theorem T_is_among : tabGet "" "is_among" tab = some ⟨["sign", "letters"], [], b_is_among⟩ := by kernel_rfl
theorem W_is_among {N n : Nat} {o : Obs} {a0 a1 : V} {Q : V → Obs → Prop} (q : WS (B_is_among (cfg N n)) [("sign", a0), ("letters", a1)] o (EndW Q)) : WC N (n + 1) "" "is_among" [a0, a1] o Q :=
  w_body T_is_among rfl (by show WS (b_is_among (cfg N n)) _ _ _; rw [E_is_among]; exact q)
theorem T_is_bare : tabGet "" "is_bare" tab = some ⟨["sign"], [], b_is_bare⟩ := by kernel_rfl
theorem W_is_bare {N n : Nat} {o : Obs} {a0 : V} {Q : V → Obs → Prop} (q : WS (B_is_bare (cfg N n)) [("sign", a0)] o (EndW Q)) : WC N (n + 1) "" "is_bare" [a0] o Q :=
  w_body T_is_bare rfl (by show WS (b_is_bare (cfg N n)) _ _ _; rw [E_is_bare]; exact q)
theorem T_name_letters : tabGet "" "name_letters" tab = some ⟨[], [], b_name_letters⟩ := by kernel_rfl
theorem W_name_letters {N n : Nat} {o : Obs} {Q : V → Obs → Prop} (q : WS (B_name_letters (cfg N n)) [] o (EndW Q)) : WC N (n + 1) "" "name_letters" [] o Q :=
  w_body T_name_letters rfl (by show WS (b_name_letters (cfg N n)) _ _ _; rw [E_name_letters]; exact q)
theorem T_is_line_comment : tabGet "" "is_line_comment" tab = some ⟨["signs"], [], b_is_line_comment⟩ := by kernel_rfl
theorem W_is_line_comment {N n : Nat} {o : Obs} {a0 : V} {Q : V → Obs → Prop} (q : WS (B_is_line_comment (cfg N n)) [("signs", a0)] o (EndW Q)) : WC N (n + 1) "" "is_line_comment" [a0] o Q :=
  w_body T_is_line_comment rfl (by show WS (b_is_line_comment (cfg N n)) _ _ _; rw [E_is_line_comment]; exact q)
theorem T_skip_between : tabGet "" "skip_between" tab = some ⟨["signs"], [], b_skip_between⟩ := by kernel_rfl
theorem W_skip_between {N n : Nat} {o : Obs} {a0 : V} {Q : V → Obs → Prop} (q : WS (B_skip_between (cfg N n)) [("signs", a0)] o (EndW Q)) : WC N (n + 1) "" "skip_between" [a0] o Q :=
  w_body T_skip_between rfl (by show WS (b_skip_between (cfg N n)) _ _ _; rw [E_skip_between]; exact q)
theorem T_number_of : tabGet "" "number_of" tab = some ⟨["digits", "base", "place"], [], b_number_of⟩ := by kernel_rfl
theorem W_number_of {N n : Nat} {o : Obs} {a0 a1 a2 : V} {Q : V → Obs → Prop} (q : WS (B_number_of (cfg N n)) [("digits", a0), ("base", a1), ("place", a2)] o (EndW Q)) : WC N (n + 1) "" "number_of" [a0, a1, a2] o Q :=
  w_body T_number_of rfl (by show WS (b_number_of (cfg N n)) _ _ _; rw [E_number_of]; exact q)
theorem T_checked_sign : tabGet "" "checked_sign" tab = some ⟨["number", "place"], [], b_checked_sign⟩ := by kernel_rfl
theorem W_checked_sign {N n : Nat} {o : Obs} {a0 a1 : V} {Q : V → Obs → Prop} (q : WS (B_checked_sign (cfg N n)) [("number", a0), ("place", a1)] o (EndW Q)) : WC N (n + 1) "" "checked_sign" [a0, a1] o Q :=
  w_body T_checked_sign rfl (by show WS (b_checked_sign (cfg N n)) _ _ _; rw [E_checked_sign]; exact q)
theorem T_named_escape : tabGet "" "named_escape" tab = some ⟨["signs"], [], b_named_escape⟩ := by kernel_rfl
theorem W_named_escape {N n : Nat} {o : Obs} {a0 : V} {Q : V → Obs → Prop} (q : WS (B_named_escape (cfg N n)) [("signs", a0)] o (EndW Q)) : WC N (n + 1) "" "named_escape" [a0] o Q :=
  w_body T_named_escape rfl (by show WS (b_named_escape (cfg N n)) _ _ _; rw [E_named_escape]; exact q)
theorem T_read_escape : tabGet "" "read_escape" tab = some ⟨["signs"], [], b_read_escape⟩ := by kernel_rfl
theorem W_read_escape {N n : Nat} {o : Obs} {a0 : V} {Q : V → Obs → Prop} (q : WS (B_read_escape (cfg N n)) [("signs", a0)] o (EndW Q)) : WC N (n + 1) "" "read_escape" [a0] o Q :=
  w_body T_read_escape rfl (by show WS (b_read_escape (cfg N n)) _ _ _; rw [E_read_escape]; exact q)
theorem T_read_char : tabGet "" "read_char" tab = some ⟨["signs"], [], b_read_char⟩ := by kernel_rfl
theorem W_read_char {N n : Nat} {o : Obs} {a0 : V} {Q : V → Obs → Prop} (q : WS (B_read_char (cfg N n)) [("signs", a0)] o (EndW Q)) : WC N (n + 1) "" "read_char" [a0] o Q :=
  w_body T_read_char rfl (by show WS (b_read_char (cfg N n)) _ _ _; rw [E_read_char]; exact q)
theorem T_read_text : tabGet "" "read_text" tab = some ⟨["signs"], [], b_read_text⟩ := by kernel_rfl
theorem W_read_text {N n : Nat} {o : Obs} {a0 : V} {Q : V → Obs → Prop} (q : WS (B_read_text (cfg N n)) [("signs", a0)] o (EndW Q)) : WC N (n + 1) "" "read_text" [a0] o Q :=
  w_body T_read_text rfl (by show WS (b_read_text (cfg N n)) _ _ _; rw [E_read_text]; exact q)
theorem T_symbol_kind : tabGet "" "symbol_kind" tab = some ⟨["text"], [], b_symbol_kind⟩ := by kernel_rfl
theorem W_symbol_kind {N n : Nat} {o : Obs} {a0 : V} {Q : V → Obs → Prop} (q : WS (B_symbol_kind (cfg N n)) [("text", a0)] o (EndW Q)) : WC N (n + 1) "" "symbol_kind" [a0] o Q :=
  w_body T_symbol_kind rfl (by show WS (b_symbol_kind (cfg N n)) _ _ _; rw [E_symbol_kind]; exact q)
theorem T_read_word : tabGet "" "read_word" tab = some ⟨["signs"], [], b_read_word⟩ := by kernel_rfl
theorem W_read_word {N n : Nat} {o : Obs} {a0 : V} {Q : V → Obs → Prop} (q : WS (B_read_word (cfg N n)) [("signs", a0)] o (EndW Q)) : WC N (n + 1) "" "read_word" [a0] o Q :=
  w_body T_read_word rfl (by show WS (b_read_word (cfg N n)) _ _ _; rw [E_read_word]; exact q)
theorem T_words_of : tabGet "" "words_of" tab = some ⟨["text"], [], b_words_of⟩ := by kernel_rfl
theorem W_words_of {N n : Nat} {o : Obs} {a0 : V} {Q : V → Obs → Prop} (q : WS (B_words_of (cfg N n)) [("text", a0)] o (EndW Q)) : WC N (n + 1) "" "words_of" [a0] o Q :=
  w_body T_words_of rfl (by show WS (b_words_of (cfg N n)) _ _ _; rw [E_words_of]; exact q)
theorem T_law_trunk : tabGet "" "_law_trunk" tab = some ⟨["script"], [], b_law_trunk⟩ := by kernel_rfl
theorem W_law_trunk {N n : Nat} {o : Obs} {a0 : V} {Q : V → Obs → Prop} (q : WS (B_law_trunk (cfg N n)) [("script", a0)] o (EndW Q)) : WC N (n + 1) "" "_law_trunk" [a0] o Q :=
  w_body T_law_trunk rfl (by show WS (b_law_trunk (cfg N n)) _ _ _; rw [E_law_trunk]; exact q)
theorem T_law_pull : tabGet "" "_law_pull" tab = some ⟨["trunk", "many"], [], b_law_pull⟩ := by kernel_rfl
theorem W_law_pull {N n : Nat} {o : Obs} {a0 a1 : V} {Q : V → Obs → Prop} (q : WS (B_law_pull (cfg N n)) [("trunk", a0), ("many", a1)] o (EndW Q)) : WC N (n + 1) "" "_law_pull" [a0, a1] o Q :=
  w_body T_law_pull rfl (by show WS (b_law_pull (cfg N n)) _ _ _; rw [E_law_pull]; exact q)
theorem T_law_one : tabGet "" "_law_one" tab = some ⟨["trunk", "things"], [], b_law_one⟩ := by kernel_rfl
theorem W_law_one {N n : Nat} {o : Obs} {a0 a1 : V} {Q : V → Obs → Prop} (q : WS (B_law_one (cfg N n)) [("trunk", a0), ("things", a1)] o (EndW Q)) : WC N (n + 1) "" "_law_one" [a0, a1] o Q :=
  w_body T_law_one rfl (by show WS (b_law_one (cfg N n)) _ _ _; rw [E_law_one]; exact q)
theorem T_law_named : tabGet "" "_law_named" tab = some ⟨[], [], b_law_named⟩ := by kernel_rfl
theorem W_law_named {N n : Nat} {o : Obs} {Q : V → Obs → Prop} (q : WS (B_law_named (cfg N n)) [] o (EndW Q)) : WC N (n + 1) "" "_law_named" [] o Q :=
  w_body T_law_named rfl (by show WS (b_law_named (cfg N n)) _ _ _; rw [E_law_named]; exact q)
theorem T_law_escape : tabGet "" "_law_escape" tab = some ⟨["trunk"], [], b_law_escape⟩ := by kernel_rfl
theorem W_law_escape {N n : Nat} {o : Obs} {a0 : V} {Q : V → Obs → Prop} (q : WS (B_law_escape (cfg N n)) [("trunk", a0)] o (EndW Q)) : WC N (n + 1) "" "_law_escape" [a0] o Q :=
  w_body T_law_escape rfl (by show WS (b_law_escape (cfg N n)) _ _ _; rw [E_law_escape]; exact q)
theorem T_law_based : tabGet "" "_law_based" tab = some ⟨["number", "base"], [], b_law_based⟩ := by kernel_rfl
theorem W_law_based {N n : Nat} {o : Obs} {a0 a1 : V} {Q : V → Obs → Prop} (q : WS (B_law_based (cfg N n)) [("number", a0), ("base", a1)] o (EndW Q)) : WC N (n + 1) "" "_law_based" [a0, a1] o Q :=
  w_body T_law_based rfl (by show WS (b_law_based (cfg N n)) _ _ _; rw [E_law_based]; exact q)
theorem T_law_text : tabGet "" "_law_text" tab = some ⟨["trunk"], [], b_law_text⟩ := by kernel_rfl
theorem W_law_text {N n : Nat} {o : Obs} {a0 : V} {Q : V → Obs → Prop} (q : WS (B_law_text (cfg N n)) [("trunk", a0)] o (EndW Q)) : WC N (n + 1) "" "_law_text" [a0] o Q :=
  w_body T_law_text rfl (by show WS (b_law_text (cfg N n)) _ _ _; rw [E_law_text]; exact q)
theorem T_law_sign : tabGet "" "_law_sign" tab = some ⟨["trunk"], [], b_law_sign⟩ := by kernel_rfl
theorem W_law_sign {N n : Nat} {o : Obs} {a0 : V} {Q : V → Obs → Prop} (q : WS (B_law_sign (cfg N n)) [("trunk", a0)] o (EndW Q)) : WC N (n + 1) "" "_law_sign" [a0] o Q :=
  w_body T_law_sign rfl (by show WS (b_law_sign (cfg N n)) _ _ _; rw [E_law_sign]; exact q)
theorem T_law_name : tabGet "" "_law_name" tab = some ⟨["trunk"], [], b_law_name⟩ := by kernel_rfl
theorem W_law_name {N n : Nat} {o : Obs} {a0 : V} {Q : V → Obs → Prop} (q : WS (B_law_name (cfg N n)) [("trunk", a0)] o (EndW Q)) : WC N (n + 1) "" "_law_name" [a0] o Q :=
  w_body T_law_name rfl (by show WS (b_law_name (cfg N n)) _ _ _; rw [E_law_name]; exact q)
theorem T_law_operator : tabGet "" "_law_operator" tab = some ⟨["trunk"], [], b_law_operator⟩ := by kernel_rfl
theorem W_law_operator {N n : Nat} {o : Obs} {a0 : V} {Q : V → Obs → Prop} (q : WS (B_law_operator (cfg N n)) [("trunk", a0)] o (EndW Q)) : WC N (n + 1) "" "_law_operator" [a0] o Q :=
  w_body T_law_operator rfl (by show WS (b_law_operator (cfg N n)) _ _ _; rw [E_law_operator]; exact q)
theorem T_law_word : tabGet "" "_law_word" tab = some ⟨["trunk"], [], b_law_word⟩ := by kernel_rfl
theorem W_law_word {N n : Nat} {o : Obs} {a0 : V} {Q : V → Obs → Prop} (q : WS (B_law_word (cfg N n)) [("trunk", a0)] o (EndW Q)) : WC N (n + 1) "" "_law_word" [a0] o Q :=
  w_body T_law_word rfl (by show WS (b_law_word (cfg N n)) _ _ _; rw [E_law_word]; exact q)
theorem T_law_is_right : tabGet "" "_law_is_right" tab = some ⟨["words"], [], b_law_is_right⟩ := by kernel_rfl
theorem W_law_is_right {N n : Nat} {o : Obs} {a0 : V} {Q : V → Obs → Prop} (q : WS (B_law_is_right (cfg N n)) [("words", a0)] o (EndW Q)) : WC N (n + 1) "" "_law_is_right" [a0] o Q :=
  w_body T_law_is_right rfl (by show WS (b_law_is_right (cfg N n)) _ _ _; rw [E_law_is_right]; exact q)

end Mine.L
end

section
open PySem PySem.W PyProof.Rows
set_option linter.unusedVariables false
set_option Elab.async false
namespace Mine.L

local macro_rules | `(tactic| k_extra "mcall") => `(tactic| fail "no call")
local macro_rules | `(tactic| k_extra "lk") => `(tactic| with_reducible (first
  | assumption
  | exact lk_here
  | exact lkp_here
  | (refine lka_nil ?_; k_extra "lk")
  | (refine lka_cons ?_; k_extra "lk")
  | (refine lk_skip (by kernel_rfl) ?_; k_extra "lk")
  | (refine lkp_skip (by kernel_rfl) ?_; k_extra "lk")))
local macro_rules | `(tactic| k_extra "gl") => `(tactic| kernel_rfl)
local macro_rules | `(tactic| k_extra "mw1") => `(tactic| with_reducible (first
  | refine t_then ?_
  | refine then_next ?_
  | refine then_ret ?_
  | refine end_ret ?_
  | refine end_next ?_
  | refine loop_next ?_
  | refine loop_ret ?_
  | refine t_next ?_
  | refine t_assign ?_
  | refine t_ret ?_
  | refine t_if ?_
  | refine t_expr ?_
  | refine t_unpack2 ?_
  | refine t_unpack3 ?_
  | refine t_swap2 ?_
  | refine ex_tup2 ?_
  | refine ex_tup3 ?_
  | refine t_setattr ?_
  | refine t_augattr ?_
  | refine t_setitem ?_
  | refine w_loc (by k_extra "lk") ?_
  | refine w_ret ?_
  | refine w_nil ?_
  | refine w_cons ?_
  | refine w_test ?_
  | refine w_boolv ?_
  | refine w_not ?_
  | refine w_bool ?_
  | refine w_andT0 ?_
  | refine w_andT ?_
  | refine w_orT0 ?_
  | refine w_orT ?_
  | refine w_and1 ?_
  | refine w_and ?_
  | refine w_or1 ?_
  | refine w_or ?_
  | refine w_ite ?_
  | refine w_bin ?_
  | refine b_addI ?_
  | refine b_subI ?_
  | refine w_neg ?_
  | refine w_cmp ?_
  | refine w_cmp2 ?_
  | refine c_eqI ?_
  | refine c_neI ?_
  | refine c_ltI ?_
  | refine c_leI ?_
  | refine c_gtI ?_
  | refine c_geI ?_
  | refine c_eqS ?_
  | refine c_neS ?_
  | refine c_inS ?_
  | refine c_inD ?_
  | refine c_isN ?_
  | refine c_isI ?_
  | refine c_isS ?_
  | refine w_attr ?_
  | refine w_sub ?_
  | refine w_slice ?_
  | refine w_tup ?_
  | refine w_list ?_
  | refine w_blt ?_
  | refine bl_lenI ?_
  | refine bl_ord ?_
  | refine bl_int ?_
  | refine bl_max ?_
  | refine w_fun ?_
  | refine w_meth ?_
  | refine w_new ?_
  | refine ex_int ?_
  | refine void_str ?_
  | refine void_none ?_
  | refine cond_t (by with_reducible rfl) ?_
  | refine cond_f (by with_reducible rfl) ?_
  | k_extra "mcall"))
local macro_rules | `(tactic| k_extra "mw") => `(tactic| repeat' k_extra "mw1")

noncomputable def sgO (t : List Nat) (p : Nat) : Ob := .inst "Signs" [("text", .str t), ("at", .int p), ("line", .int 1), ("column", .int (p + 1))]
structure Ag (W : List Nat) (o o' : Obs) : Prop where
  le : o.length ≤ o'.length
  ag : ∀ j, j < o.length → j ∉ W → o'[j]? = o[j]?
theorem Ag.refl (W : List Nat) (o : Obs) : Ag W o o := ⟨Nat.le_refl _, fun _ _ _ => rfl⟩
theorem Ag.trans {W : List Nat} {o o₁ o₂ : Obs} (a : Ag W o o₁) (b : Ag W o₁ o₂) : Ag W o o₂ :=
  ⟨Nat.le_trans a.le b.le, fun j h n => (b.ag j (Nat.lt_of_lt_of_le h a.le) n).trans (a.ag j h n)⟩
theorem Ag.set {W : List Nat} {o o' : Obs} {i : Nat} {x : Ob} (a : Ag W o o') (h : i ∈ W ∨ o.length ≤ i) : Ag W o (o'.set i x) := by
  refine ⟨by simpa using a.le, fun j hj n => ?_⟩
  have : i ≠ j := by
    rintro rfl
    rcases h with h | h
    · exact n h
    · omega
  rw [List.getElem?_set_ne this]; exact a.ag j hj n
theorem Ag.push {W : List Nat} {o o' : Obs} {x : Ob} (a : Ag W o o') : Ag W o (o' ++ [x]) :=
  ⟨by have := a.le; simp only [List.length_append, List.length_singleton]; omega, fun j hj n => by rw [List.getElem?_append_left (Nat.lt_of_lt_of_le hj a.le)]; exact a.ag j hj n⟩
theorem lt_of_get {o : Obs} {i : Nat} {x : Ob} (h : o[i]? = some x) : i < o.length := (List.getElem?_eq_some_iff.mp h).1
theorem Ag.get {W : List Nat} {o o' : Obs} {i : Nat} {x : Ob} (a : Ag W o o') (h : o[i]? = some x) (n : i ∉ W) : o'[i]? = some x := (a.ag i (lt_of_get h) n).trans h
theorem get_set {o : Obs} {i : Nat} {x y : Ob} (h : o[i]? = some x) : (o.set i y)[i]? = some y := List.getElem?_set_self (lt_of_get h)
theorem get_push {o : Obs} {x : Ob} : (o ++ [x])[o.length]? = some x := by simp

noncomputable abbrev G (l : Loc) (x : Str) (v : V) : Prop := l.lookup x = some v
structure St (b o : Obs) (i : Nat) (t : List Nat) (p : Nat) (s : List Nat) : Prop where
  ob : o[i]? = some (sgO t p)
  dr : t.drop p = s
  le : t.length < 1000000
  pl : ∀ x ∈ s, 32 ≤ x
  ag : Ag [i] b o

theorem drop_cons {t : List Nat} {p : Nat} {c : Nat} {r : List Nat} (h : t.drop p = c :: r) : t.drop (p + 1) = r ∧ p < t.length ∧ t[p]? = some c := by
  have h1 : p < t.length := by
    by_cases h' : p < t.length
    · exact h'
    · rw [List.drop_eq_nil_of_le (by omega)] at h; cases h
  refine ⟨?_, h1, ?_⟩
  · rw [← List.drop_drop, h]; rfl
  · have : (t.drop p)[0]? = some c := by rw [h]; rfl
    rwa [List.getElem?_drop] at this
theorem drop_slice {t : List Nat} {p : Nat} {a r : List Nat} (h : t.drop p = a ++ r) : (t.take (p + a.length)).drop p = a := by
  rw [List.drop_take, h, show p + a.length - p = a.length by omega]; simp
theorem len_bound {t : List Nat} {p : Nat} {s : List Nat} (h : t.drop p = s) : s.length ≤ t.length - p := by rw [← h]; simp

section
variable {N n : Nat} {b o : Obs} {i p : Nat} {t s r : List Nat} {c : Nat} {Q : V → Obs → Prop}

theorem a_text (h : St b o i t p s) (q : Q (.str t) o) : AttrW (.ref i) "text" o Q := a_inst h.ob (by k_extra "lk") q
theorem a_at (h : St b o i t p s) (q : Q (.int p) o) : AttrW (.ref i) "at" o Q := a_inst h.ob (by k_extra "lk") q
theorem a_line (h : St b o i t p s) (q : Q (.int 1) o) : AttrW (.ref i) "line" o Q := a_inst h.ob (by k_extra "lk") q
theorem a_col (h : St b o i t p s) (q : Q (.int (p + 1)) o) : AttrW (.ref i) "column" o Q := a_inst h.ob (by k_extra "lk") q
local macro_rules | `(tactic| k_extra "mcall") => `(tactic| with_reducible first | refine a_col (by assumption) ?_ | refine a_line (by assumption) ?_ | refine a_at (by assumption) ?_ | refine a_text (by assumption) ?_)

theorem sign_at {t : List Nat} {p k : Nat} (h : t.drop p = s) : (if p + k < t.length then t[p + k]?.map (fun c => [c]) else some []) = some ((s.drop k).take 1) := by
  subst h
  rw [List.drop_drop]
  split
  · rename_i h
    rw [List.drop_eq_getElem_cons h, List.getElem?_eq_getElem h]
    rfl
  · rename_i h
    rw [List.drop_eq_nil_of_le (by omega)]
    rfl

theorem body_sign {k : Nat} (h : St b o i t p s) (q : Q (.str ((s.drop k).take 1)) o) : WS (B_Signs_sign (cfg N n)) [("self", .ref i), ("ahead", .int k)] o (EndW Q) := by
  unfold B_Signs_sign
  k_extra "mw"
  refine bl_lenS (by have := h.le; omega) ?_
  k_extra "mw"
  have e := sign_at (k := k) h.dr
  have hle := h.le
  by_cases hk : p + k < t.length
  · rw [if_pos hk] at e
    refine cond_t (decide_eq_true (by omega)) ?_
    k_extra "mw"
    obtain ⟨c, hc, e⟩ := Option.map_eq_some_iff.mp e
    refine s_str (by omega) (c := c) (by rw [← hc]; congr 1) ?_
    k_extra "mw"
    rw [e]; exact q
  · rw [if_neg hk] at e
    refine cond_f (decide_eq_false (by omega)) ?_
    k_extra "mw"
    cases e' : (s.drop k).take 1 with
    | nil => rw [e'] at q; exact q
    | cons a l => rw [e'] at e; cases e
theorem c_sign1 (h : St b o i t p s) (q : Q (.str ((s.drop 1).take 1)) o) : WC N (n + 1) "Signs" "sign" [.ref i, .int 1] o Q := W_Signs_sign (body_sign (k := 1) h q)
theorem c_sign0 (h : St b o i t p s) (q : Q (.str (s.take 1)) o) : WC N (n + 1) "Signs" "sign" [.ref i] o Q := W_Signs_sign0 (body_sign (k := 0) h q)
end
local macro_rules | `(tactic| k_extra "mcall") => `(tactic| with_reducible first | refine a_col (by assumption) ?_ | refine a_line (by assumption) ?_ | refine a_at (by assumption) ?_ | refine a_text (by assumption) ?_)
section
variable {N n : Nat} {b o : Obs} {i p : Nat} {t s r : List Nat} {c : Nat} {Q : V → Obs → Prop} {l : Loc} {ms : List (EM V)}

theorem c_sign0c (h : St b o i t p (c :: r)) (q : Q (.str [c]) o) : WC N (n + 1) "Signs" "sign" [.ref i] o Q := c_sign0 h q
theorem c_sign0n (h : St b o i t p []) (q : Q (.str []) o) : WC N (n + 1) "Signs" "sign" [.ref i] o Q := c_sign0 h q
theorem m_sg {m : Str} {Q : V → Obs → Prop} (h : St b o i t p s) (hm : List.lookup m [(Str.ofString "text", V.str t), ("at", .int p), ("line", .int 1), ("column", .int (p + 1))] = none) (q : WE (seqM ms) l o fun vs o₁ => WC N n "Signs" m (.ref i :: vs) o₁ Q) : MethW N n m (.ref i) ms l o Q := m_inst h.ob hm q
local macro_rules | `(tactic| k_extra "mcall") => `(tactic| with_reducible first | refine c_sign0n (by assumption) ?_ | refine c_sign0c (by assumption) ?_ | refine c_sign0 (by assumption) ?_ | refine c_sign1 (by assumption) ?_ | refine m_sg (by assumption) (by kernel_rfl) ?_)

theorem put_at (a d : V) : putL (Str.ofString "at") d [(Str.ofString "text", V.str t), ("at", a), ("line", .int 1), ("column", .int (p + 1))] = [(Str.ofString "text", V.str t), ("at", d), ("line", .int 1), ("column", .int (p + 1))] := by kernel_rfl
theorem put_col (a d : V) : putL (Str.ofString "column") d [(Str.ofString "text", V.str t), ("at", a), ("line", .int 1), ("column", .int (p + 1))] = [(Str.ofString "text", V.str t), ("at", a), ("line", .int 1), ("column", d)] := by kernel_rfl

theorem c_step (h : St b o i t p (c :: r)) (q : ∀ o', St b o' i t (p + 1) r → Q (.str [c]) o') : WC N (n + 2) "Signs" "step" [.ref i] o Q := by
  have hc : 32 ≤ c := h.pl c (by simp)
  have hd := drop_cons h.dr
  refine W_Signs_step ?_
  unfold B_Signs_step
  k_extra "mw"
  refine ⟨_, _, _, _, rfl, h.ob, by k_extra "lk", ?_⟩
  k_extra "mw"
  refine ⟨_, _, _, rfl, h.ob, by simp, ?_⟩
  rw [put_at]
  have h1 := get_set (y := Ob.inst "Signs" [("text", .str t), ("at", .int (p + 1)), ("line", .int 1), ("column", .int (p + 1))]) h.ob
  k_extra "mw"
  refine cond_t rfl ?_
  k_extra "mw"
  refine cond_f (by simp; omega) ?_
  k_extra "mw"
  refine cond_f (by simp; omega) ?_
  k_extra "mw"
  refine cond_f (by simp; omega) ?_
  k_extra "mw"
  refine ⟨_, _, _, _, rfl, h1, by k_extra "lk", ?_⟩
  k_extra "mw"
  refine ⟨_, _, _, rfl, h1, by simp, ?_⟩
  rw [put_col, List.set_set]
  k_extra "mw"
  refine q _ ⟨get_set h.ob, hd.1, h.le, fun x hx => h.pl x (by simp [hx]), h.ag.set (.inl (by simp))⟩

theorem c_starts {w : List Nat} (hw : w.length < 1000) (h : St b o i t p s) (q : Q (.bool (s.take w.length == w)) o) : WC N (n + 1) "Signs" "starts" [.ref i, .str w] o Q := by
  refine W_Signs_starts ?_
  unfold B_Signs_starts
  k_extra "mw"
  refine bl_lenS (by omega) ?_
  k_extra "mw"
  refine sl_nat (j := p + w.length) h.le ?_
  k_extra "mw"
  rw [List.drop_take, h.dr, show p + w.length - p = w.length by omega]
  exact q

theorem c_place (h : St b o i t p s) (q : Q (.tup [.int 1, .int (p + 1)]) o) : WC N (n + 1) "Signs" "place" [.ref i] o Q := by
  refine W_Signs_place ?_
  unfold B_Signs_place
  k_extra "mw"
  exact q

theorem c_among1 {w : List Nat} (q : Q (.bool (w.contains c)) o) : WC N (n + 1) "" "is_among" [.str [c], .str w] o Q := by
  refine W_is_among ?_
  unfold B_is_among
  k_extra "mw"
  refine cond_t rfl ?_
  k_extra "mw"
  exact q
theorem c_among0 {w : List Nat} (q : Q (.bool false) o) : WC N (n + 1) "" "is_among" [.str [], .str w] o Q := by
  refine W_is_among ?_
  unfold B_is_among
  k_extra "mw"
  refine cond_f rfl ?_
  k_extra "mw"
  exact q
theorem c_bare (h1 : 32 ≤ c) (h2 : c ≠ 127) (q : Q (.bool true) o) : WC N (n + 1) "" "is_bare" [.str [c]] o Q := by
  refine W_is_bare ?_
  unfold B_is_bare
  k_extra "mw"
  refine cond_t rfl ?_
  k_extra "mw"
  refine cond_t (decide_eq_true (by omega)) ?_
  k_extra "mw"
  refine w_glob (v := .int 127) (by kernel_rfl) ?_
  k_extra "mw"
  rw [show ((c : Int) != 127) = true by simp; omega]
  exact q
noncomputable def letN : List Nat := [97, 98, 99, 100, 101, 102, 103, 104, 105, 106, 107, 108, 109, 110, 111, 112, 113, 114, 115, 116, 117, 118, 119, 120, 121, 122, 95] ++ [65, 66, 67, 68, 69, 70, 71, 72, 73, 74, 75, 76, 77, 78, 79, 80, 81, 82, 83, 84, 85, 86, 87, 88, 89, 90] ++ [48, 49, 50, 51, 52, 53, 54, 55, 56, 57] ++ [39]
theorem c_letters (q : Q (.str letN) o) : WC N (n + 1) "" "name_letters" [] o Q := by
  refine W_name_letters ?_
  unfold B_name_letters
  k_extra "mw"
  refine w_glob (v := g_SMALL) (by kernel_rfl) (w_glob (v := g_GREAT) (by kernel_rfl) (b_addS (by decide) (w_glob (v := g_DIGITS) (by kernel_rfl) (b_addS (by decide) (w_ret (b_addS (by decide) ?_))))))
  k_extra "mw"
  exact q

theorem c_take {w a : List Nat} (hN : 1000000 ≤ N) (h : St b o i t p s) (hs : s = a ++ r) (ha : a.all w.contains = true) (hr : ∀ c r', r = c :: r' → w.contains c = false) (q : ∀ o', St b o' i t (p + a.length) r → Q (.str a) o') : WC N (n + 3) "Signs" "take" [.ref i, .str w] o Q := by
  refine W_Signs_take ?_
  unfold B_Signs_take
  k_extra "mw"
  subst hs
  have hlen := len_bound h.dr
  simp only [List.length_append] at hlen
  have hle := h.le
  refine t_while (k := a.length) (fun k l o' => G l "self" (.ref i) ∧ G l "letters" (.str w) ∧ G l "begin" (.int p) ∧ ∃ u d, a = u ++ d ∧ d.length = k ∧ St b o' i t (p + u.length) (d ++ r)) (by omega) ⟨by k_extra "lk", by k_extra "lk", by k_extra "lk", [], a, rfl, rfl, h⟩ ?_
  rintro k l o' ⟨l1, l2, l3, u, d, rfl, rfl, h'⟩
  cases d with
  | nil =>
    cases r with
    | nil =>
      simp only [List.append_nil] at h' ha
      k_extra "mw"
      refine cond_f rfl ?_
      k_extra "mw"
      refine sl_nat h'.le ?_
      k_extra "mw"
      have := drop_slice h.dr
      simp only [List.append_nil] at this q
      rw [this]
      exact q _ h'
    | cons c r' =>
      simp only [List.nil_append] at h'
      k_extra "mw"
      refine cond_t rfl ?_
      k_extra "mw"
      refine cond_f (hr c r' rfl) ?_
      k_extra "mw"
      refine sl_nat h'.le ?_
      k_extra "mw"
      have := drop_slice h.dr
      simp only [List.append_nil] at this q
      rw [this]
      exact q _ h'
  | cons c d =>
    simp only [List.cons_append] at h'
    k_extra "mw"
    refine cond_t rfl ?_
    k_extra "mw"
    refine cond_t (by simp only [List.all_append, List.all_cons, Bool.and_eq_true] at ha; exact ha.2.1) ?_
    k_extra "mw"
    refine c_step h' fun o2 h2 => ?_
    k_extra "mw"
    refine ⟨d.length, by simp, l1, l2, l3, u ++ [c], d, by simp, rfl, ?_⟩
    simpa [Nat.add_assoc] using h2

structure StartOk (s : List Nat) : Prop where
  ws : ∀ c r, s = c :: r → [32, 9, 10, 13, 12, 11].contains c = false
  dash : (s.take 2 == [45, 45]) = false
  nest : (s.take 2 == [123, 45]) = false

local macro_rules | `(tactic| k_extra "mcall") => `(tactic| with_reducible first | (refine c_step (by assumption) ?_; intro _ _) | refine c_among0 ?_ | refine c_among1 ?_ | refine c_place (by assumption) ?_ | refine c_starts (by decide) (by assumption) ?_)

theorem c_linecomment (h : St b o i t p s) (hs : (s.take 2 == [45, 45]) = false) (q : Q (.bool false) o) : WC N (n + 2) "" "is_line_comment" [.ref i] o Q := by
  refine W_is_line_comment ?_
  unfold B_is_line_comment
  k_extra "mw"
  refine cond_t (by rw [Bool.not_eq_true']; exact hs) ?_
  k_extra "mw"
  exact q

theorem skip_here (h : St b o i t p s) (hs : StartOk s) (sg : G l "signs" (.ref i)) {Q : Fl → Loc → Obs → Prop} (q : Q .next (putL "going" (.bool false) l) o) :
    WS (ifM (testM (funM (cfg N (n + 3)) "is_among" [(methM (cfg N (n + 3)) "sign" (locM "signs") []), (retE (.str [32, 9, 10, 13, 12, 11]))])) (thenS (exprM (methM (cfg N (n + 3)) "step" (locM "signs") [])) nextS) (thenS (ifM (testM (funM (cfg N (n + 3)) "is_line_comment" [(locM "signs")])) (thenS (whileM (cfg N (n + 3)) (testM (cmpM .NotIn (methM (cfg N (n + 3)) "sign" (locM "signs") []) (tupM [(retE (.str [])), (retE (.str [10])), (retE (.str [13])), (retE (.str [12]))]))) (thenS (exprM (methM (cfg N (n + 3)) "step" (locM "signs") [])) nextS)) nextS) (thenS (ifM (testM (methM (cfg N (n + 3)) "starts" (locM "signs") [(retE (.str [123, 45]))])) (thenS (exprM (funM (cfg N (n + 3)) "skip_nested" [(locM "signs")])) nextS) (thenS (assignM "going" (retE (.bool false))) nextS)) nextS)) nextS)) l o Q := by
  cases s with
  | nil =>
    k_extra "mw"
    refine c_linecomment h hs.dash ?_
    k_extra "mw"
    refine cond_f hs.nest ?_
    k_extra "mw"
    exact q
  | cons c r =>
    k_extra "mw"
    refine cond_f (hs.ws c r rfl) ?_
    k_extra "mw"
    refine c_linecomment h hs.dash ?_
    k_extra "mw"
    refine cond_f hs.nest ?_
    k_extra "mw"
    exact q

theorem c_skip {bl s' : List Nat} (hN : 1000000 ≤ N) (h : St b o i t p s) (hs : s = bl ++ s') (hb : bl = [] ∨ bl = [32]) (hst : StartOk s') (q : ∀ o', St b o' i t (p + bl.length) s' → Q (.bool false) o') : WC N (n + 4) "" "skip_between" [.ref i] o Q := by
  refine W_skip_between ?_
  unfold B_skip_between
  k_extra "mw"
  subst hs
  refine t_while (k := bl.length + 1) (fun k l o' => G l "signs" (.ref i) ∧ G l "line" (.int 1) ∧ ((G l "going" (.bool false) ∧ k = 0 ∧ St b o' i t (p + bl.length) s') ∨
    (G l "going" (.bool true) ∧ ∃ u d, bl = u ++ d ∧ (d = [] ∨ d = [32]) ∧ k = d.length + 1 ∧ St b o' i t (p + u.length) (d ++ s')))) (by rcases hb with rfl | rfl <;> simp <;> omega) ⟨by k_extra "lk", by k_extra "lk", .inr ⟨by k_extra "lk", [], bl, rfl, hb, rfl, h⟩⟩ ?_
  rintro k l o' ⟨l1, l2, ⟨l3, rfl, h'⟩ | ⟨l3, u, d, rfl, hd, rfl, h'⟩⟩
  · k_extra "mw"
    exact q _ h'
  · rcases hd with rfl | rfl
    · simp only [List.nil_append, List.append_nil] at h' q ⊢
      refine w_test (w_loc l3 (w_boolv (cond_t rfl ?_)))
      refine t_then (skip_here h' hst l1 ?_)
      k_extra "mw"
      exact ⟨0, by simp, by k_extra "lk", by k_extra "lk", .inl ⟨by k_extra "lk", rfl, h'⟩⟩
    · simp only [List.cons_append, List.nil_append] at h'
      k_extra "mw"
      refine cond_t (by decide) ?_
      k_extra "mw"
      rename_i o2 h2
      exact ⟨1, by simp, l1, l2, .inr ⟨l3, u ++ [32], [], by simp, .inl rfl, rfl, by simpa [Nat.add_assoc] using h2⟩⟩
end
local macro_rules | `(tactic| k_extra "mcall") => `(tactic| with_reducible first | (refine c_step (by assumption) ?_; intro _ _) | refine c_among0 ?_ | refine c_among1 ?_ | refine c_place (by assumption) ?_ | refine c_sign0n (by assumption) ?_ | refine c_sign0c (by assumption) ?_ | refine c_sign0 (by assumption) ?_ | refine c_sign1 (by assumption) ?_ | refine m_sg (by assumption) (by kernel_rfl) ?_)
noncomputable def digL : List Nat := [48, 49, 50, 51, 52, 53, 54, 55, 56, 57]
noncomputable def specL : List Nat := [40, 41, 91, 93, 44, 59, 96, 123, 125]
noncomputable def symL : List Nat := [33, 35, 36, 37, 38, 42, 43, 46, 47, 60, 61, 62, 63, 64, 92, 94, 124, 45, 126, 58]
noncomputable def smallL : List Nat := [97, 98, 99, 100, 101, 102, 103, 104, 105, 106, 107, 108, 109, 110, 111, 112, 113, 114, 115, 116, 117, 118, 119, 120, 121, 122, 95]
noncomputable def greatL : List Nat := [65, 66, 67, 68, 69, 70, 71, 72, 73, 74, 75, 76, 77, 78, 79, 80, 81, 82, 83, 84, 85, 86, 87, 88, 89, 90]
noncomputable def octL : List Nat := [48, 49, 50, 51, 52, 53, 54, 55]
noncomputable def hexT : List Nat := [97, 98, 99, 100, 101, 102, 65, 66, 67, 68, 69, 70]
noncomputable def hexs : List Nat := [48, 49, 50, 51, 52, 53, 54, 55, 56, 57, 97, 98, 99, 100, 101, 102]
noncomputable def hexL : List Nat := digL ++ hexT
noncomputable def keysL : List (List Nat) := [[99, 97, 115, 101], [99, 108, 97, 115, 115], [100, 97, 116, 97], [100, 101, 114, 105, 118, 105, 110, 103], [100, 111], [101, 108, 115, 101], [105, 102], [105, 109, 112, 111, 114, 116], [105, 110], [105, 110, 102, 105, 120], [105, 110, 102, 105, 120, 108], [105, 110, 102, 105, 120, 114], [105, 110, 115, 116, 97, 110, 99, 101], [108, 101, 116], [109, 111, 100, 117, 108, 101], [110, 101, 119, 116, 121, 112, 101], [111, 102], [116, 104, 101, 110], [116, 121, 112, 101], [119, 104, 101, 114, 101], [95]]
noncomputable def opsL : List (List Nat) := [[46, 46], [58], [58, 58], [61], [92], [124], [60, 45], [45, 62], [64], [126], [61, 62]]
noncomputable def namedL : List (List Nat) := [[78, 85, 76], [83, 79, 72], [83, 84, 88], [69, 84, 88], [69, 79, 84], [69, 78, 81], [65, 67, 75], [66, 69, 76], [66, 83], [72, 84], [76, 70], [86, 84], [70, 70], [67, 82], [83, 79], [83, 73], [68, 76, 69], [68, 67, 49], [68, 67, 50], [68, 67, 51], [68, 67, 52], [78, 65, 75], [83, 89, 78], [69, 84, 66], [67, 65, 78], [69, 77], [83, 85, 66], [69, 83, 67], [70, 83], [71, 83], [82, 83], [85, 83], [83, 80]]
theorem gl_DIGITS : globF "DIGITS" = some (.str digL) := by kernel_rfl
theorem gl_SPECIALS : globF "SPECIALS" = some (.str specL) := by kernel_rfl
theorem gl_SYMBOLS : globF "SYMBOLS" = some (.str symL) := by kernel_rfl
theorem gl_SMALL : globF "SMALL" = some (.str smallL) := by kernel_rfl
theorem gl_GREAT : globF "GREAT" = some (.str greatL) := by kernel_rfl
theorem gl_KEYS : globF "KEYS" = some (.tup (keysL.map .str)) := by kernel_rfl
theorem gl_OPS : globF "OPS" = some (.tup (opsL.map .str)) := by kernel_rfl
theorem gl_MOST : globF "MOST_SIGN" = some (.int 1114111) := by kernel_rfl
theorem gl_GREATEST : globF "TOO_GREAT" = some (.int (10 ^ 3999)) := by kernel_rfl
theorem gl_NAMED : globF "NAMED_ESCAPES" = some (.tup (namedL.map .str)) := by kernel_rfl
theorem gl_DELETE : globF "DELETE" = some (.int 127) := by kernel_rfl
theorem gl_PLAIN : globF "PLAIN_ESCAPES" = some (.dct d_esc) := by kernel_rfl
local macro_rules | `(tactic| k_extra "mcall") => `(tactic| with_reducible first | refine w_glob gl_PLAIN ?_ | refine w_glob gl_DELETE ?_ | refine w_glob gl_NAMED ?_ | refine w_glob gl_GREATEST ?_ | refine w_glob gl_MOST ?_ | refine w_glob gl_OPS ?_ | refine w_glob gl_KEYS ?_ | refine w_glob gl_GREAT ?_ | refine w_glob gl_SMALL ?_ | refine w_glob gl_SYMBOLS ?_ | refine w_glob gl_SPECIALS ?_ | refine w_glob gl_DIGITS ?_)
noncomputable def digV (c : Nat) : Int := findIn1 hexs (lowerA c)
noncomputable def numAt (B : Int) (w : List Nat) : Nat → Option Int
  | 0 => some 0
  | i + 1 => (numAt B w i).bind fun f => (w[i]?).bind fun d => if d < 128 ∧ 0 ≤ digV d ∧ (-(2 ^ 63 : Int) < f ∧ f < 2 ^ 63) ∧ f * B + digV d < 2 ^ 63 then some (f * B + digV d) else none
noncomputable def numOf (B : Int) (w : List Nat) : Option Int := numAt B w w.length
theorem numAt_pre {B : Int} {w : List Nat} {v : Int} : ∀ {i j : Nat}, i ≤ j → numAt B w j = some v → ∃ u, numAt B w i = some u
  | i, 0, h, e => by have : i = 0 := by omega
                     subst this; exact ⟨_, rfl⟩
  | i, j + 1, h, e => by
    by_cases hi : i = j + 1
    · subst hi; exact ⟨_, e⟩
    · obtain ⟨f, hf, -⟩ := Option.bind_eq_some_iff.mp (show (numAt B w j).bind _ = _ from e)
      exact numAt_pre (by omega) hf
theorem big_ge {f : Int} (h : f < 2 ^ 63) : decide ((10 : Int) ^ 3999 ≤ f) = false := by
  have h2 : (2 : Int) ^ 63 < 10 ^ 3999 := by decide +kernel
  exact decide_eq_false (by omega)

section
variable {N n : Nat} {b o : Obs} {i p : Nat} {t s r : List Nat} {c : Nat} {Q : V → Obs → Prop} {l : Loc} {ms : List (EM V)}

theorem c_number {w : List Nat} {B v : Int} {pl : V} (hN : 1000000 ≤ N) (hw : w.length < 1000) (e : numOf B w = some v) (q : Q (.int v) o) : WC N (n + 1) "" "number_of" [.str w, .int B, pl] o Q := by
  refine W_number_of ?_
  unfold B_number_of
  k_extra "mw"
  refine t_for ?_
  k_extra "mw"
  refine for_str (fun i l o' => o' = o ∧ G l "base" (.int B) ∧ ∃ f, numAt B w i = some f ∧ G l "found" (.int f)) (by omega) ⟨rfl, by k_extra "lk", 0, rfl, by k_extra "lk"⟩ ?_ ?_
  · rintro i c l o' hc ⟨rfl, l1, f, hf, l2⟩
    have hlt := (List.getElem?_eq_some_iff.mp hc).1
    obtain ⟨u, hu⟩ := numAt_pre (i := i + 1) (by omega) e
    have hu' := hu
    unfold numAt at hu'
    rw [hf] at hu'
    simp only [Option.bind_some, hc] at hu'
    split at hu'
    · rename_i h
      obtain ⟨h1, h2, h3, h4⟩ := h
      cases hu'
      k_extra "mw"
      refine b_mulI h3 ?_
      k_extra "mw"
      refine m_index ?_
      k_extra "mw"
      refine m_lower h1 ?_
      k_extra "mw"
      refine ⟨_, rfl, h2, ?_⟩
      k_extra "mw"
      refine cond_f (big_ge h4) ?_
      k_extra "mw"
      exact ⟨rfl, by k_extra "lk", _, hu, by unfold digV hexs; k_extra "lk"⟩
    · cases hu'
  · rintro l o' ⟨rfl, l1, f, hf, l2⟩
    rw [show numAt B w w.length = some v from e] at hf
    cases hf
    k_extra "mw"
    exact q

theorem c_checked {v : Nat} {pl : V} (h : v < 1114112) (q : Q (.str [v]) o) : WC N (n + 1) "" "checked_sign" [.int v, pl] o Q := by
  refine W_checked_sign ?_
  unfold B_checked_sign
  k_extra "mw"
  refine cond_f (decide_eq_false (by omega)) ?_
  k_extra "mw"
  refine bl_chr (by omega) ?_
  k_extra "mw"
  exact q

noncomputable def nmAt (s3 : List Nat) : Nat → List Nat × Option Int
  | 0 => ([], none)
  | i + 1 => match namedL[i]? with
    | some w => if (s3.take w.length == w) && decide ((nmAt s3 i).1.length < w.length) then (w, some i) else nmAt s3 i
    | none => nmAt s3 i
noncomputable def nmRes (s3 : List Nat) : List Nat × Option Int := if s3.take 3 == [68, 69, 76] then ([68, 69, 76], some 127) else nmAt s3 33
noncomputable def oV : Option Int → V
  | none => .none
  | some i => .int i
theorem named_get {i : Nat} (h : i < 33) : ∃ w, namedL[i]? = some w ∧ w.length ≤ 3 ∧ (namedL.map V.str)[i]? = some (.str w) := by
  have h1 : i < namedL.length := h
  refine ⟨namedL[i], List.getElem?_eq_getElem h1, ?_, by rw [List.getElem?_map, List.getElem?_eq_getElem h1]; rfl⟩
  have : ∀ w ∈ namedL, w.length ≤ 3 := by decide
  exact this _ (List.getElem_mem h1)
theorem nm_len (s3 : List Nat) : ∀ i, (nmAt s3 i).1.length ≤ 3
  | 0 => by simp [nmAt]
  | i + 1 => by
    unfold nmAt
    split
    · rename_i w e
      split
      · have : ∀ w ∈ namedL, w.length ≤ 3 := by decide
        exact this _ (List.mem_of_getElem? e)
      · exact nm_len s3 i
    · exact nm_len s3 i
theorem take3 {s : List Nat} {k : Nat} (h : k ≤ 3) : (s.take 3).take k = s.take k := by rw [List.take_take, Nat.min_eq_left h]

-- CALLS
theorem c_named {best : List Nat} {k : Nat} (hN : 1000000 ≤ N) (h : St b o i t p s) (e : nmRes (s.take 3) = (best, some (k : Int))) (hs : s = best ++ r) (hk : k < 1114112) (q : ∀ o', St b o' i t (p + best.length) r → Q (.str [k]) o') : WC N (n + 3) "" "named_escape" [.ref i] o Q := by
  refine W_named_escape ?_
  unfold B_named_escape
  have hb3 : best.length ≤ 3 := by
    have : (nmRes (s.take 3)).1.length ≤ 3 := by
      unfold nmRes
      split
      · decide
      · exact nm_len _ _
    rw [e] at this; exact this
  k_extra "mw"
  refine t_for ?_
  k_extra "mw"
  refine bl_lenT (by decide) ?_
  k_extra "mw"
  refine bl_rng (by decide) ?_
  k_extra "mw"
  refine for_rng (m := 33) (fun j l o' => o' = o ∧ G l "signs" (.ref i) ∧ G l "best" (.str (nmAt (s.take 3) j).1) ∧ G l "number" (oV (nmAt (s.take 3) j).2)) (by omega) ⟨rfl, by k_extra "lk", by show G _ "best" (.str []); k_extra "lk", by show G _ "number" .none; k_extra "lk"⟩ ?_ ?_
  · rintro j l o' hj ⟨rfl, l1, l2, l3⟩
    obtain ⟨w, hw, hw3, hv⟩ := named_get hj
    have hn := nm_len (s.take 3) j
    have e1 : nmAt (s.take 3) (j + 1) = if (s.take w.length == w) && decide ((nmAt (s.take 3) j).1.length < w.length) then (w, some (j : Int)) else nmAt (s.take 3) j := by
      rw [← take3 (s := s) hw3]
      conv => lhs; unfold nmAt
      rw [hw]
    k_extra "mw"
    refine s_tup (by omega) (c := .str w) (by rw [← hv]; congr 1) ?_
    k_extra "mw"
    refine c_starts (by omega) h ?_
    k_extra "mw"
    constructor
    · intro h1
      k_extra "mw"
      refine s_tup (by omega) (c := .str w) (by rw [← hv]; congr 1) ?_
      k_extra "mw"
      refine bl_lenS (by omega) ?_
      k_extra "mw"
      refine bl_lenS (by omega) ?_
      k_extra "mw"
      constructor
      · intro h2
        k_extra "mw"
        have h2' := of_decide_eq_true h2
        rw [h1, decide_eq_true (by omega)] at e1
        simp only [Bool.and_self, if_true] at e1
        refine s_tup (by omega) (c := .str w) (by rw [← hv]; congr 1) ?_
        k_extra "mw"
        rw [e1]
        exact ⟨rfl, by k_extra "lk", by k_extra "lk", by show G _ "number" (.int j); k_extra "lk"⟩
      · intro h2
        have h2' := of_decide_eq_false h2
        rw [h1, decide_eq_false (by omega)] at e1
        simp only [Bool.and_false, Bool.false_eq_true, if_false] at e1
        k_extra "mw"
        rw [e1]
        exact ⟨rfl, by k_extra "lk", by k_extra "lk", by k_extra "lk"⟩
    · intro h1
      rw [h1] at e1
      simp only [Bool.false_and, Bool.false_eq_true, if_false] at e1
      k_extra "mw"
      rw [e1]
      exact ⟨rfl, by k_extra "lk", by k_extra "lk", by k_extra "lk"⟩
  · rintro l o' ⟨rfl, l1, l2, l3⟩
    have fin : ∀ l, G l "signs" (.ref i) → G l "best" (.str best) → G l "number" (.int k) → WS (thenS (forM (cfg N (n + 2)) (some (.one "turn")) (bltM "range" [(bltM "len" [(locM "best")])]) (thenS (exprM (methM (cfg N (n + 2)) "step" (locM "signs") [])) nextS)) (thenS (retM (iteM (testM (cmpM .Is (locM "number") (retE .none))) (retE .none) (bltM "chr" [(locM "number")]))) nextS)) l o' (EndW Q) := by
      intro l l1 l2 l3
      k_extra "mw"
      refine t_for ?_
      k_extra "mw"
      refine bl_lenS (by omega) ?_
      k_extra "mw"
      refine bl_rng (by omega) ?_
      k_extra "mw"
      refine for_rng (fun j l o' => G l "signs" (.ref i) ∧ G l "number" (.int k) ∧ ∃ u d, best = u ++ d ∧ u.length = j ∧ St b o' i t (p + u.length) (d ++ r)) (by omega) ⟨l1, l3, [], best, rfl, rfl, by rw [← hs]; exact h⟩ ?_ ?_
      · rintro j l o' hj ⟨l1, l2, u, d, rfl, rfl, h'⟩
        cases d with
        | nil => simp at hj
        | cons x d =>
          simp only [List.cons_append] at h'
          k_extra "mw"
          rename_i o2 h2
          exact ⟨by k_extra "lk", by k_extra "lk", u ++ [x], d, by simp, by simp, by simpa [Nat.add_assoc] using h2⟩
      · rintro l o' ⟨l1, l2, u, d, rfl, hu, h'⟩
        have : d = [] := by
          rw [List.length_append] at hu
          exact List.eq_nil_of_length_eq_zero (by omega)
        subst this
        k_extra "mw"
        refine bl_chr (by omega) ?_
        k_extra "mw"
        simp only [List.append_nil, List.nil_append] at h' q
        exact q _ h'
    unfold nmRes at e
    rw [take3 (Nat.le_refl 3)] at e
    k_extra "mw"
    refine c_starts (by decide) h ?_
    k_extra "mw"
    constructor
    · intro h1
      rw [show (s.take 3 == [68, 69, 76]) = true from h1] at e
      simp only [if_true, Prod.mk.injEq, Option.some.injEq] at e
      obtain ⟨rfl, e2⟩ := e
      obtain rfl : k = 127 := by omega
      refine t_then (t_swap2 (w_tup (w_cons (w_ret (w_cons (w_glob gl_DELETE (w_nil (ex_tup2 ?_))))))))
      k_extra "mw1"
      k_extra "mw1"
      k_extra "mw1"
      exact fin _ (by k_extra "lk") (by k_extra "lk") (by show G _ "number" (.int 127); k_extra "lk")
    · intro h1
      rw [show (s.take 3 == [68, 69, 76]) = false from h1] at e
      simp only [Bool.false_eq_true, if_false] at e
      rw [e] at l2 l3
      k_extra "mw1"
      k_extra "mw1"
      exact fin _ (by k_extra "lk") l2 l3
end
local macro_rules | `(tactic| k_extra "mcall") => `(tactic| refine c_starts (by decide) (by assumption) ?_)

noncomputable def NotIn (L r : List Nat) : Prop := ∀ c r', r = c :: r' → L.contains c = false
inductive EscR (r : List Nat) : List Nat → Nat → Prop
  | dec {body : List Nat} {num : Nat} (h1 : body ≠ []) (h2 : body.all digL.contains = true) (h3 : NotIn digL r) (h4 : numOf 10 body = some (num : Int)) (h5 : num < 1114112) (h6 : body.length < 1000) : EscR r body num
  | hex {ds : List Nat} {num : Nat} (h1 : ds ≠ []) (h2 : ds.all hexL.contains = true) (h3 : NotIn hexL r) (h4 : numOf 16 ds = some (num : Int)) (h5 : num < 1114112) (h6 : ds.length < 1000) : EscR r (120 :: ds) num
  | oct {ds : List Nat} {num : Nat} (h1 : ds ≠ []) (h2 : ds.all octL.contains = true) (h3 : NotIn octL r) (h4 : numOf 8 ds = some (num : Int)) (h5 : num < 1114112) (h6 : ds.length < 1000) : EscR r (111 :: ds) num
  | ctl {k : Nat} (h1 : 64 ≤ k) (h2 : k ≤ 95) : EscR r [94, k] (k - 64)
  | pl {c num : Nat} (h1 : dctGet [c] d_esc = some (num : Int)) (h2 : num < 128) (h3 : digL.contains c = false) (h4 : c ≠ 120 ∧ c ≠ 111 ∧ c ≠ 94) : EscR r [c] num
  | nm {c : Nat} {body : List Nat} {num : Nat} (h1 : 65 ≤ c ∧ c ≤ 90) (h2 : nmRes ((c :: body ++ r).take 3) = (c :: body, some (num : Int))) (h3 : num < 128) : EscR r (c :: body) num

theorem dct_any {x : List Nat} : ∀ {es : List (List Nat × Int)} {v : Int}, dctGet x es = some v → (es.any fun e => x == e.1) = true
  | [], _, h => by cases h
  | e :: r, v, h => by
    unfold dctGet at h
    split at h
    · rename_i hx; simp [hx]
    · simp [dct_any h]

section
variable {N n : Nat} {b o : Obs} {i p : Nat} {t s r : List Nat} {c : Nat} {Q : V → Obs → Prop} {l : Loc} {ms : List (EM V)}

theorem esc_mid {pl : V} {R : SM} {Q' : Fl → Loc → Obs → Prop} (hN : 1000000 ≤ N) (h1 : c ≠ 120) (h2 : c ≠ 111) (hl : G l "sign" (.str [c])) (hg : G l "signs" (.ref i)) (q : ∀ l, G l "sign" (.str [c]) → G l "signs" (.ref i) → WS R l o Q') :
    WS (thenS (forM (cfg N n) (some (.many ["letter", "letters", "base"])) (tupM [(tupM [(retE (.str [120])), (binM .Add (globM (cfg N n) "DIGITS") (retE (.str [97, 98, 99, 100, 101, 102, 65, 66, 67, 68, 69, 70]))), (retE (.int 16))]), (tupM [(retE (.str [111])), (retE (.str [48, 49, 50, 51, 52, 53, 54, 55])), (retE (.int 8))])]) (thenS (ifM (andT [(testM (cmpM .Eq (locM "sign") (locM "letter"))), (testM (funM (cfg N n) "is_among" [(methM (cfg N n) "sign" (locM "signs") [(retE (.int 1))]), (locM "letters")]))]) (thenS (exprM (methM (cfg N n) "step" (locM "signs") [])) (thenS (retM (funM (cfg N n) "checked_sign" [(funM (cfg N n) "number_of" [(methM (cfg N n) "take" (locM "signs") [(locM "letters")]), (locM "base"), (locM "place")]), (locM "place")])) nextS)) nextS) nextS)) R) l o Q' := by
  k_extra "mw"
  refine t_for ?_
  k_extra "mw"
  refine b_addS (by decide) ?_
  k_extra "mw"
  refine ⟨_, fun j l o' => o' = o ∧ G l "sign" (.str [c]) ∧ G l "signs" (.ref i), by simp; omega, ⟨rfl, hl, hg⟩, fun _ _ _ _ => rfl, ?_, ?_⟩
  · rintro j l o' x ⟨rfl, l1, l2⟩ hx
    match j, hx with
    | 0, hx =>
      simp only [List.getElem?_cons_zero, Option.some.injEq] at hx
      subst hx
      refine ⟨[("letter", _), ("letters", _), ("base", _)], rfl, ?_⟩
      k_extra "mw"
      refine cond_f (by simpa using h1) ?_
      k_extra "mw"
      exact ⟨rfl, by k_extra "lk", by k_extra "lk"⟩
    | 1, hx =>
      simp only [List.getElem?_cons_zero, List.getElem?_cons_succ, Option.some.injEq] at hx
      subst hx
      refine ⟨[("letter", _), ("letters", _), ("base", _)], rfl, ?_⟩
      k_extra "mw"
      refine cond_f (by simpa using h2) ?_
      k_extra "mw"
      exact ⟨rfl, by k_extra "lk", by k_extra "lk"⟩
    | j + 2, hx => simp at hx
  · rintro l o' ⟨rfl, l1, l2⟩
    exact q l l1 l2

theorem esc_base {C : Nat} {L ds : List Nat} {B : Int} {num : Nat} {pl : V} {R : SM} {Q : V → Obs → Prop} (hN : 1000000 ≤ N) (hC : (C = 120 ∧ L = hexL ∧ B = 16) ∨ (C = 111 ∧ L = octL ∧ B = 8)) (h : St b o i t p (C :: (ds ++ r))) (hl : G l "sign" (.str [C])) (hg : G l "signs" (.ref i)) (hp : G l "place" pl)
    (h1 : ds ≠ []) (h2 : ds.all L.contains = true) (h3 : NotIn L r) (h4 : numOf B ds = some (num : Int)) (h5 : num < 1114112) (h6 : ds.length < 1000) (q : ∀ o', St b o' i t (p + (C :: ds).length) r → Q (.str [num]) o') :
    WS (thenS (forM (cfg N (n + 3)) (some (.many ["letter", "letters", "base"])) (tupM [(tupM [(retE (.str [120])), (binM .Add (globM (cfg N (n + 3)) "DIGITS") (retE (.str [97, 98, 99, 100, 101, 102, 65, 66, 67, 68, 69, 70]))), (retE (.int 16))]), (tupM [(retE (.str [111])), (retE (.str [48, 49, 50, 51, 52, 53, 54, 55])), (retE (.int 8))])]) (thenS (ifM (andT [(testM (cmpM .Eq (locM "sign") (locM "letter"))), (testM (funM (cfg N (n + 3)) "is_among" [(methM (cfg N (n + 3)) "sign" (locM "signs") [(retE (.int 1))]), (locM "letters")]))]) (thenS (exprM (methM (cfg N (n + 3)) "step" (locM "signs") [])) (thenS (retM (funM (cfg N (n + 3)) "checked_sign" [(funM (cfg N (n + 3)) "number_of" [(methM (cfg N (n + 3)) "take" (locM "signs") [(locM "letters")]), (locM "base"), (locM "place")]), (locM "place")])) nextS)) nextS) nextS)) R) l o (EndW Q) := by
  have key : ∀ l, G l "sign" (.str [C]) → G l "signs" (.ref i) → G l "place" pl → G l "letter" (.str [C]) → G l "letters" (.str L) → G l "base" (.int B) → ∀ P : Loc → Obs → Prop, WS (thenS (ifM (andT [(testM (cmpM .Eq (locM "sign") (locM "letter"))), (testM (funM (cfg N (n + 3)) "is_among" [(methM (cfg N (n + 3)) "sign" (locM "signs") [(retE (.int 1))]), (locM "letters")]))]) (thenS (exprM (methM (cfg N (n + 3)) "step" (locM "signs") [])) (thenS (retM (funM (cfg N (n + 3)) "checked_sign" [(funM (cfg N (n + 3)) "number_of" [(methM (cfg N (n + 3)) "take" (locM "signs") [(locM "letters")]), (locM "base"), (locM "place")]), (locM "place")])) nextS)) nextS) nextS) l o (LoopW P (ThenW R (EndW Q))) := by
    intro l l1 l2 l3 l4 l5 l6 P
    k_extra "mw"
    refine cond_t (by simp) ?_
    k_extra "mw"
    cases ds with
    | nil => exact absurd rfl h1
    | cons d ds =>
      simp only [List.cons_append, List.drop_succ_cons, List.drop_zero, List.take_succ_cons, List.take_zero]
      k_extra "mw"
      refine cond_t (by simp only [List.all_cons, Bool.and_eq_true] at h2; exact h2.1) ?_
      k_extra "mw"
      rename_i o2 H2
      refine c_take hN H2 (a := d :: ds) rfl h2 h3 fun o3 H3 => ?_
      k_extra "mw"
      refine c_number hN h6 h4 ?_
      k_extra "mw"
      refine c_checked h5 ?_
      k_extra "mw"
      refine q _ ?_
      simpa [Nat.add_assoc, Nat.add_comm] using H3
  k_extra "mw"
  refine t_for ?_
  k_extra "mw"
  refine b_addS (by decide) ?_
  k_extra "mw"
  refine ⟨_, fun j l o' => o' = o ∧ G l "sign" (.str [C]) ∧ G l "signs" (.ref i) ∧ G l "place" pl ∧ (j = 0 ∨ (j = 1 ∧ C = 111)), by simp; omega, ⟨rfl, hl, hg, hp, .inl rfl⟩, fun _ _ _ _ => rfl, ?_, ?_⟩
  · rintro j l o' x ⟨rfl, l1, l2, l3, hj⟩ hx
    match j, hx with
    | 0, hx =>
      simp only [List.getElem?_cons_zero, Option.some.injEq] at hx
      subst hx
      refine ⟨[("letter", _), ("letters", _), ("base", _)], rfl, ?_⟩
      rcases hC with ⟨rfl, rfl, rfl⟩ | ⟨rfl, rfl, rfl⟩
      · exact key _ (by k_extra "lk") (by k_extra "lk") (by k_extra "lk") (by k_extra "lk") (lka_cons (lka_cons (lka_cons (lka_nil (lkp_skip (by kernel_rfl) lkp_here))))) (by k_extra "lk") _
      · k_extra "mw"
        refine cond_f (by decide) ?_
        k_extra "mw"
        exact ⟨rfl, by k_extra "lk", by k_extra "lk", by k_extra "lk", .inr ⟨rfl, rfl⟩⟩
    | 1, hx =>
      simp only [List.getElem?_cons_zero, List.getElem?_cons_succ, Option.some.injEq] at hx
      subst hx
      refine ⟨[("letter", _), ("letters", _), ("base", _)], rfl, ?_⟩
      rcases hj with hj | ⟨-, rfl⟩
      · cases hj
      rcases hC with ⟨hC, -⟩ | ⟨-, rfl, rfl⟩
      · cases hC
      exact key _ (by k_extra "lk") (by k_extra "lk") (by k_extra "lk") (by k_extra "lk") (lka_cons (lka_cons (lka_cons (lka_nil (lkp_skip (by kernel_rfl) lkp_here))))) (by k_extra "lk") _
    | j + 2, hx => simp at hx
  · rintro l o' ⟨rfl, l1, l2, l3, hj⟩
    exfalso
    simp at hj

theorem c_escape {body : List Nat} {num : Nat} (hN : 1000000 ≤ N) (h : St b o i t p (body ++ r)) (E : EscR r body num) (q : ∀ o', St b o' i t (p + body.length) r → Q (.str [num]) o') : WC N (n + 4) "" "read_escape" [.ref i] o Q := by
  refine W_read_escape ?_
  unfold B_read_escape
  cases E with
  | dec h1 h2 h3 h4 h5 h6 =>
    cases body with
    | nil => exact absurd rfl h1
    | cons c body =>
      have hc : digL.contains c = true := by simp only [List.all_cons, Bool.and_eq_true] at h2; exact h2.1
      rw [List.cons_append] at h
      k_extra "mw"
      refine cond_t hc ?_
      k_extra "mw"
      refine c_take hN h (a := c :: body) rfl h2 h3 fun o2 H2 => ?_
      k_extra "mw"
      refine c_number hN h6 h4 ?_
      k_extra "mw"
      refine c_checked h5 ?_
      k_extra "mw"
      exact q _ H2
  | hex h1 h2 h3 h4 h5 h6 =>
    rw [List.cons_append] at h
    k_extra "mw1"
    k_extra "mw1"
    k_extra "mw"
    refine cond_f (by decide) ?_
    refine t_next (then_next ?_)
    exact esc_base hN (.inl ⟨rfl, rfl, rfl⟩) h (by k_extra "lk") (by k_extra "lk") (by k_extra "lk") h1 h2 h3 h4 h5 h6 q
  | oct h1 h2 h3 h4 h5 h6 =>
    rw [List.cons_append] at h
    k_extra "mw"
    refine cond_f (by decide) ?_
    refine t_next (then_next ?_)
    exact esc_base hN (.inr ⟨rfl, rfl, rfl⟩) h (by k_extra "lk") (by k_extra "lk") (by k_extra "lk") h1 h2 h3 h4 h5 h6 q
  | ctl h1 h2 =>
    rename_i k
    simp only [List.cons_append, List.nil_append] at h
    k_extra "mw"
    refine cond_f (by decide) ?_
    refine t_next (then_next ?_)
    refine esc_mid (c := 94) hN (pl := .none) (by decide) (by decide) (by k_extra "lk") (by k_extra "lk") fun l l1 l2 => ?_
    k_extra "mw"
    refine cond_t (by decide) ?_
    k_extra "mw"
    refine ⟨_, rfl, ?_⟩
    refine cond_t (decide_eq_true h1) ?_
    k_extra "mw"
    refine ⟨_, rfl, ?_⟩
    k_extra "mw"
    refine cond_t (decide_eq_true h2) ?_
    k_extra "mw"
    rename_i o3 h3
    refine bl_chr (by omega) ?_
    k_extra "mw"
    have := q _ h3
    rwa [show k - 64 = ((k : Int) - 64).toNat by omega] at this
  | pl h1 h2 h3 h4 =>
    rename_i c
    simp only [List.cons_append, List.nil_append] at h
    k_extra "mw"
    refine cond_f h3 ?_
    refine t_next (then_next ?_)
    refine esc_mid hN (pl := .none) h4.1 h4.2.1 (by k_extra "lk") (by k_extra "lk") fun l l1 l2 => ?_
    k_extra "mw"
    refine cond_f (by simpa using h4.2.2) ?_
    k_extra "mw"
    refine cond_t rfl ?_
    k_extra "mw"
    refine cond_t (dct_any h1) ?_
    k_extra "mw"
    rename_i o3 h3
    refine s_dct h1 ?_
    k_extra "mw"
    refine bl_chr (by omega) ?_
    k_extra "mw"
    exact q _ h3
  | nm h1 h2 h3 =>
    rename_i c body
    rw [List.cons_append] at h
    have hd : digL.contains c = false := by
      have : ∀ x, 65 ≤ x → x ≤ 90 → digL.contains x = false := by
        intro x a b; simp [digL]; omega
      exact this c h1.1 h1.2
    have hp : (d_esc.any fun e => [c] == e.1) = false := by
      simp [d_esc]; omega
    k_extra "mw"
    refine cond_f hd ?_
    refine t_next (then_next ?_)
    refine esc_mid (c := c) hN (pl := .none) (by omega) (by omega) (by k_extra "lk") (by k_extra "lk") fun l l1 l2 => ?_
    k_extra "mw"
    refine cond_f (by simp; omega) ?_
    k_extra "mw"
    refine cond_t rfl ?_
    k_extra "mw"
    refine cond_f hp ?_
    k_extra "mw"
    refine c_named hN h h2 rfl (by omega) fun o2 H2 => ?_
    k_extra "mw"
    exact q _ H2
end

theorem St.re {b o : Obs} {i p : Nat} {t s : List Nat} (h : St b o i t p s) : St o o i t p s := ⟨h.ob, h.dr, h.le, h.pl, Ag.refl _ _⟩
theorem St.tr {b o o' : Obs} {i p p' : Nat} {t s s' : List Nat} (h : St b o i t p s) (h' : St o o' i t p' s') : St b o' i t p' s' := ⟨h'.ob, h'.dr, h'.le, h'.pl, h.ag.trans h'.ag⟩
theorem St.cast {b o : Obs} {i p p' : Nat} {t s s' : List Nat} (h : St b o i t p s) (e : p = p') (e' : s = s') : St b o i t p' s' := by subst e; subst e'; exact h
theorem St.push {b o : Obs} {i p : Nat} {t s : List Nat} {x : Ob} (h : St b o i t p s) : St b (o ++ [x]) i t p s :=
  ⟨by rw [List.getElem?_append_left (lt_of_get h.ob)]; exact h.ob, h.dr, h.le, h.pl, h.ag.push⟩
theorem St.set {b o : Obs} {i j p : Nat} {t s : List Nat} {x : Ob} (h : St b o i t p s) (n : j ≠ i) (hj : b.length ≤ j) : St b (o.set j x) i t p s :=
  ⟨by rw [List.getElem?_set_ne n]; exact h.ob, h.dr, h.le, h.pl, h.ag.set (.inr hj)⟩

noncomputable def wsL : List Nat := [32, 9, 10, 13, 12, 11]
inductive TextR (R : List Nat) : List Nat → List Nat → Prop
  | nil : TextR R [] []
  | sign {c : Nat} {raw val : List Nat} (h : 32 ≤ c ∧ c ≠ 127 ∧ c ≠ 34 ∧ c ≠ 92) (q : TextR R raw val) : TextR R (c :: raw) (c :: val)
  | esc {c num : Nat} {body raw val : List Nat} (h : 32 ≤ c ∧ c ≠ 38 ∧ c ≠ 32) (e : EscR (raw ++ R) (c :: body) num) (q : TextR R raw val) : TextR R (92 :: c :: body ++ raw) (num :: val)

theorem TextR.len {R raw val : List Nat} (h : TextR R raw val) : val.length ≤ raw.length := by
  induction h with
  | nil => simp
  | sign _ _ ih => simpa using ih
  | esc _ _ _ ih => simp; omega

theorem strs_of : ∀ (u : List Nat), strsOf (u.map fun c => V.str [c]) = some (u.map fun c => [c])
  | [] => rfl
  | c :: u => by simp only [List.map_cons, strsOf, strs_of u, Option.map_some]
theorem strs_map : ∀ (u : List (List Nat)), strsOf (u.map V.str) = some u
  | [] => rfl
  | c :: u => by simp only [List.map_cons, strsOf, strs_map u, Option.map_some]
theorem join_ones : ∀ (u : List Nat), joinL [] (u.map fun c => [c]) = u
  | [] => rfl
  | [c] => rfl
  | c :: d :: u => by
    have := join_ones (d :: u)
    simp only [List.map_cons] at this ⊢
    show [c] ++ [] ++ joinL [] ([d] :: u.map fun c => [c]) = _
    rw [this]; rfl
theorem sum_ones : ∀ (u : List Nat), sumLens (u.map fun c => [c]) = u.length
  | [] => rfl
  | c :: u => by
    have := sum_ones u
    unfold sumLens at this ⊢
    simp only [List.map_cons, List.sum_cons, List.length_cons, List.length_nil] at this ⊢
    omega

section
variable {N n : Nat} {b o : Obs} {i p : Nat} {t s r : List Nat} {c : Nat} {Q : V → Obs → Prop} {l : Loc} {ms : List (EM V)}

theorem c_char_sign (h : St b o i t p (39 :: c :: 39 :: r)) (hc : c ≠ 127 ∧ c ≠ 39 ∧ c ≠ 92) (q : ∀ o', St b o' i t (p + 3) r → Q (.str [c]) o') : WC N (n + 5) "" "read_char" [.ref i] o Q := by
  have h32 : 32 ≤ c := h.pl c (by simp)
  refine W_read_char ?_
  unfold B_read_char
  k_extra "mw"
  refine c_bare h32 hc.1 ?_
  k_extra "mw"
  refine cond_f rfl ?_
  k_extra "mw"
  refine cond_f (by simp; exact hc.2.1) ?_
  k_extra "mw"
  refine cond_f (by simp; exact hc.2.2) ?_
  k_extra "mw"
  refine cond_f (by decide) ?_
  k_extra "mw"
  exact q _ (by assumption)

theorem c_char_esc {body : List Nat} {num : Nat} (hN : 1000000 ≤ N) (h : St b o i t p (39 :: 92 :: (body ++ 39 :: r))) (E : EscR (39 :: r) body num) (q : ∀ o', St b o' i t (p + (body.length + 3)) r → Q (.str [num]) o') : WC N (n + 5) "" "read_char" [.ref i] o Q := by
  refine W_read_char ?_
  unfold B_read_char
  k_extra "mw"
  rename_i o3 h3
  refine c_bare (by decide) (by decide) ?_
  k_extra "mw"
  refine cond_f rfl ?_
  k_extra "mw"
  refine cond_f (by decide) ?_
  k_extra "mw"
  refine cond_t (by decide) ?_
  k_extra "mw"
  refine c_escape hN h3 E fun o4 h4 => ?_
  k_extra "mw"
  rename_i o5 h5
  refine cond_f (by decide) ?_
  k_extra "mw"
  exact q _ (h5.cast (by omega) rfl)

theorem c_text {raw val : List Nat} (hN : 1000000 ≤ N) (h : St b o i t p (34 :: (raw ++ 34 :: r))) (hr : raw.length < 10000) (T : TextR (34 :: r) raw val) (q : ∀ o', St b o' i t (p + (raw.length + 2)) r → Q (.str val) o') : WC N (n + 5) "" "read_text" [.ref i] o Q := by
  refine W_read_text ?_
  unfold B_read_text
  k_extra "mw"
  rename_i o1 h1
  have hb : b.length ≤ o1.length := h1.ag.le
  have hi : o1.length ≠ i := by have := lt_of_get h1.ob; omega
  have hp1 : (o1 ++ [Ob.list []])[o1.length]? = some (.list []) := get_push
  have h2 : St b (o1 ++ [Ob.list []]) i t (p + 1) (raw ++ 34 :: r) := h1.push
  have hv := T.len
  refine t_while (k := raw.length) (fun k l o' => G l "signs" (.ref i) ∧ G l "found" (.ref o1.length) ∧ ∃ d u w, TextR (34 :: r) d w ∧ u ++ w = val ∧ d.length = k ∧ k ≤ raw.length ∧ St b o' i t (p + 1 + (raw.length - k)) (d ++ 34 :: r) ∧ o'[o1.length]? = some (.list (u.map fun c => .str [c]))) (by omega)
    ⟨by k_extra "lk", by k_extra "lk", raw, [], val, T, rfl, rfl, Nat.le_refl _, by simpa using h2, hp1⟩ ?_
  rintro k l o' ⟨l1, l2, d, u, w, T', hu, rfl, hk, h', hl⟩
  have hul : u.length + w.length < 10000 := by
    have : u.length + w.length = val.length := by rw [← hu]; simp
    omega
  have keep := And.intro h' hl
  replace h' := h'.re
  cases T' with
  | nil =>
    simp only [List.nil_append] at h'
    k_extra "mw"
    refine cond_f (by decide) ?_
    k_extra "mw"
    rename_i o2 h2
    refine m_join ?_
    k_extra "mw"
    refine ⟨_, _, _, rfl, h2.ag.get keep.2 (by simpa using hi), strs_of u, ?_, ?_⟩
    · rw [sum_ones]
      simp only [List.length_map, List.length_nil, Nat.mul_zero, Nat.add_zero]
      unfold strLim; omega
    · k_extra "mw"
      rw [join_ones]
      simp only [List.append_nil] at hu
      subst hu
      exact q _ ((keep.1.tr h2).cast (by simp; omega) rfl)
  | sign hc T' =>
    rename_i c raw' val'
    simp only [List.cons_append] at h'
    simp only [List.length_cons] at hk hul
    k_extra "mw"
    refine cond_t (by simp; exact hc.2.2.1) ?_
    k_extra "mw"
    rename_i o2 h2
    refine c_bare hc.1 hc.2.1 ?_
    k_extra "mw"
    refine cond_f rfl ?_
    k_extra "mw"
    refine cond_t (by simp; exact hc.2.2.2) ?_
    k_extra "mw"
    have hl2 := h2.ag.get keep.2 (by simpa using hi)
    refine m_app hl2 ?_
    k_extra "mw"
    refine ex_app hl2 (by simp; omega) ?_
    k_extra "mw"
    refine ⟨raw'.length, by simp, by k_extra "lk", by k_extra "lk", raw', u ++ [c], val', T', by simpa using hu, rfl, by omega, ?_, ?_⟩
    · refine ((keep.1.tr h2).set hi hb).cast (by simp; omega) rfl
    · rw [get_set hl2]; simp
  | esc hc E T' =>
    rename_i c num body raw' val'
    simp only [List.cons_append, List.append_assoc] at h'
    simp only [List.length_cons, List.length_append, List.cons_append] at hk hul
    k_extra "mw"
    refine cond_t (by decide) ?_
    k_extra "mw"
    refine c_bare (by decide) (by decide) ?_
    k_extra "mw"
    refine cond_f rfl ?_
    k_extra "mw"
    refine cond_f (by decide) ?_
    k_extra "mw"
    refine cond_f (by simp; exact hc.2.1) ?_
    k_extra "mw"
    refine cond_f (by simp; omega) ?_
    k_extra "mw"
    rename_i o2 h2
    have hl2 := h2.ag.get keep.2 (by simpa using hi)
    refine m_app hl2 ?_
    k_extra "mw"
    replace h2 := And.intro h2 hl2
    have h2' := h2.1.re
    refine c_escape (body := c :: body) hN h2' E fun o3 h3 => ?_
    k_extra "mw"
    have hl3 := h3.ag.get hl2 (by simpa using hi)
    refine ex_app hl3 (by simp; omega) ?_
    k_extra "mw"
    refine ⟨raw'.length, by simp; omega, by k_extra "lk", by k_extra "lk", raw', u ++ [num], val', T', by simpa using hu, rfl, by omega, ?_, ?_⟩
    · refine ((keep.1.tr (h2.1.tr h3)).set hi hb).cast (by simp; omega) rfl
    · rw [get_set hl3]; simp
end

noncomputable def kKey : List Nat := [107, 101, 121]
noncomputable def kVar : List Nat := [118, 97, 114]
noncomputable def kOp : List Nat := [111, 112]
noncomputable def kCon : List Nat := [99, 111, 110, 115, 121, 109]
noncomputable def kVarsym : List Nat := [118, 97, 114, 115, 121, 109]
noncomputable def kSpecial : List Nat := [115, 112, 101, 99, 105, 97, 108]
noncomputable def kChar : List Nat := [99, 104, 97, 114]
noncomputable def kText : List Nat := [116, 101, 120, 116]
noncomputable def kEnd : List Nat := [101, 110, 100]
noncomputable def isIn (ys : List (List Nat)) (a : List Nat) : Bool := ys.any fun y => y == a
noncomputable def nameK (w : List Nat) : List Nat := if isIn keysL w then kKey else kVar
noncomputable def symK (w : List Nat) : List Nat := if isIn opsL w then kOp else if w.headD 0 = 58 then kCon else kVarsym
theorem symK_cons {c : Nat} {w : List Nat} : symK (c :: w) = if isIn opsL (c :: w) then kOp else if c = 58 then kCon else kVarsym := rfl
inductive WordR (r : List Nat) : List Nat → List Nat → V → Prop
  | special {c : Nat} (h : specL.contains c = true) : WordR r kSpecial [c] .none
  | name {c : Nat} {w : List Nat} (h : (c :: w).all letN.contains = true) (h1 : specL.contains c = false) (h2 : digL.contains c = false) (h3 : smallL.contains c = true) (hr : NotIn letN r) : WordR r (nameK (c :: w)) (c :: w) .none
  | op {c : Nat} {w : List Nat} (h : (c :: w).all symL.contains = true) (h1 : specL.contains c = false) (h2 : digL.contains c = false) (h3 : smallL.contains c = false) (h4 : greatL.contains c = false) (hr : NotIn symL r) : WordR r (symK (c :: w)) (c :: w) .none
  | charS {c : Nat} (hc : c ≠ 127 ∧ c ≠ 39 ∧ c ≠ 92) : WordR r kChar [39, c, 39] (.str [c])
  | charE {body : List Nat} {num : Nat} (E : EscR (39 :: r) body num) : WordR r kChar (39 :: 92 :: body ++ [39]) (.str [num])
  | text {raw val : List Nat} (T : TextR (34 :: r) raw val) (hr : raw.length < 10000) : WordR r kText (34 :: raw ++ [34]) (.str val)

section
variable {N n : Nat} {b o : Obs} {i p : Nat} {t s r : List Nat} {c : Nat} {Q : V → Obs → Prop} {l : Loc} {ms : List (EM V)}

theorem c_symkind {w : List Nat} (q : Q (.str (symK (c :: w))) o) : WC N (n + 1) "" "symbol_kind" [.str (c :: w)] o Q := by
  refine W_symbol_kind ?_
  unfold B_symbol_kind
  rw [symK_cons] at q
  k_extra "mw"
  refine c_inT (strs_map opsL) ?_
  k_extra "mw"
  constructor
  · intro h
    k_extra "mw"
    rw [show isIn opsL (c :: w) = true from h] at q
    exact q
  · intro h
    rw [show isIn opsL (c :: w) = false from h] at q
    k_extra "mw"
    refine s_str (by decide) (c := c) rfl ?_
    k_extra "mw"
    rw [if_neg (by decide)] at q
    constructor
    · intro h'
      have : c = 58 := by simpa using h'
      rw [if_pos this] at q
      k_extra "mw"
      exact q
    · intro h'
      have : c ≠ 58 := by simpa using h'
      rw [if_neg this] at q
      k_extra "mw"
      exact q

theorem c_wend (h : St b o i t p []) (q : Q (.tup [.str kEnd, .str [], .none]) o) : WC N (n + 6) "" "read_word" [.ref i] o Q := by
  refine W_read_word ?_
  unfold B_read_word
  k_extra "mw"
  refine cond_t (by decide +kernel) ?_
  k_extra "mw"
  exact q

theorem c_wspecial {c : Nat} (hc : specL.contains c = true) (hN : 1000000 ≤ N) (h : St b o i t p ([c] ++ r)) (q : ∀ o', St b o' i t (p + [c].length) r → Q (.tup [.str kSpecial, .str [c], .none]) o') : WC N (n + 6) "" "read_word" [.ref i] o Q := by
  refine W_read_word ?_
  unfold B_read_word
  have hs := drop_slice h.dr
  simp only [List.cons_append, List.nil_append] at h
  k_extra "mw"
  refine cond_f rfl ?_
  k_extra "mw"
  refine cond_t hc ?_
  k_extra "mw"
  exact q _ (by assumption)
theorem c_wname {c : Nat} {w : List Nat} (hw : (c :: w).all letN.contains = true) (h1 : specL.contains c = false) (h2 : digL.contains c = false) (h3 : smallL.contains c = true) (hr : NotIn letN r) (hN : 1000000 ≤ N) (h : St b o i t p ((c :: w) ++ r)) (q : ∀ o', St b o' i t (p + (c :: w).length) r → Q (.tup [.str (nameK (c :: w)), .str (c :: w), .none]) o') : WC N (n + 6) "" "read_word" [.ref i] o Q := by
  refine W_read_word ?_
  unfold B_read_word
  have hs := drop_slice h.dr
  rw [List.cons_append] at h
  k_extra "mw"
  refine cond_f rfl ?_
  k_extra "mw"
  refine cond_f h1 ?_
  k_extra "mw"
  refine cond_f h2 ?_
  k_extra "mw"
  refine cond_t h3 ?_
  k_extra "mw"
  refine c_letters ?_
  k_extra "mw"
  refine c_take hN h (a := c :: w) rfl hw hr fun o2 H2 => ?_
  k_extra "mw"
  refine c_inT (strs_map keysL) ?_
  k_extra "mw"
  have q := q _ H2
  unfold nameK at q
  constructor
  · intro h'
    rw [show isIn keysL (c :: w) = true from h'] at q
    k_extra "mw"
    exact q
  · intro h'
    rw [show isIn keysL (c :: w) = false from h'] at q
    k_extra "mw"
    exact q
theorem c_wop {c : Nat} {w : List Nat} (hw : (c :: w).all symL.contains = true) (h1 : specL.contains c = false) (h2 : digL.contains c = false) (h3 : smallL.contains c = false) (h4 : greatL.contains c = false) (hr : NotIn symL r) (hN : 1000000 ≤ N) (h : St b o i t p ((c :: w) ++ r)) (q : ∀ o', St b o' i t (p + (c :: w).length) r → Q (.tup [.str (symK (c :: w)), .str (c :: w), .none]) o') : WC N (n + 6) "" "read_word" [.ref i] o Q := by
  refine W_read_word ?_
  unfold B_read_word
  have hs := drop_slice h.dr
  rw [List.cons_append] at h
  have h5 : symL.contains c = true := by simp only [List.all_cons, Bool.and_eq_true] at hw; exact hw.1
  k_extra "mw"
  refine cond_f rfl ?_
  k_extra "mw"
  refine cond_f h1 ?_
  k_extra "mw"
  refine cond_f h2 ?_
  k_extra "mw"
  refine cond_f h3 ?_
  k_extra "mw"
  refine cond_f h4 ?_
  k_extra "mw"
  refine cond_t h5 ?_
  k_extra "mw"
  refine c_take hN h (a := c :: w) rfl hw hr fun o2 H2 => ?_
  k_extra "mw"
  refine c_symkind ?_
  k_extra "mw"
  exact q _ H2
theorem c_wcharS {c : Nat} (hc : c ≠ 127 ∧ c ≠ 39 ∧ c ≠ 92) (hN : 1000000 ≤ N) (h : St b o i t p ([39, c, 39] ++ r)) (q : ∀ o', St b o' i t (p + [39, c, 39].length) r → Q (.tup [.str kChar, .str [39, c, 39], (.str [c])]) o') : WC N (n + 6) "" "read_word" [.ref i] o Q := by
  refine W_read_word ?_
  unfold B_read_word
  have hs := drop_slice h.dr
  simp only [List.cons_append, List.nil_append] at h
  k_extra "mw"
  refine cond_f (by decide +kernel) ?_
  k_extra "mw"
  refine cond_f (by decide +kernel) ?_
  k_extra "mw"
  refine cond_f (by decide +kernel) ?_
  k_extra "mw"
  refine cond_f (by decide +kernel) ?_
  k_extra "mw"
  refine cond_f (by decide +kernel) ?_
  k_extra "mw"
  refine cond_f (by decide +kernel) ?_
  k_extra "mw"
  refine cond_t (by decide +kernel) ?_
  k_extra "mw"
  refine c_char_sign h hc fun o2 H2 => ?_
  k_extra "mw"
  refine sl_nat H2.le ?_
  k_extra "mw"
  rw [show (t.take (p + 3)).drop p = _ from hs]
  exact q _ H2
theorem c_wcharE {body : List Nat} {num : Nat} (E : EscR (39 :: r) body num) (hN : 1000000 ≤ N) (h : St b o i t p ((39 :: 92 :: body ++ [39]) ++ r)) (q : ∀ o', St b o' i t (p + (39 :: 92 :: body ++ [39]).length) r → Q (.tup [.str kChar, .str (39 :: 92 :: body ++ [39]), (.str [num])]) o') : WC N (n + 6) "" "read_word" [.ref i] o Q := by
  refine W_read_word ?_
  unfold B_read_word
  have hs := drop_slice h.dr
  simp only [List.cons_append, List.nil_append, List.append_assoc] at h
  k_extra "mw"
  refine cond_f (by decide +kernel) ?_
  k_extra "mw"
  refine cond_f (by decide +kernel) ?_
  k_extra "mw"
  refine cond_f (by decide +kernel) ?_
  k_extra "mw"
  refine cond_f (by decide +kernel) ?_
  k_extra "mw"
  refine cond_f (by decide +kernel) ?_
  k_extra "mw"
  refine cond_f (by decide +kernel) ?_
  k_extra "mw"
  refine cond_t (by decide +kernel) ?_
  k_extra "mw"
  refine c_char_esc hN h E fun o2 H2 => ?_
  k_extra "mw"
  refine sl_nat H2.le ?_
  k_extra "mw"
  have e : p + (39 :: 92 :: body ++ [39]).length = p + (body.length + 3) := by simp
  rw [e] at hs q
  rw [hs]
  exact q _ H2
theorem c_wtext {raw val : List Nat} (T : TextR (34 :: r) raw val) (hr : raw.length < 10000) (hN : 1000000 ≤ N) (h : St b o i t p ((34 :: raw ++ [34]) ++ r)) (q : ∀ o', St b o' i t (p + (34 :: raw ++ [34]).length) r → Q (.tup [.str kText, .str (34 :: raw ++ [34]), (.str val)]) o') : WC N (n + 6) "" "read_word" [.ref i] o Q := by
  refine W_read_word ?_
  unfold B_read_word
  have hs := drop_slice h.dr
  simp only [List.cons_append, List.nil_append, List.append_assoc] at h
  k_extra "mw"
  refine cond_f (by decide +kernel) ?_
  k_extra "mw"
  refine cond_f (by decide +kernel) ?_
  k_extra "mw"
  refine cond_f (by decide +kernel) ?_
  k_extra "mw"
  refine cond_f (by decide +kernel) ?_
  k_extra "mw"
  refine cond_f (by decide +kernel) ?_
  k_extra "mw"
  refine cond_f (by decide +kernel) ?_
  k_extra "mw"
  refine cond_f (by decide +kernel) ?_
  k_extra "mw"
  refine cond_t (by decide +kernel) ?_
  k_extra "mw"
  refine c_text hN h hr T fun o2 H2 => ?_
  k_extra "mw"
  refine sl_nat H2.le ?_
  k_extra "mw"
  have e : p + (34 :: raw ++ [34]).length = p + (raw.length + 2) := by simp
  rw [e] at hs q
  rw [hs]
  exact q _ H2
theorem c_word {k w : List Nat} {v : V} (hN : 1000000 ≤ N) (h : St b o i t p (w ++ r)) (W : WordR r k w v) (q : ∀ o', St b o' i t (p + w.length) r → Q (.tup [.str k, .str w, v]) o') : WC N (n + 6) "" "read_word" [.ref i] o Q := by
  cases W with
  | special hc => exact c_wspecial hc hN h q
  | name hw h1 h2 h3 hr => exact c_wname hw h1 h2 h3 hr hN h q
  | op hw h1 h2 h3 h4 hr => exact c_wop hw h1 h2 h3 h4 hr hN h q
  | charS hc => exact c_wcharS hc hN h q
  | charE E => exact c_wcharE E hN h q
  | text T hr => exact c_wtext T hr hN h q
end

theorem putL_len {α : Type} {x : Str} {v : α} : ∀ {l : List (Str × α)}, (putL x v l).length ≤ l.length + 1
  | [] => by simp [putL]
  | (y, w) :: r => by
    unfold putL
    split
    · simp
    · have := putL_len (x := x) (v := v) (l := r)
      simp only [List.length_cons]; omega
structure WFs (fs : List (Str × V)) (k w v : V) (ln col : V) : Prop where
  kind : G fs "kind" k
  text : G fs "text" w
  value : G fs "value" v
  line : G fs "line" ln
  column : G fs "column" col

section
variable {N n : Nat} {b o : Obs} {i p : Nat} {t s r : List Nat} {c : Nat} {Q : V → Obs → Prop} {l : Loc} {ms : List (EM V)}

theorem fld_step {a m : EM V} {f cl : Str} {v : V} {fs : List (Str × V)} {R : SM} {Q : Fl → Loc → Obs → Prop} {k : Nat} (hk : fs.length ≤ k) (hk2 : k < 50) (ho : o[i]? = some (.inst cl fs)) (hm : ∀ P : V → Obs → Prop, P v o → WE m l o P) (ha : ∀ P : V → Obs → Prop, P (.ref i) o → WE a l o P)
    (q : (o.set i (.inst cl (putL f v fs)))[i]? = some (.inst cl (putL f v fs)) → (putL f v fs).length ≤ k + 1 → WS R l (o.set i (.inst cl (putL f v fs))) Q) : WS (thenS (setAttrM a f m) R) l o Q := by
  refine t_then (t_setattr (hm _ (ha _ (ex_fld ho (by omega) (then_next (q (get_set ho) ?_))))))
  have := putL_len (x := f) (v := v) (l := fs)
  omega

theorem c_newword {a1 a2 a3 a4 a5 a6 a7 : V} (h : o[i]? = some (.inst "Word" [])) (q : ∀ fs, WFs fs a1 a2 a5 a3 a4 → Q .none (o.set i (.inst "Word" fs))) : WC N (n + 1) "Word" "__init__" [.ref i, a1, a2, a3, a4, a5, a6, a7] o Q := by
  refine W_Word_init ?_
  unfold B_Word_init
  refine fld_step (k := 0) (by simp) (by omega) h (fun P p => w_loc (by k_extra "lk") p) (fun P p => w_loc (by k_extra "lk") p) fun h k => ?_
  refine fld_step k (by omega) h (fun P p => w_loc (by k_extra "lk") p) (fun P p => w_loc (by k_extra "lk") p) fun h k => ?_
  refine fld_step k (by omega) h (fun P p => w_loc (by k_extra "lk") p) (fun P p => w_loc (by k_extra "lk") p) fun h k => ?_
  refine fld_step k (by omega) h (fun P p => w_loc (by k_extra "lk") p) (fun P p => w_loc (by k_extra "lk") p) fun h k => ?_
  refine fld_step k (by omega) h (fun P p => w_loc (by k_extra "lk") p) (fun P p => w_loc (by k_extra "lk") p) fun h k => ?_
  refine fld_step k (by omega) h (fun P p => w_loc (by k_extra "lk") p) (fun P p => w_loc (by k_extra "lk") p) fun h k => ?_
  refine fld_step k (by omega) h (fun P p => w_loc (by k_extra "lk") p) (fun P p => w_loc (by k_extra "lk") p) fun h k => ?_
  simp only [List.set_set]
  refine t_next (end_next (q _ ⟨by k_extra "lk", by k_extra "lk", by k_extra "lk", by k_extra "lk", by k_extra "lk"⟩))

theorem sg_new {t : List Nat} : putL "column" (.int 1) (putL "line" (.int 1) (putL "at" (.int 0) (putL "text" (.str t) []))) = [(Str.ofString "text", V.str t), ("at", .int (0 : Nat)), ("line", .int 1), ("column", .int ((0 : Nat) + 1))] := by kernel_rfl
theorem c_newsigns (h : o[i]? = some (.inst "Signs" [])) (q : Q .none (o.set i (sgO t 0))) : WC N (n + 1) "Signs" "__init__" [.ref i, .str t] o Q := by
  refine W_Signs_init ?_
  unfold B_Signs_init
  refine fld_step (k := 0) (by simp) (by omega) h (fun P p => w_loc (by k_extra "lk") p) (fun P p => w_loc (by k_extra "lk") p) fun h k => ?_
  refine fld_step k (by omega) h (fun P p => w_ret p) (fun P p => w_loc (by k_extra "lk") p) fun h k => ?_
  refine fld_step k (by omega) h (fun P p => w_ret p) (fun P p => w_loc (by k_extra "lk") p) fun h k => ?_
  refine fld_step k (by omega) h (fun P p => w_ret p) (fun P p => w_loc (by k_extra "lk") p) fun h k => ?_
  simp only [List.set_set]
  rw [sg_new]
  exact t_next (end_next q)

theorem c_eqNil {j : Nat} {xs : List V} (h : o[i]? = some (.list xs)) (h2 : o[j]? = some (.list [])) (q : Q (.bool xs.isEmpty) o) : CmpW .Eq (.ref i) (.ref j) o Q := ⟨_, by show cmpEq (.ref i) (.ref j) o = _; unfold cmpEq; simp only [h, h2], q⟩
end

structure It where
  k : List Nat
  w : List Nat
  v : V
structure Du where
  k : List Nat
  w : List Nat
  v : V
  col : Nat
noncomputable def tailW : List It → List Nat
  | [] => []
  | x :: r => 32 :: (x.w ++ tailW r)
noncomputable def headW : List It → List Nat
  | [] => []
  | x :: r => x.w ++ tailW r
inductive RowR : List It → Prop
  | nil : RowR []
  | cons {x : It} {r : List It} (W : WordR (tailW r) x.k x.w x.v) (S : StartOk (x.w ++ tailW r)) (q : RowR r) : RowR (x :: r)
noncomputable def dueD (c : Nat) : List It → List Du
  | [] => []
  | x :: r => ⟨x.k, x.w, x.v, c + 1⟩ :: dueD (c + x.w.length + 1) r
noncomputable def cEnd (c : Nat) : List It → Nat
  | [] => c
  | x :: r => cEnd (c + x.w.length + 1) r
noncomputable def dueAll (ws : List It) : List Du := dueD 0 ws ++ [⟨kEnd, [], .none, cEnd 0 ws - 1 + 1⟩]
theorem dueD_append {x : It} : ∀ {c : Nat} {a : List It}, dueD c (a ++ [x]) = dueD c a ++ [⟨x.k, x.w, x.v, cEnd c a + 1⟩]
  | c, [] => rfl
  | c, y :: a => by simp only [List.cons_append, dueD, cEnd, dueD_append]
theorem cEnd_append {x : It} : ∀ {c : Nat} {a : List It}, cEnd c (a ++ [x]) = cEnd c a + x.w.length + 1
  | c, [] => rfl
  | c, y :: a => by simp only [List.cons_append, cEnd, cEnd_append]
theorem start_nil : StartOk [] := ⟨fun _ _ h => (by cases h), rfl, rfl⟩
theorem kind_ne {r k w : List Nat} {v : V} (h : WordR r k w v) : k ≠ kEnd := by
  cases h with
  | special => decide
  | name => unfold nameK; split <;> decide
  | op => unfold symK; split <;> (try split) <;> decide
  | charS => decide
  | charE => decide
  | text => decide

noncomputable def WordAt (o : Obs) (i j : Nat) (x : V) (d : Du) : Prop := ∃ m fs, x = .ref m ∧ m ≠ i ∧ m ≠ j ∧ o[m]? = some (.inst "Word" fs) ∧ WFs fs (.str d.k) (.str d.w) d.v (.int 1) (.int d.col)
inductive WordsAt (o : Obs) (i j : Nat) : List V → List Du → Prop
  | nil : WordsAt o i j [] []
  | cons {x : V} {d : Du} {xs : List V} {ds : List Du} (h : WordAt o i j x d) (q : WordsAt o i j xs ds) : WordsAt o i j (x :: xs) (d :: ds)
theorem WordAt.ag {o o' : Obs} {i j : Nat} {x : V} {d : Du} (a : Ag [i, j] o o') (h : WordAt o i j x d) : WordAt o' i j x d := by
  obtain ⟨m, fs, h1, h2, h3, h4, h5⟩ := h
  exact ⟨m, fs, h1, h2, h3, a.get h4 (by simp; exact ⟨h2, h3⟩), h5⟩
theorem WordsAt.ag {o o' : Obs} {i j : Nat} {xs : List V} {ds : List Du} (a : Ag [i, j] o o') (h : WordsAt o i j xs ds) : WordsAt o' i j xs ds := by
  induction h with
  | nil => exact .nil
  | cons h _ ih => exact .cons (h.ag a) ih
theorem WordsAt.snoc {o : Obs} {i j : Nat} {xs : List V} {ds : List Du} {x : V} {d : Du} (h : WordsAt o i j xs ds) (k : WordAt o i j x d) : WordsAt o i j (xs ++ [x]) (ds ++ [d]) := by
  induction h with
  | nil => exact .cons k .nil
  | cons h _ ih => exact .cons h ih
theorem WordsAt.len {o : Obs} {i j : Nat} {xs : List V} {ds : List Du} (h : WordsAt o i j xs ds) : xs.length = ds.length := by
  induction h with
  | nil => rfl
  | cons h _ ih => simp [ih]
theorem Ag.wide {W W' : List Nat} {o o' : Obs} (a : Ag W o o') (h : ∀ x ∈ W, x ∈ W') : Ag W' o o' := ⟨a.le, fun j hj n => a.ag j hj fun q => n (h j q)⟩

section
variable {N n : Nat} {b o : Obs} {i j p p2 : Nat} {t s s' s2 : List Nat} {c : Nat} {Q : V → Obs → Prop} {l : Loc} {ms : List (EM V)}

theorem words_turn {bl k w : List Nat} {v : V} {fb : Bool} {rs : List V} {Q : Fl → Loc → Obs → Prop} (hN : 1000000 ≤ N) (hb : bl = [] ∨ bl = [32]) (l1 : G l "signs" (.ref i)) (l2 : G l "found" (.ref j)) (l3 : G l "is_first" (.bool fb)) (h : St b o i t p (bl ++ s')) (hs : StartOk s') (hl : o[j]? = some (.list rs)) (hr : rs.length < 1000) (hij : j ≠ i) (hbj : b.length ≤ j)
    (read : ∀ (o1 : Obs) (R : V → Obs → Prop), St o o1 i t (p + bl.length) s' → (∀ o', St o o' i t p2 s2 → R (.tup [.str k, .str w, v]) o') → WC N (n + 6) "" "read_word" [.ref i] o1 R)
    (q : ∀ l' o' (m : Nat), G l' "signs" (.ref i) → G l' "found" (.ref j) → G l' "is_first" (.bool false) → St b o' i t p2 s2 → o'[j]? = some (.list (rs ++ [.ref m])) → Ag [i, j] o o' → WordAt o' i j (.ref m) ⟨k, w, v, p + bl.length + 1⟩ → Q .next l' o') :
    WS (thenS (assignM "is_first" (orM [(funM (cfg N (n + 6)) "skip_between" [(locM "signs")]), (locM "is_first")])) (thenS (unpackM ["line", "column"] (methM (cfg N (n + 6)) "place" (locM "signs") [])) (thenS (unpackM ["kind", "name", "value"] (funM (cfg N (n + 6)) "read_word" [(locM "signs")])) (thenS (exprM (methM (cfg N (n + 6)) "append" (locM "found") [(newM (cfg N (n + 6)) "Word" [(locM "kind"), (locM "name"), (locM "line"), (locM "column"), (locM "value"), (locM "is_first"), (methM (cfg N (n + 6)) "place" (locM "signs") [])])])) (thenS (assignM "is_first" (retE (.bool false))) nextS))))) l o Q := by
  have keep := And.intro h hl
  replace h := h.re
  k_extra "mw"
  refine c_skip hN h rfl hb hs fun o1 h1 => ?_
  k_extra "mw"
  refine read o1 _ h1 fun o2 h2 => ?_
  clear h h1
  have hl2 : o2[j]? = some (.list rs) := h2.ag.get hl (by simpa using hij)
  k_extra "mw"
  refine m_app hl2 ?_
  k_extra "mw"
  refine c_newword get_push fun fs hfs => ?_
  refine ⟨rfl, ?_⟩
  have hlt : j < o2.length := lt_of_get hl2
  have hit : i < o2.length := lt_of_get h2.ob
  have e : (o2 ++ [Ob.inst "Word" []]).set o2.length (.inst "Word" fs) = o2 ++ [.inst "Word" fs] := by
    rw [List.set_append_right _ _ (Nat.le_refl _)]; simp
  rw [e]
  have hl3 : (o2 ++ [Ob.inst "Word" fs])[j]? = some (.list rs) := by rw [List.getElem?_append_left hlt]; exact hl2
  k_extra "mw"
  refine ex_app hl3 (by omega) ?_
  k_extra "mw"
  have hij2 : o2.length ≠ j := by omega
  have hii2 : o2.length ≠ i := by omega
  refine q _ _ o2.length (by k_extra "lk") (by k_extra "lk") (by k_extra "lk") ((keep.1.tr h2).push.set hij hbj) (get_set hl3) ?_ ?_
  · exact (((h2.ag.wide (by simp)).push).set (.inl (by simp)))
  · refine ⟨o2.length, fs, rfl, hii2, hij2, ?_, ?_⟩
    · rw [List.getElem?_set_ne (by omega)]; exact get_push
    · exact hfs
end

theorem head_split (rest : List It) : tailW rest = (if rest = [] then [] else [32]) ++ headW rest := by
  cases rest with
  | nil => rfl
  | cons x r => rfl
section
variable {N n : Nat} {b o : Obs} {i j p p2 : Nat} {t s s' s2 : List Nat} {c : Nat} {Q : V → Obs → Prop} {l : Loc} {ms : List (EM V)}

structure TurnI (ws : List It) (b : Obs) (i j : Nat) (t : List Nat) (done rest : List It) (rs : List V) (l : Loc) (o : Obs) : Prop where
  ws : ws = done ++ rest
  l1 : G l "signs" (.ref i)
  l2 : G l "found" (.ref j)
  l3 : ∃ fb, G l "is_first" (.bool fb)
  st : ∃ bl p, (bl = [] ∨ bl = [32]) ∧ St b o i t p (bl ++ headW rest) ∧ (rest ≠ [] → p + bl.length = cEnd 0 done) ∧ (rest = [] → bl = [] ∧ p = cEnd 0 done - 1)
  row : RowR rest
  kinds : ∀ d ∈ dueD 0 done, d.k ≠ kEnd
  ls : o[j]? = some (.list rs)
  wa : WordsAt o i j rs (dueD 0 done)

theorem last_due {o : Obs} {rs : List V} {ds : List Du} (h : WordsAt o i j rs ds) (hn : rs ≠ []) : ∃ rs' x ds' d, rs = rs' ++ [x] ∧ ds = ds' ++ [d] ∧ WordAt o i j x d := by
  induction h with
  | nil => exact absurd rfl hn
  | cons h q ih =>
    rename_i x d xs ds
    cases q with
    | nil => exact ⟨[], x, [], d, rfl, rfl, h⟩
    | cons h' q' =>
      obtain ⟨rs', x', ds', d', e1, e2, h2⟩ := ih (by simp)
      exact ⟨x :: rs', x', d :: ds', d', by rw [e1]; rfl, by rw [e2]; rfl, h2⟩

theorem found_test {rs : List V} {ds : List Du} {Q : Bool → Obs → Prop} (l2 : G l "found" (.ref j)) (hl : o[j]? = some (.list rs)) (wa : WordsAt o i j rs ds) (hn : rs ≠ []) {ds' : List Du} {d : Du} (hd : ds = ds' ++ [d]) (q : Q (d.k != kEnd) (o ++ [.list []])) :
    WE (orT [(testM (cmpM .Eq (locM "found") (listM []))), (testM (cmpM .NotEq (attrM (subM (locM "found") (negM (retE (.int 1)))) "kind") (retE (.str [101, 110, 100]))))]) l o Q := by
  obtain ⟨rs', x, ds2, d2, rfl, e2, m, fs, rfl, n1, n2, ho, hf⟩ := last_due wa hn
  rw [hd] at e2
  obtain ⟨-, e2⟩ := List.append_inj_right' e2 rfl |> fun e => (⟨trivial, by simpa using e⟩ : True ∧ d = d2)
  subst e2
  k_extra "mw"
  refine c_eqNil (by rw [List.getElem?_append_left (lt_of_get hl)]; exact hl) get_push ?_
  k_extra "mw"
  refine cond_f (by cases rs' <;> rfl) ?_
  k_extra "mw"
  refine s_last (by rw [List.getElem?_append_left (lt_of_get hl)]; exact hl) ?_
  k_extra "mw"
  refine a_inst (by rw [List.getElem?_append_left (lt_of_get ho)]; exact ho) hf.kind ?_
  k_extra "mw"
  cases hb : ([d.k] : List (List Nat)) with
  | nil => cases hb
  | cons _ _ =>
    have : (d.k != [101, 110, 100]) = (d.k != kEnd) := rfl
    rw [this]
    cases hk : (d.k != kEnd) with
    | true => rw [hk] at q; exact cond_t rfl q
    | false => rw [hk] at q; exact cond_f rfl (w_orT0 q)
theorem found_test0 {Q : Bool → Obs → Prop} (l2 : G l "found" (.ref j)) (hl : o[j]? = some (.list [])) (q : Q true (o ++ [.list []])) :
    WE (orT [(testM (cmpM .Eq (locM "found") (listM []))), (testM (cmpM .NotEq (attrM (subM (locM "found") (negM (retE (.int 1)))) "kind") (retE (.str [101, 110, 100]))))]) l o Q := by
  k_extra "mw"
  refine c_eqNil (by rw [List.getElem?_append_left (lt_of_get hl)]; exact hl) get_push ?_
  k_extra "mw"
  refine cond_t rfl ?_
  exact q

theorem c_words {ws : List It} (hN : 1000000 ≤ N) (R : RowR ws) (hws : ws.length < 900) (ht : (headW ws).length < 1000000) (hp : ∀ x ∈ headW ws, 32 ≤ x)
    (q : ∀ o' i j rs, Ag [] o o' → o'[j]? = some (.list rs) → WordsAt o' i j rs (dueAll ws) → o.length ≤ j → Q (.ref j) o') : WC N (n + 7) "" "words_of" [.str (headW ws)] o Q := by
  refine W_words_of ?_
  unfold B_words_of
  k_extra "mw"
  refine c_newsigns get_push ?_
  refine ⟨rfl, ?_⟩
  have e : (o ++ [Ob.inst "Signs" []]).set o.length (sgO (headW ws) 0) = o ++ [sgO (headW ws) 0] := by
    rw [List.set_append_right _ _ (Nat.le_refl _)]; simp
  rw [e]
  k_extra "mw"
  have hst : St o ((o ++ [sgO (headW ws) 0]) ++ [.list []]) o.length (headW ws) 0 (headW ws) :=
    ⟨by rw [List.getElem?_append_left (by simp)]; exact get_push, rfl, ht, hp, ((Ag.refl _ _).push).push⟩
  have hjl : ((o ++ [sgO (headW ws) 0]) ++ [Ob.list []])[(o ++ [sgO (headW ws) 0]).length]? = some (.list []) := get_push
  have hj : (o ++ [sgO (headW ws) 0]).length = o.length + 1 := by simp
  generalize (o ++ [sgO (headW ws) 0]).length = j at hjl hj ⊢
  generalize (o ++ [sgO (headW ws) 0]) ++ [Ob.list []] = o1 at hst hjl ⊢
  refine t_while (k := ws.length + 1) (fun k l o' => (∃ done rest rs, k = rest.length + 1 ∧ TurnI ws o o.length j (headW ws) done rest rs l o') ∨
    (k = 0 ∧ G l "found" (.ref j) ∧ ∃ rs, Ag [o.length] o o' ∧ o'[j]? = some (.list rs) ∧ WordsAt o' o.length j rs (dueAll ws))) (by omega)
    (.inl ⟨[], ws, [], rfl, rfl, by k_extra "lk", by k_extra "lk", ⟨_, by k_extra "lk"⟩, ⟨[], 0, .inl rfl, hst, fun _ => rfl, fun _ => ⟨rfl, rfl⟩⟩, R, by simp [dueD], hjl, .nil⟩) ?_
  rintro k l o' (⟨done, rest, rs, rfl, T⟩ | ⟨rfl, l2, rs, ag, hl, wa⟩)
  · obtain ⟨e1, l1, l2, ⟨fb, l3⟩, ⟨bl, p, hb, st, hp1, hp2⟩, row, kinds, ls, wa⟩ := T
    have hrs : rs.length < 1000 := by
      have := wa.len
      have h2 : ∀ (c : Nat) (a : List It), (dueD c a).length = a.length := by
        intro c a
        induction a generalizing c with
        | nil => rfl
        | cons x a ih => simp [dueD, ih]
      rw [h2] at this
      have : ws.length = done.length + rest.length := by rw [e1]; simp
      omega
    have push_ls : (o' ++ [Ob.list []])[j]? = some (.list rs) := by rw [List.getElem?_append_left (lt_of_get ls)]; exact ls
    have push_ag : Ag [o.length, j] o' (o' ++ [Ob.list []]) := (Ag.refl _ _).push
    have go : WE (orT [(testM (cmpM .Eq (locM "found") (listM []))), (testM (cmpM .NotEq (attrM (subM (locM "found") (negM (retE (.int 1)))) "kind") (retE (.str [101, 110, 100]))))]) l o' fun c o₁ => c = true ∧ o₁ = o' ++ [.list []] := by
      by_cases hn : rs = []
      · subst hn
        exact found_test0 l2 ls ⟨rfl, rfl⟩
      · obtain ⟨rs', x, ds', d, h1, h2, h3⟩ := last_due wa hn
        refine found_test l2 ls wa hn h2 ⟨?_, rfl⟩
        have := kinds d (by rw [h2]; simp)
        simpa using this
    refine go.mono ?_
    rintro c o₁ ⟨rfl, rfl⟩
    refine cond_t rfl ?_
    cases rest with
    | nil =>
      obtain ⟨rfl, rfl⟩ := hp2 rfl
      refine words_turn (bl := []) (s' := []) (s2 := []) (p2 := cEnd 0 done - 1) (k := kEnd) (w := []) (v := .none) hN (.inl rfl) l1 l2 l3 st.push start_nil push_ls hrs (by omega) (by omega) ?_ ?_
      · intro o1 R h q
        exact c_wend h (q _ h)
      · intro l' o2 m g1 g2 g3 st' ls' ag' wa'
        refine ⟨0, by simp, .inr ⟨rfl, g2, rs ++ [.ref m], st'.ag, ls', ?_⟩⟩
        have := ((wa.ag push_ag).ag ag').snoc wa'
        rw [e1, List.append_nil]
        exact this
    | cons x r =>
      have hp1 := hp1 (by simp)
      cases row with
      | cons W S row =>
        have hsp := head_split r
        refine words_turn (bl := bl) (s' := x.w ++ tailW r) (s2 := tailW r) (p2 := cEnd 0 done + x.w.length) (k := x.k) (w := x.w) (v := x.v) hN hb l1 l2 l3 st.push S push_ls hrs (by omega) (by omega) ?_ ?_
        · intro o1 R h q
          exact c_word hN h W fun o' h' => q o' (h'.cast (by omega) rfl)
        · intro l' o2 m g1 g2 g3 st' ls' ag' wa'
          refine ⟨r.length + 1, by simp, .inl ⟨done ++ [x], r, rs ++ [.ref m], rfl, by rw [e1]; simp, g1, g2, ⟨_, g3⟩, ?_, row, ?_, ls', ?_⟩⟩
          · rw [hsp] at st'
            refine ⟨_, _, ?_, st', ?_, ?_⟩
            · split
              · exact .inl rfl
              · exact .inr rfl
            · intro hr
              rw [if_neg hr, cEnd_append]; rfl
            · intro hr
              subst hr
              refine ⟨rfl, ?_⟩
              rw [cEnd_append]; rfl
          · rw [dueD_append]
            intro d hd
            rcases List.mem_append.mp hd with hd | hd
            · exact kinds d hd
            · simp only [List.mem_singleton] at hd
              subst hd
              exact kind_ne W
          · rw [dueD_append]
            rw [show p + bl.length + 1 = cEnd 0 done + 1 by omega] at wa'
            exact ((wa.ag push_ag).ag ag').snoc wa'
  · have hne : rs ≠ [] := by
      rintro rfl
      have := wa.len
      unfold dueAll at this
      simp at this
    refine (found_test (Q := fun c o₁ => c = false ∧ o₁ = o' ++ [.list []]) l2 hl wa hne rfl ⟨rfl, rfl⟩).mono ?_
    rintro c o₁ ⟨rfl, rfl⟩
    refine cond_f rfl ?_
    k_extra "mw"
    refine q _ o.length j rs ?_ ?_ ?_ (by omega)
    · refine ⟨by have := ag.le; simp; omega, fun z hz _ => ?_⟩
      have := ag.le
      rw [List.getElem?_append_left (by omega)]
      exact ag.ag z hz (by simp; omega)
    · rw [List.getElem?_append_left (lt_of_get hl)]; exact hl
    · exact wa.ag (Ag.refl _ _).push
end

noncomputable def trO (a c : Int) : Ob := .list [.int a, .int c]
noncomputable def TrAt (o : Obs) (k : Nat) : Prop := ∃ a c : Int, o[k]? = some (trO a c) ∧ 0 ≤ a ∧ 0 ≤ c ∧ c < 2147483399
theorem TrAt.ag {o o' : Obs} {k : Nat} {W : List Nat} (a : Ag W o o') (n : k ∉ W) (h : TrAt o k) : TrAt o' k := by
  obtain ⟨x, y, h, r⟩ := h
  exact ⟨x, y, a.get h n, r⟩
theorem TrAt.lt {o : Obs} {k : Nat} (h : TrAt o k) : k < o.length := by
  obtain ⟨x, y, h, r⟩ := h
  exact lt_of_get h
theorem Ag.nil {W : List Nat} {o o' : Obs} (a : Ag [] o o') : Ag W o o' := ⟨a.le, fun j hj n => a.ag j hj (by simp)⟩
section
variable {N n : Nat} {b o : Obs} {i k p : Nat} {t s r : List Nat} {c : Nat} {Q : V → Obs → Prop} {l : Loc} {ms : List (EM V)}

theorem c_pull {m : Nat} (hm : 0 < m ∧ m < 2 ^ 31) (h : TrAt o k) (q : ∀ (v : Nat) o', v < m → Ag [k] o o' → TrAt o' k → Q (.int v) o') : WC N (n + 1) "" "_law_pull" [.ref k, .int m] o Q := by
  obtain ⟨a, d, h, ha, hd, hd2⟩ := h
  refine W_law_pull ?_
  unfold B_law_pull
  k_extra "mw"
  refine s_list h (by omega) (c := .int a) rfl ?_
  k_extra "mw"
  constructor
  · intro h0
    have h0 := of_decide_eq_true h0
    k_extra "mw"
    refine s_list h (by omega) (c := .int a) rfl ?_
    k_extra "mw"
    refine b_modI (by omega) ?_
    k_extra "mw"
    refine s_list h (by omega) (c := .int a) rfl ?_
    k_extra "mw"
    refine b_divI (by omega) ?_
    k_extra "mw"
    refine ⟨_, _, _, rfl, rfl, h, by simp, ?_⟩
    k_extra "mw"
    rw [Int.fmod_eq_emod_of_nonneg _ (by omega)]
    have h1 := Int.emod_nonneg a (b := m) (by omega)
    have h2 := Int.emod_lt_of_pos a (b := m) (by omega)
    have := q (a % (m : Int)).toNat (o.set k (.list [.int (a.fdiv m), .int d])) (by omega) ((Ag.refl _ _).set (.inl (by simp))) ⟨_, _, get_set h, by
      rw [Int.fdiv_eq_ediv_of_nonneg _ (by omega)]
      exact Int.ediv_nonneg ha (by omega), hd, hd2⟩
    rw [Int.toNat_of_nonneg h1] at this
    exact this
  · intro h0
    k_extra "mw"
    refine s_list h (by omega) (c := .int d) rfl ?_
    k_extra "mw"
    constructor
    · intro _
      k_extra "mw"
      exact q 0 o hm.1 (Ag.refl _ _) ⟨_, _, h, ha, hd, hd2⟩
    · intro h1
      k_extra "mw"
      refine s_list h (by omega) (c := .int d) rfl ?_
      k_extra "mw"
      refine b_mulI (by omega) ?_
      k_extra "mw"
      refine b_modI (by omega) ?_
      k_extra "mw"
      refine ⟨_, _, _, rfl, rfl, h, by simp, ?_⟩
      k_extra "mw"
      rw [Int.fmod_eq_emod_of_nonneg _ (by omega)]
      have e0 := Int.emod_nonneg (d * 40692 + 79) (b := 2147483399) (by omega)
      have e1 := Int.emod_lt_of_pos (d * 40692 + 79) (b := 2147483399) (by omega)
      have h' : (o.set k (.list [.int a, .int ((d * 40692 + 79) % 2147483399)]))[k]? = some (trO a ((d * 40692 + 79) % 2147483399)) := get_set h
      refine s_list h' (by omega) (c := .int ((d * 40692 + 79) % 2147483399)) rfl ?_
      k_extra "mw"
      refine b_divI (by omega) ?_
      k_extra "mw"
      refine b_modI (by omega) ?_
      k_extra "mw"
      rw [Int.fmod_eq_emod_of_nonneg _ (by omega)]
      generalize hz : ((d * 40692 + 79) % 2147483399).fdiv 32 = z
      have h2 := Int.emod_nonneg z (b := m) (by omega)
      have h3 := Int.emod_lt_of_pos z (b := m) (by omega)
      have := q (z % (m : Int)).toNat _ (by omega) ((Ag.refl _ _).set (.inl (by simp))) ⟨_, _, h', ha, e0, e1⟩
      rw [Int.toNat_of_nonneg h2] at this
      exact this

theorem c_oneL {j : Nat} {xs : List V} (hj : o[j]? = some (.list xs)) (hn : 0 < xs.length) (hn2 : xs.length < 1000) (hjk : j ≠ k) (h : TrAt o k) (q : ∀ x o', x ∈ xs → Ag [k] o o' → TrAt o' k → Q x o') : WC N (n + 2) "" "_law_one" [.ref k, .ref j] o Q := by
  refine W_law_one ?_
  unfold B_law_one
  k_extra "mw"
  refine bl_lenL hj (by omega) ?_
  k_extra "mw"
  refine c_pull (by omega) h fun v o' hv ag tr => ?_
  k_extra "mw"
  have hv' : xs[v]? = some xs[v] := List.getElem?_eq_getElem hv
  refine s_list (ag.get hj (by simpa using hjk)) (by omega) (c := xs[v]) hv' ?_
  k_extra "mw"
  exact q _ _ (List.getElem_mem hv) ag tr
theorem c_oneS {xs : List Nat} (hn : 0 < xs.length) (hn2 : xs.length < 1000) (h : TrAt o k) (q : ∀ x o', x ∈ xs → Ag [k] o o' → TrAt o' k → Q (.str [x]) o') : WC N (n + 2) "" "_law_one" [.ref k, .str xs] o Q := by
  refine W_law_one ?_
  unfold B_law_one
  k_extra "mw"
  refine bl_lenS (by omega) ?_
  k_extra "mw"
  refine c_pull (by omega) h fun v o' hv ag tr => ?_
  k_extra "mw"
  have hv' : xs[v]? = some xs[v] := List.getElem?_eq_getElem hv
  refine s_str (by omega) (c := xs[v]) hv' ?_
  k_extra "mw"
  exact q _ _ (List.getElem_mem hv) ag tr

noncomputable def toldN : List Nat := [78, 85, 76, 32, 83, 79, 72, 32, 83, 84, 88, 32, 69, 84, 88, 32, 69, 79, 84, 32, 69, 78, 81, 32, 65, 67, 75, 32, 66, 69, 76, 32, 66, 83, 32, 72, 84, 32, 76, 70, 32, 86, 84, 32, 70, 70, 32, 67, 82, 32, 83, 79, 32, 83, 73, 32, 68, 76, 69, 32, 68, 67, 49, 32, 68, 67, 50, 32, 68, 67, 51, 32, 68, 67, 52, 32, 78, 65, 75, 32, 83, 89, 78, 32, 69, 84, 66, 32, 67, 65, 78, 32, 69, 77, 32, 83, 85, 66, 32, 69, 83, 67]
theorem split_named : splitSp toldN ++ [[70, 83], [71, 83], [82, 83], [85, 83], [83, 80]] = namedL := by decide +kernel
theorem split_ok : splitOk toldN = true := by decide +kernel
theorem c_lnamed (q : ∀ o' j, Ag [] o o' → o.length ≤ j → o'[j]? = some (.list (namedL.map .str)) → Q (.ref j) o') : WC N (n + 1) "" "_law_named" [] o Q := by
  refine W_law_named ?_
  unfold B_law_named
  k_extra "mw"
  refine m_split ?_
  k_extra "mw"
  refine ⟨rfl, ⟨split_ok, by decide⟩, ?_⟩
  k_extra "mw"
  have e1 : ((o ++ [Ob.list ((splitSp toldN).map .str)]) ++ [Ob.list [.str [70, 83], .str [71, 83], .str [82, 83], .str [85, 83], .str [83, 80]]])[o.length]? = some (.list ((splitSp toldN).map .str)) := by
    rw [List.getElem?_append_left (by simp)]; exact get_push
  refine b_addL e1 get_push (by decide +kernel) ?_
  k_extra "mw"
  refine q _ _ ((Ag.refl _ _).push.push.push) (by simp) ?_
  rw [get_push, ← split_named, List.map_append]
  rfl
end

noncomputable def folL : List Nat := [122, 32, 63, 39, 126, 233, 92, 34]
noncomputable def Fol (r : List Nat) : Prop := ∃ c r', r = c :: r' ∧ c ∈ folL
structure EscW (told : List Nat) (num : Nat) : Prop where
  ex : ∃ c body, told = 92 :: c :: body ∧ (32 ≤ c ∧ c ≠ 38 ∧ c ≠ 32) ∧ ∀ r, Fol r → EscR r (c :: body) num
  pl : told.all (fun x => decide (32 ≤ x)) = true
  le : told.length ≤ 20
  nm : num < 1114112
theorem notIn_fol {L r : List Nat} (h : folL.all (fun c => !L.contains c) = true) (f : Fol r) : NotIn L r := by
  obtain ⟨c, r', rfl, hc⟩ := f
  intro d r'' e
  cases e
  simpa using List.all_eq_true.mp h c hc

noncomputable def escTab : List (Nat × Nat) := [(97, 7), (98, 8), (116, 9), (110, 10), (118, 11), (102, 12), (114, 13), (92, 92), (34, 34), (39, 39)]
theorem esc_plain : ∀ e ∈ escTab, EscW [92, e.1] e.2 := by
  intro e he
  have h : ∀ e ∈ escTab, dctGet [e.1] d_esc = some (e.2 : Int) ∧ e.2 < 128 ∧ digL.contains e.1 = false ∧ (e.1 ≠ 120 ∧ e.1 ≠ 111 ∧ e.1 ≠ 94) ∧ (32 ≤ e.1 ∧ e.1 ≠ 38 ∧ e.1 ≠ 32) := by decide +kernel
  obtain ⟨h1, h2, h3, h4, h5⟩ := h e he
  exact ⟨⟨e.1, [], rfl, h5, fun r _ => .pl h1 h2 h3 h4⟩, by simp; omega, by simp, by omega⟩

noncomputable def nmOk (w : List Nat) (k : Nat) : Bool := match w with
  | c :: d :: body => decide (65 ≤ c ∧ c ≤ 90) && decide (k < 128) && decide (body.length ≤ 5) && (w.all fun x => decide (32 ≤ x)) && folL.all fun f => nmRes ((w ++ [f]).take 3) == (w, some (k : Int))
  | _ => false
theorem esc_name {w : List Nat} {k : Nat} (h : nmOk w k = true) : EscW (92 :: w) k := by
  unfold nmOk at h
  split at h
  · rename_i c d body
    simp only [Bool.and_eq_true, decide_eq_true_eq] at h
    obtain ⟨⟨⟨⟨h1, h2⟩, h3⟩, h4⟩, h5⟩ := h
    refine ⟨⟨c, d :: body, rfl, by omega, fun r hr => ?_⟩, ?_, by simp; omega, by omega⟩
    · obtain ⟨f, r', rfl, hf⟩ := hr
      have h5 := List.all_eq_true.mp h5 f hf
      have e : (c :: (d :: body) ++ f :: r').take 3 = ((c :: d :: body) ++ [f]).take 3 := by
        cases body <;> simp
      refine .nm h1 ?_ h2
      rw [e]
      exact eq_of_beq h5
    · rw [List.all_cons, h4]; rfl
  · cases h
noncomputable def namesTab : List (List Nat × Nat) := (namedL.zip (List.range 33)) ++ [([68, 69, 76], 127)]
theorem names_ok : ∀ e ∈ namesTab, nmOk e.1 e.2 = true := by decide +kernel
theorem named_ok {i : Nat} (h : i < 33) : ∃ w, (namedL.map V.str)[i]? = some (.str w) ∧ w.length ≤ 3 ∧ EscW (92 :: w) i := by
  obtain ⟨w, h1, h2, h3⟩ := named_get h
  refine ⟨w, h3, h2, esc_name (names_ok (w, i) ?_)⟩
  unfold namesTab
  refine List.mem_append.mpr (.inl (List.mem_iff_getElem?.mpr ⟨i, ?_⟩))
  rw [List.getElem?_zip_eq_some]
  exact ⟨h1, List.getElem?_range h⟩
theorem esc_ctl {p : Nat} (h : p < 32) : EscW [92, 94, 64 + p] p := by
  refine ⟨⟨94, [64 + p], rfl, by decide, fun r _ => ?_⟩, by simp; omega, by simp, by omega⟩
  have := EscR.ctl (r := r) (k := 64 + p) (by omega) (by omega)
  rwa [show 64 + p - 64 = p by omega] at this

noncomputable def numsL : List Nat := List.range 400 ++ [8364, 1114111]
noncomputable def isD (d : Nat) : Bool := Nat.ble 48 d && Nat.ble d 57
noncomputable def isO (d : Nat) : Bool := Nat.ble 48 d && Nat.ble d 55
noncomputable def isH (d : Nat) : Bool := (Nat.ble 48 d && Nat.ble d 57) || (Nat.ble 97 d && Nat.ble d 102) || (Nat.ble 65 d && Nat.ble d 70)
noncomputable def dvN (d : Nat) : Nat := if Nat.ble d 57 then d - 48 else if Nat.ble d 70 then d - 55 else d - 87
noncomputable def valN (B : Nat) (w : List Nat) : Nat := w.foldl (fun f d => f * B + dvN d) 0
theorem dig_all : ∀ d ∈ List.range 103, isH d = true → hexL.contains d = true ∧ digV d = (dvN d : Int) ∧ d < 128 ∧ 32 ≤ d ∧ dvN d < 16 := by decide +kernel
theorem dig_h {d : Nat} (h : isH d = true) : hexL.contains d = true ∧ digV d = (dvN d : Int) ∧ d < 128 ∧ 32 ≤ d ∧ dvN d < 16 := by
  refine dig_all d (List.mem_range.mpr ?_) h
  simp only [isH, Bool.or_eq_true, Bool.and_eq_true, Nat.ble_eq] at h
  omega
theorem dig_d {d : Nat} (h : isD d = true) : digL.contains d = true ∧ isH d = true := by
  have h2 : ∀ d ∈ List.range 58, isD d = true → digL.contains d = true ∧ isH d = true := by decide +kernel
  refine h2 d (List.mem_range.mpr ?_) h
  simp only [isD, Bool.and_eq_true, Nat.ble_eq] at h
  omega
theorem dig_o {d : Nat} (h : isO d = true) : octL.contains d = true ∧ isH d = true := by
  have h2 : ∀ d ∈ List.range 56, isO d = true → octL.contains d = true ∧ isH d = true := by decide +kernel
  refine h2 d (List.mem_range.mpr ?_) h
  simp only [isO, Bool.and_eq_true, Nat.ble_eq] at h
  omega
theorem num_val {B : Nat} {w : List Nat} (hB : B ≤ 16) (hw : w.all isH = true) (hl : w.length ≤ 10) : ∀ i, i ≤ w.length → numAt (B : Int) w i = some ((valN B (w.take i) : Nat) : Int) ∧ valN B (w.take i) < 16 ^ i
  | 0, _ => ⟨by simp [numAt, valN], by simp [valN]⟩
  | i + 1, h => by
    obtain ⟨h1, h2⟩ := num_val hB hw hl i (by omega)
    have hi : i < w.length := by omega
    have hd := dig_h (List.all_eq_true.mp hw w[i] (List.getElem_mem hi))
    have hp : 16 ^ i ≤ 16 ^ 9 := Nat.pow_le_pow_right (by omega) (by omega)
    have ev : valN B (w.take (i + 1)) = valN B (w.take i) * B + dvN w[i] := by
      unfold valN
      rw [List.take_succ_eq_append_getElem hi, List.foldl_append]; rfl
    have hm : valN B (w.take i) * B ≤ valN B (w.take i) * 16 := Nat.mul_le_mul_left _ hB
    have hlt : valN B (w.take i) * B + dvN w[i] < 16 ^ (i + 1) := by rw [Nat.pow_succ]; omega
    refine ⟨?_, by rw [ev]; exact hlt⟩
    unfold numAt
    rw [h1]
    simp only [Option.bind_some, List.getElem?_eq_getElem hi, hd.2.1]
    have e : ((valN B (w.take i) : Nat) : Int) * (B : Int) + ((dvN w[i] : Nat) : Int) = ((valN B (w.take i) * B + dvN w[i] : Nat) : Int) := by push_cast; rfl
    rw [e, if_pos ⟨hd.2.2.1, by omega, by omega, by omega⟩, ev]
noncomputable def numB (B : Nat) (is : Nat → Bool) (w : List Nat) (k : Nat) : Bool := !w.isEmpty && w.all is && Nat.beq (valN B w) k && Nat.ble k 1114111 && Nat.ble w.length 10
noncomputable def dmix : List Nat := [48, 49, 50, 51, 52, 53, 54, 55, 56, 57, 97, 66, 67, 100, 69, 70]
noncomputable def basedF (B : Nat) : Nat → Nat → List Nat → List Nat
  | 0, _, f => f
  | m + 1, x, f => if x = 0 then f else basedF B m (x / B) (dmix.getD (x % B) 0 :: f)
noncomputable def based (B k : Nat) : List Nat := basedF B 8 (k / B) [hexs.getD (k % B) 0]
theorem dec_ok : ∀ k ∈ numsL, numB 10 isD (digitsN k) k = true ∧ numB 10 isD (48 :: digitsN k) k = true := by decide +kernel
theorem oct_ok : ∀ k ∈ numsL, numB 8 isO (based 8 k) k = true := by decide +kernel
theorem hex_ok : ∀ k ∈ numsL, numB 16 isH (based 16 k) k = true := by decide +kernel
theorem nums_lt : ∀ k ∈ numsL, k < 1114112 := by
  intro k hk
  unfold numsL at hk
  rcases List.mem_append.mp hk with hk | hk
  · have := List.mem_range.mp hk; omega
  · simp only [List.mem_cons, List.not_mem_nil, or_false] at hk; omega
theorem num_split {B : Nat} {is : Nat → Bool} {L w : List Nat} {k : Nat} (hB : B ≤ 16) (hL : ∀ d, is d = true → L.contains d = true ∧ isH d = true) (h : numB B is w k = true) : w ≠ [] ∧ w.all L.contains = true ∧ numOf (B : Int) w = some (k : Int) ∧ k < 1114112 ∧ w.length ≤ 10 ∧ (w.all fun x => decide (32 ≤ x)) = true := by
  unfold numB at h
  simp only [Bool.and_eq_true, Bool.not_eq_true', Nat.ble_eq] at h
  obtain ⟨⟨⟨⟨h1, h2⟩, h3⟩, h4⟩, h5⟩ := h
  have hh : w.all isH = true := List.all_eq_true.mpr fun d hd => (hL d (List.all_eq_true.mp h2 d hd)).2
  refine ⟨(by rintro rfl; cases h1), List.all_eq_true.mpr fun d hd => (hL d (List.all_eq_true.mp h2 d hd)).1, ?_, by omega, h5, List.all_eq_true.mpr fun d hd => decide_eq_true (dig_h (List.all_eq_true.mp hh d hd)).2.2.2.1⟩
  have := (num_val hB hh h5 w.length (Nat.le_refl _)).1
  rw [List.take_length, Nat.eq_of_beq_eq_true h3] at this
  exact this
theorem esc_dec {w : List Nat} {k : Nat} (h : numB 10 isD w k = true) : EscW (92 :: w) k := by
  obtain ⟨h1, h2, h3, h4, h5, h6⟩ := num_split (by decide) (fun d => dig_d) h
  cases w with
  | nil => exact absurd rfl h1
  | cons c w =>
    refine ⟨⟨c, w, rfl, ?_, fun r hr => .dec h1 h2 (notIn_fol (by decide +kernel) hr) h3 h4 (by omega)⟩, by rw [List.all_cons, h6]; rfl, by simp only [List.length_cons] at h5 ⊢; omega, h4⟩
    have hc : digL.contains c = true := by simp only [List.all_cons, Bool.and_eq_true] at h2; exact h2.1
    have : ∀ c ∈ digL, 32 ≤ c ∧ c ≠ 38 ∧ c ≠ 32 := by decide
    exact this c (by simpa using hc)
theorem esc_oct {w : List Nat} {k : Nat} (h : numB 8 isO w k = true) : EscW (92 :: 111 :: w) k := by
  obtain ⟨h1, h2, h3, h4, h5, h6⟩ := num_split (by decide) (fun d => dig_o) h
  exact ⟨⟨111, w, rfl, by decide, fun r hr => .oct h1 h2 (notIn_fol (by decide +kernel) hr) h3 h4 (by omega)⟩, by rw [List.all_cons, List.all_cons, h6]; rfl, by simp only [List.length_cons]; omega, h4⟩
theorem esc_hex {w : List Nat} {k : Nat} (h : numB 16 isH w k = true) : EscW (92 :: 120 :: w) k := by
  obtain ⟨h1, h2, h3, h4, h5, h6⟩ := num_split (by decide) (fun d h => ⟨(dig_h h).1, h⟩) h
  exact ⟨⟨120, w, rfl, by decide, fun r hr => .hex h1 h2 (notIn_fol (by decide +kernel) hr) h3 h4 (by omega)⟩, by rw [List.all_cons, List.all_cons, h6]; rfl, by simp only [List.length_cons]; omega, h4⟩
theorem getD_at {L : List Nat} {i : Nat} (h : i < L.length) : L[i]? = some (L.getD i 0) := by
  rw [List.getD_eq_getElem?_getD, List.getElem?_eq_getElem h]; rfl

section
variable {N n : Nat} {b o : Obs} {i k p : Nat} {t s r : List Nat} {c : Nat} {Q : V → Obs → Prop} {l : Loc} {ms : List (EM V)}

theorem fmod_nat {x B : Nat} : ((x : Int)).fmod (B : Int) = ((x % B : Nat) : Int) := by
  rw [Int.fmod_eq_emod_of_nonneg _ (by omega)]; omega
theorem fdiv_nat {x B : Nat} : ((x : Int)).fdiv (B : Int) = ((x / B : Nat) : Int) := by
  rw [Int.fdiv_eq_ediv_of_nonneg _ (by omega)]; omega

theorem c_based {B m : Nat} (hN : 1000000 ≤ N) (hB : B = 8 ∨ B = 16) (hm : m < 8 ^ 8) (q : Q (.tup [.str (92 :: (if B = 8 then 111 else 120) :: based B m), .int m]) o) : WC N (n + 1) "" "_law_based" [.int m, .int B] o Q := by
  have hB1 : 0 < B ∧ B ≤ 16 := by omega
  have mod_lt : ∀ x, x % B < 16 := fun x => Nat.lt_of_lt_of_le (Nat.mod_lt x hB1.1) hB1.2
  refine W_law_based ?_
  unfold B_law_based
  k_extra "mw"
  refine b_modI (by omega) ?_
  rw [fmod_nat]
  k_extra "mw"
  refine s_str (by have := mod_lt m; omega) (c := hexs.getD (m % B) 0) (by rw [Int.toNat_natCast]; exact getD_at (L := hexs) (mod_lt m)) ?_
  k_extra "mw"
  refine b_divI (by omega) ?_
  rw [fdiv_nat]
  k_extra "mw"
  refine t_while (k := 8) (fun j l o' => o' = o ∧ G l "number" (.int m) ∧ G l "base" (.int B) ∧ j ≤ 8 ∧ ∃ (x : Nat) (f : List Nat), G l "figures" (.str f) ∧ G l "left" (.int x) ∧ x < 8 ^ j ∧ basedF B j x f = based B m ∧ f.length + j ≤ 9) (by omega)
    ⟨rfl, by k_extra "lk", by k_extra "lk", Nat.le_refl 8, m / B, _, by k_extra "lk", by k_extra "lk", Nat.lt_of_le_of_lt (Nat.div_le_self _ _) hm, rfl, by simp⟩ ?_
  rintro j l o' ⟨rfl, l1, l2, hj, x, f, l3, l4, hx, hf, hl⟩
  k_extra "mw"
  constructor
  · intro h0
    have h0 := of_decide_eq_true h0
    have hj : ∃ j', j = j' + 1 := by
      cases j with
      | zero => simp only [Nat.pow_zero] at hx; omega
      | succ j => exact ⟨j, rfl⟩
    obtain ⟨j, rfl⟩ := hj
    k_extra "mw"
    refine b_modI (by omega) ?_
    rw [fmod_nat]
    k_extra "mw"
    refine s_str (by have := mod_lt x; omega) (c := dmix.getD (x % B) 0) (by rw [Int.toNat_natCast]; exact getD_at (L := dmix) (mod_lt x)) ?_
    k_extra "mw"
    refine b_addS (by simp only [List.length_singleton]; omega) ?_
    k_extra "mw"
    refine b_divI (by omega) ?_
    rw [fdiv_nat]
    k_extra "mw"
    refine ⟨j, by omega, rfl, by k_extra "lk", by k_extra "lk", by omega, x / B, _, by k_extra "lk", by k_extra "lk", ?_, ?_, by simp; omega⟩
    · rw [Nat.pow_succ] at hx
      have : x / B ≤ x / 8 := Nat.div_le_div_left (by omega) (by omega)
      omega
    · rw [← hf]
      conv => rhs; unfold basedF
      rw [if_neg (by omega)]; rfl
  · intro h0
    have h0 := of_decide_eq_false h0
    have hx0 : x = 0 := by omega
    subst hx0
    have hf : f = based B m := by
      rw [← hf]
      cases j <;> simp [basedF]
    subst hf
    k_extra "mw"
    rcases hB with rfl | rfl
    · refine cond_t (by decide) ?_
      k_extra "mw"
      refine b_addS (by simp only [List.length_cons, List.length_nil]; omega) ?_
      k_extra "mw"
      exact q
    · refine cond_f (by decide) ?_
      k_extra "mw"
      refine b_addS (by simp only [List.length_cons, List.length_nil]; omega) ?_
      k_extra "mw"
      exact q
end

section
variable {N n : Nat} {b o : Obs} {i k p : Nat} {t s r : List Nat} {c : Nat} {Q : V → Obs → Prop} {l : Loc} {ms : List (EM V)}

theorem ag_push {x : Ob} {W : List Nat} : Ag W o (o ++ [x]) := (Ag.refl _ _).push
theorem TrAt.push {x : Ob} (h : TrAt o k) : TrAt (o ++ [x]) k := h.ag (W := []) ag_push (by simp)

theorem c_lnum {Q : V → Obs → Prop} (h : TrAt o k) (l1 : G l "trunk" (.ref k)) (q : ∀ m o', m ∈ numsL → Ag [k] o o' → TrAt o' k → Q (.int (m : Nat)) o') :
    WE (funM (cfg N (n + 2)) "_law_one" [(locM "trunk"), (listM [(retE (.int 0)), (retE (.int 9)), (retE (.int 65)), (retE (.int 255)), (retE (.int 8364)), (retE (.int 1114111)), (funM (cfg N (n + 2)) "_law_pull" [(locM "trunk"), (retE (.int 400))])])]) l o Q := by
  k_extra "mw"
  refine c_pull (m := 400) (by decide) h fun v o1 hv a1 t1 => ?_
  k_extra "mw"
  have hlt : k < o1.length := t1.lt
  refine c_oneL get_push (by simp) (by simp) (by omega) t1.push fun x o2 hx a2 t2 => ?_
  k_extra "mw"
  have ag : Ag [k] o o2 := a1.trans (ag_push.trans a2)
  have fin : ∀ m : Nat, m ∈ numsL → x = .int m → Q x o2 := by
    rintro m hm rfl
    exact q m o2 hm ag t2
  have lo : ∀ m : Nat, m < 400 → m ∈ numsL := fun m hm => List.mem_append.mpr (.inl (List.mem_range.mpr hm))
  simp only [List.mem_cons, List.not_mem_nil, or_false] at hx
  rcases hx with rfl | rfl | rfl | rfl | rfl | rfl | rfl
  · exact fin 0 (lo 0 (by omega)) rfl
  · exact fin 9 (lo 9 (by omega)) rfl
  · exact fin 65 (lo 65 (by omega)) rfl
  · exact fin 255 (lo 255 (by omega)) rfl
  · exact fin 8364 (List.mem_append.mpr (.inr (by simp))) rfl
  · exact fin 1114111 (List.mem_append.mpr (.inr (by simp))) rfl
  · exact fin v (lo v hv) rfl

theorem cL_num {way : Nat} {Q : V → Obs → Prop} (hN : 1000000 ≤ N) (h : TrAt o k) (l1 : G l "trunk" (.ref k)) (l2 : G l "way" (.int way)) (q : ∀ told num o', EscW told num → Ag [k] o o' → TrAt o' k → Q (.tup [.str told, .int num]) o') :
    WS (thenS (assignM "number" (funM (cfg N (n + 2)) "_law_one" [(locM "trunk"), (listM [(retE (.int 0)), (retE (.int 9)), (retE (.int 65)), (retE (.int 255)), (retE (.int 8364)), (retE (.int 1114111)), (funM (cfg N (n + 2)) "_law_pull" [(locM "trunk"), (retE (.int 400))])])])) (thenS (ifM (testM (cmpM .Eq (locM "way") (retE (.int 3)))) (thenS (retM (tupM [(binM .Add (binM .Add (retE (.str [92])) (binM .Mult (retE (.str [48])) (funM (cfg N (n + 2)) "_law_pull" [(locM "trunk"), (retE (.int 2))]))) (bltM "str" [(locM "number")])), (locM "number")])) nextS) nextS) (thenS (retM (funM (cfg N (n + 2)) "_law_based" [(locM "number"), (funM (cfg N (n + 2)) "_law_one" [(locM "trunk"), (listM [(retE (.int 8)), (retE (.int 16))])])])) nextS))) l o (EndW Q) := by
  refine t_then (t_assign (c_lnum h l1 fun m o1 hm a1 t1 => then_next ?_))
  have hmlt := nums_lt m hm
  k_extra "mw"
  constructor
  · intro _
    k_extra "mw"
    refine c_pull (m := 2) (by decide) t1 fun v o2 hv a2 t2 => ?_
    k_extra "mw"
    refine b_mulS (by simp; omega) ?_
    k_extra "mw"
    refine b_addS (by split <;> simp) ?_
    k_extra "mw"
    refine bl_str (by omega) ?_
    rw [Int.toNat_natCast]
    have hd := dec_ok m hm
    have hl := (num_split (L := digL) (by decide) (fun d => dig_d) hd.1).2.2.2.2.1
    k_extra "mw"
    refine b_addS (by split <;> simp <;> omega) ?_
    k_extra "mw"
    have e : [92] ++ (if (v : Int) = 1 then [48] else []) ++ digitsN m = 92 :: ((if (v : Int) = 1 then [48] else []) ++ digitsN m) := by simp
    rw [e]
    split
    · exact q _ _ _ (esc_dec hd.2) (a1.trans a2) t2
    · exact q _ _ _ (esc_dec hd.1) (a1.trans a2) t2
  · intro _
    k_extra "mw"
    have hlt := t1.lt
    refine c_oneL get_push (by simp) (by simp) (by omega) t1.push fun x o2 hx a2 t2 => ?_
    k_extra "mw"
    simp only [List.mem_cons, List.not_mem_nil, or_false] at hx
    have ag : Ag [k] o o2 := a1.trans (ag_push.trans a2)
    rcases hx with rfl | rfl
    · refine c_based (B := 8) hN (.inl rfl) (by omega) ?_
      k_extra "mw"
      exact q _ _ _ (esc_oct (oct_ok m hm)) ag t2
    · refine c_based (B := 16) hN (.inr rfl) (by omega) ?_
      k_extra "mw"
      exact q _ _ _ (esc_hex (hex_ok m hm)) ag t2

theorem c_lescape (hN : 1000000 ≤ N) (h : TrAt o k) (q : ∀ told num o', EscW told num → Ag [k] o o' → TrAt o' k → Q (.tup [.str told, .int (num : Nat)]) o') : WC N (n + 3) "" "_law_escape" [.ref k] o Q := by
  refine W_law_escape ?_
  unfold B_law_escape
  k_extra "mw"
  refine c_pull (m := 5) (by decide) h fun way o1 hv a1 t1 => ?_
  k_extra "mw"
  have hlt := t1.lt
  constructor
  · intro _
    k_extra "mw"
    refine c_oneL get_push (by simp) (by simp) (by omega) t1.push fun x o2 hx a2 t2 => ?_
    k_extra "mw"
    have fin : ∀ e ∈ escTab, x = .tup [.str [92, e.1], .int (e.2 : Nat)] → Q x o2 := by
      rintro e he rfl
      exact q _ _ _ (esc_plain e he) (a1.trans (ag_push.trans a2)) t2
    have hx' : x ∈ escTab.map fun e => V.tup [.str [92, e.1], .int (e.2 : Nat)] := hx
    obtain ⟨e, he, rfl⟩ := List.mem_map.mp hx'
    exact fin e he rfl
  · intro _
    k_extra "mw"
    constructor
    · intro _
      k_extra "mw"
      refine c_lnamed fun o2 j a2 hj hl => ?_
      have t2 := t1.ag a2 (by simp)
      k_extra "mw"
      refine bl_lenL hl (by decide +kernel) ?_
      k_extra "mw"
      refine c_pull (m := 34) (by decide) t2 fun v o3 hv a3 t3 => ?_
      have hl3 := a3.get hl (by simp; omega)
      k_extra "mw"
      refine bl_lenL hl3 (by decide +kernel) ?_
      k_extra "mw"
      constructor
      · intro h1
        have h1 : v < 33 := by have := of_decide_eq_true h1; simp [namedL] at this; omega
        obtain ⟨w, hw, hw3, E⟩ := named_ok h1
        k_extra "mw"
        refine s_list hl3 (by omega) (c := .str w) (by rw [Int.toNat_natCast]; exact hw) ?_
        k_extra "mw"
        refine b_addS (by simp; omega) ?_
        k_extra "mw"
        exact q _ _ _ E (a1.trans (a2.nil.trans a3)) t3
      · intro h1
        k_extra "mw"
        exact q _ _ _ (esc_name (w := [68, 69, 76]) (k := 127) (by decide +kernel)) (a1.trans (a2.nil.trans a3)) t3
    · intro _
      k_extra "mw"
      constructor
      · intro _
        k_extra "mw"
        refine c_pull (m := 32) (by decide) t1 fun v o3 hv a3 t3 => ?_
        k_extra "mw"
        have hc : ∀ v ∈ List.range 32, ([64, 65, 66, 67, 68, 69, 70, 71, 72, 73, 74, 75, 76, 77, 78, 79, 80, 81, 82, 83, 84, 85, 86, 87, 88, 89, 90, 91, 92, 93, 94, 95] : List Nat)[v]? = some (64 + v) := by decide +kernel
        refine s_str (by omega) (c := 64 + v) (by rw [Int.toNat_natCast]; exact hc v (List.mem_range.mpr hv)) ?_
        k_extra "mw"
        refine b_addS (by simp) ?_
        k_extra "mw"
        exact q _ _ _ (esc_ctl hv) (a1.trans a3) t3
      · intro _
        refine t_next (then_next ?_)
        exact cL_num hN t1 (by k_extra "lk") (by k_extra "lk") fun told num o' E a t => q told num o' E (a1.trans a) t
end

noncomputable def Sep (r : List Nat) : Prop := r = [] ∨ ∃ r', r = 32 :: r'
noncomputable def startB (w : List Nat) : Bool := match w with
  | [] => false
  | c :: r => !wsL.contains c && !(((c :: r) ++ [32]).take 2 == [45, 45]) && !(((c :: r) ++ [32]).take 2 == [123, 45])
theorem start_of {w r : List Nat} (h : startB w = true) (hr : Sep r) : StartOk (w ++ r) := by
  unfold startB at h
  split at h
  · cases h
  · rename_i c w
    simp only [Bool.and_eq_true, Bool.not_eq_true'] at h
    obtain ⟨⟨h1, h2⟩, h3⟩ := h
    have e : ∀ x : List Nat, x.length = 2 → (((c :: w) ++ [32]).take 2 == x) = false → (((c :: w) ++ r).take 2 == x) = false := by
      intro x hx h
      cases w with
      | nil =>
        rcases hr with rfl | ⟨r', rfl⟩
        · rw [beq_eq_false_iff_ne]
          rintro e
          rw [← e] at hx; simp at hx
        · exact h
      | cons d w => exact h
    refine ⟨fun d r' hd => ?_, e _ rfl h2, e _ rfl h3⟩
    cases hd; exact h1
structure WordD (x : It) : Prop where
  wr : ∀ r, Sep r → WordR r x.k x.w x.v
  st : startB x.w = true
  pl : ∀ c ∈ x.w, 32 ≤ c
  le : x.w.length ≤ 1000
  vs : x.v = .none ∨ ∃ s, x.v = .str s
theorem notIn_sep {L r : List Nat} (h : L.contains 32 = false) (hr : Sep r) : NotIn L r := by
  rintro c r' rfl
  rcases hr with hr | ⟨_, hr⟩
  · cases hr
  · cases hr; exact h

theorem TextR.app {R pc raw val v : List Nat} (h : TextR (pc ++ R) raw val) (h2 : TextR R pc v) : TextR R (raw ++ pc) (val ++ v) := by
  induction h with
  | nil => exact h2
  | sign hc _ ih => exact .sign hc ih
  | esc hc E _ ih =>
    rename_i c num body raw val _
    have : 92 :: c :: body ++ raw ++ pc = 92 :: c :: body ++ (raw ++ pc) := by simp
    rw [this]
    exact .esc hc (by rw [List.append_assoc]; exact E) ih
theorem text_sign {R : List Nat} {c : Nat} (h : 32 ≤ c ∧ c ≠ 127 ∧ c ≠ 34 ∧ c ≠ 92) : TextR R [c] [c] := .sign h .nil
theorem text_esc {R told : List Nat} {num : Nat} (h : EscW told num) (f : Fol R) : TextR R told [num] := by
  obtain ⟨⟨c, body, rfl, hc, E⟩, -, -, -⟩ := h
  have := TextR.esc (R := R) (raw := []) (val := []) hc (E R f) .nil
  rwa [List.append_nil] at this
structure TextD (raw val : List Nat) (m : Nat) : Prop where
  tx : ∀ R, Fol R → TextR R raw val
  pl : ∀ c ∈ raw, 32 ≤ c
  le : raw.length ≤ m
  le2 : val.length ≤ m
theorem TextD.sign {raw val : List Nat} {m c : Nat} (h : TextD raw val m) (hc : 32 ≤ c ∧ c ≠ 127 ∧ c ≠ 34 ∧ c ≠ 92) (hf : c ∈ folL) : TextD (raw ++ [c]) (val ++ [c]) (m + 20) :=
  ⟨fun R _ => (h.tx ([c] ++ R) ⟨c, R, rfl, hf⟩).app (text_sign hc), by
    intro x hx
    rcases List.mem_append.mp hx with hx | hx
    · exact h.pl x hx
    · simp only [List.mem_singleton] at hx; subst hx; exact hc.1, by have := h.le; simp; omega, by have := h.le2; simp; omega⟩
theorem TextD.esc {raw val told : List Nat} {m num : Nat} (h : TextD raw val m) (E : EscW told num) : TextD (raw ++ told) (val ++ [num]) (m + 20) :=
  ⟨fun R f => by
    refine (h.tx (told ++ R) ?_).app (text_esc E f)
    obtain ⟨⟨c, body, rfl, hc, _⟩, -, -, -⟩ := E
    exact ⟨92, _, rfl, by decide⟩, by
    intro x hx
    rcases List.mem_append.mp hx with hx | hx
    · exact h.pl x hx
    · exact of_decide_eq_true (List.all_eq_true.mp E.pl x hx), by have := h.le; have := E.le; simp; omega, by have := h.le2; simp; omega⟩

noncomputable def extsL : List (List Nat) := [[], [], [33], [58], [46], [36]]
noncomputable def sufL : List (List Nat) := [[39], [49], [95], [88]]
noncomputable def nmB (w : List Nat) : Bool := match w with
  | [] => false
  | c :: r => (c :: r).all letN.contains && !specL.contains c && !digL.contains c && smallL.contains c && startB (c :: r) && (c :: r).all (fun x => Nat.ble 32 x) && Nat.ble (c :: r).length 100
noncomputable def opB (w : List Nat) : Bool := match w with
  | [] => false
  | c :: r => (c :: r).all symL.contains && !specL.contains c && !digL.contains c && !smallL.contains c && !greatL.contains c && startB (c :: r) && (c :: r).all (fun x => Nat.ble 32 x) && Nat.ble (c :: r).length 100
theorem keys_ok : ∀ w ∈ keysL, nmB w = true ∧ nameK w = kKey := by decide +kernel
theorem xkeys_ok : ∀ w ∈ keysL, nmB (120 :: w) = true ∧ nameK (120 :: w) = kVar := by decide +kernel
theorem skeys_ok : ∀ w ∈ keysL, ∀ s ∈ sufL, nmB (w ++ s) = true ∧ nameK (w ++ s) = kVar := by decide +kernel
theorem ops_ok : ∀ w ∈ opsL, ∀ s ∈ extsL, opB (w ++ s) = true := by decide +kernel
theorem specs_ok : ∀ c ∈ specL, startB [c] = true ∧ 32 ≤ c ∧ specL.contains c = true := by decide +kernel
theorem keys_len : ∀ w ∈ keysL, w.length ≤ 10 := by decide +kernel
theorem ops_len : ∀ w ∈ opsL, w.length ≤ 2 := by decide +kernel

theorem word_name {w : List Nat} (h : nmB w = true) : WordD ⟨nameK w, w, .none⟩ := by
  unfold nmB at h
  split at h
  · cases h
  · rename_i c w
    simp only [Bool.and_eq_true, Bool.not_eq_true', Nat.ble_eq] at h
    obtain ⟨⟨⟨⟨⟨⟨h1, h2⟩, h3⟩, h4⟩, h5⟩, h6⟩, h7⟩ := h
    refine ⟨fun r hr => .name h1 h2 h3 h4 (notIn_sep (by decide +kernel) hr), h5, fun x hx => ?_, by show (c :: w).length ≤ 1000; omega, .inl rfl⟩
    have := List.all_eq_true.mp h6 x hx
    simpa using this
theorem word_op {w : List Nat} (h : opB w = true) : WordD ⟨symK w, w, .none⟩ := by
  unfold opB at h
  split at h
  · cases h
  · rename_i c w
    simp only [Bool.and_eq_true, Bool.not_eq_true', Nat.ble_eq] at h
    obtain ⟨⟨⟨⟨⟨⟨⟨h1, h2⟩, h3⟩, h4⟩, h4'⟩, h5⟩, h6⟩, h7⟩ := h
    refine ⟨fun r hr => .op h1 h2 h3 h4 h4' (notIn_sep (by decide +kernel) hr), h5, fun x hx => ?_, by show (c :: w).length ≤ 1000; omega, .inl rfl⟩
    have := List.all_eq_true.mp h6 x hx
    simpa using this
theorem word_special {c : Nat} (h : c ∈ specL) : WordD ⟨kSpecial, [c], .none⟩ := by
  obtain ⟨h1, h2, h3⟩ := specs_ok c h
  exact ⟨fun r _ => .special h3, h1, by simpa using h2, by simp, .inl rfl⟩
theorem word_text {raw val : List Nat} {m : Nat} (h : TextD raw val m) (hm : m ≤ 500) : WordD ⟨kText, 34 :: raw ++ [34], .str val⟩ := by
  refine ⟨fun r _ => .text (h.tx _ ⟨34, r, rfl, by decide⟩) (by have := h.le; omega), ?_, ?_, by have := h.le; simp; omega, .inr ⟨_, rfl⟩⟩
  · cases raw <;> rfl
  · intro c hc
    simp only [List.cons_append, List.mem_cons, List.mem_append, List.not_mem_nil, or_false] at hc
    rcases hc with rfl | hc | rfl
    · omega
    · exact h.pl c hc
    · omega
theorem word_char {c : Nat} (h : 32 ≤ c ∧ c ≠ 127 ∧ c ≠ 39 ∧ c ≠ 92) : WordD ⟨kChar, [39, c, 39], .str [c]⟩ := by
  refine ⟨fun r _ => .charS h.2, rfl, ?_, by simp, .inr ⟨_, rfl⟩⟩
  intro x hx
  simp only [List.mem_cons, List.not_mem_nil, or_false] at hx
  omega
theorem word_esc {told : List Nat} {num : Nat} (E : EscW told num) : WordD ⟨kChar, 39 :: told ++ [39], .str [num]⟩ := by
  obtain ⟨⟨c, body, rfl, hc, E'⟩, hp, hl, -⟩ := E
  refine ⟨fun r _ => ?_, rfl, ?_, by simp at hl ⊢; omega, .inr ⟨_, rfl⟩⟩
  · exact .charE (body := c :: body) (E' _ ⟨39, r, rfl, by decide⟩)
  · intro x hx
    rw [List.cons_append, List.mem_cons, List.mem_append, List.mem_singleton] at hx
    rcases hx with rfl | hx | rfl
    · omega
    · exact of_decide_eq_true (List.all_eq_true.mp hp x hx)
    · omega

section
variable {N n : Nat} {b o : Obs} {i k p : Nat} {t s r : List Nat} {c : Nat} {Q : V → Obs → Prop} {l : Loc} {ms : List (EM V)}

theorem c_ltext (hN : 1000000 ≤ N) (h : TrAt o k) (q : ∀ x o', WordD x → Ag [k] o o' → TrAt o' k → Q (.tup [.str x.k, .str x.w, x.v]) o') : WC N (n + 4) "" "_law_text" [.ref k] o Q := by
  refine W_law_text ?_
  unfold B_law_text
  k_extra "mw"
  refine t_for ?_
  k_extra "mw"
  refine c_pull (m := 7) (by decide) h fun turns o1 hv a1 t1 => ?_
  k_extra "mw"
  refine bl_rng (by omega) ?_
  refine for_rng (fun j l o' => G l "trunk" (.ref k) ∧ Ag [k] o o' ∧ TrAt o' k ∧ ∃ raw val, G l "raw" (.str raw) ∧ G l "value" (.str val) ∧ TextD raw val (20 * j)) (by omega) ⟨by k_extra "lk", a1, t1, [], [], by k_extra "lk", by k_extra "lk", fun _ _ => .nil, by simp, by simp, by simp⟩ ?_ ?_
  · rintro j l o2 hj ⟨l1, a2, t2, raw, val, l2, l3, T⟩
    have hle := T.le
    have hle2 := T.le2
    k_extra "mw"
    refine c_pull (m := 4) (by decide) t2 fun v o3 hv a3 t3 => ?_
    k_extra "mw"
    have hlt := t3.lt
    constructor
    · intro _
      k_extra "mw"
      refine bl_chr (by decide) ?_
      k_extra "mw"
      refine c_oneL get_push (by simp) (by simp) (by omega) t3.push fun x o4 hx a4 t4 => ?_
      have fin : ∃ c, x = .str [c] ∧ (32 ≤ c ∧ c ≠ 127 ∧ c ≠ 34 ∧ c ≠ 92) ∧ c ∈ folL := by
        simp only [List.mem_cons, List.not_mem_nil, or_false] at hx
        rcases hx with rfl | rfl | rfl | rfl | rfl | rfl
        · exact ⟨122, rfl, by decide, by decide⟩
        · exact ⟨32, rfl, by decide, by decide⟩
        · exact ⟨63, rfl, by decide, by decide⟩
        · exact ⟨39, rfl, by decide, by decide⟩
        · exact ⟨126, rfl, by decide, by decide⟩
        · exact ⟨233, rfl, by decide, by decide⟩
      obtain ⟨c, rfl, hc, hf⟩ := fin
      k_extra "mw"
      refine b_addS (by simp; omega) ?_
      k_extra "mw"
      refine b_addS (by simp; omega) ?_
      k_extra "mw"
      exact ⟨by k_extra "lk", a2.trans (a3.trans (ag_push.trans a4)), t4, _, _, by k_extra "lk", by k_extra "lk", T.sign hc hf⟩
    · intro _
      k_extra "mw"
      refine c_lescape hN t3 fun told num o4 E a4 t4 => ?_
      have hE := E.le
      have hE2 := E.nm
      k_extra "mw"
      refine b_addS (by omega) ?_
      k_extra "mw"
      refine bl_chr (by omega) ?_
      rw [Int.toNat_natCast]
      k_extra "mw"
      refine b_addS (by simp; omega) ?_
      k_extra "mw"
      exact ⟨by k_extra "lk", a2.trans (a3.trans a4), t4, _, _, by k_extra "lk", by k_extra "lk", T.esc E⟩
  · rintro l o2 ⟨l1, a2, t2, raw, val, l2, l3, T⟩
    have hle := T.le
    k_extra "mw"
    refine b_addS (by simp; omega) ?_
    k_extra "mw"
    refine b_addS (by simp; omega) ?_
    k_extra "mw"
    exact q _ _ (word_text T (by omega)) a2 t2

theorem c_lsign (hN : 1000000 ≤ N) (h : TrAt o k) (q : ∀ x o', WordD x → Ag [k] o o' → TrAt o' k → Q (.tup [.str x.k, .str x.w, x.v]) o') : WC N (n + 4) "" "_law_sign" [.ref k] o Q := by
  refine W_law_sign ?_
  unfold B_law_sign
  k_extra "mw"
  refine c_pull (m := 3) (by decide) h fun v o1 hv a1 t1 => ?_
  k_extra "mw"
  have hlt := t1.lt
  constructor
  · intro _
    k_extra "mw"
    refine bl_chr (by decide) ?_
    k_extra "mw"
    refine c_oneL get_push (by simp) (by simp) (by omega) t1.push fun x o2 hx a2 t2 => ?_
    have fin : ∃ c, x = .str [c] ∧ (32 ≤ c ∧ c ≠ 127 ∧ c ≠ 39 ∧ c ≠ 92) := by
      simp only [List.mem_cons, List.not_mem_nil, or_false] at hx
      rcases hx with rfl | rfl | rfl | rfl | rfl | rfl | rfl
      · exact ⟨97, rfl, by decide⟩
      · exact ⟨32, rfl, by decide⟩
      · exact ⟨34, rfl, by decide⟩
      · exact ⟨48, rfl, by decide⟩
      · exact ⟨126, rfl, by decide⟩
      · exact ⟨233, rfl, by decide⟩
      · exact ⟨45, rfl, by decide⟩
    obtain ⟨c, rfl, hc⟩ := fin
    k_extra "mw"
    refine b_addS (by simp) ?_
    k_extra "mw"
    refine b_addS (by simp) ?_
    k_extra "mw"
    exact q _ _ (word_char hc) (a1.trans (ag_push.trans a2)) t2
  · intro _
    k_extra "mw"
    refine c_lescape hN t1 fun told num o2 E a2 t2 => ?_
    have hE := E.le
    have hE2 := E.nm
    k_extra "mw"
    refine b_addS (by simp; omega) ?_
    k_extra "mw"
    refine b_addS (by simp; omega) ?_
    k_extra "mw"
    refine bl_chr (by omega) ?_
    k_extra "mw"
    exact q _ _ (word_esc E) (a1.trans a2) t2

noncomputable def keysT : List Nat := [99, 97, 115, 101, 32, 99, 108, 97, 115, 115, 32, 100, 97, 116, 97, 32, 100, 101, 114, 105, 118, 105, 110, 103, 32, 100, 111, 32, 101, 108, 115, 101, 32, 105, 102, 32, 105, 109, 112, 111, 114, 116, 32, 105, 110, 32, 105, 110, 102, 105, 120, 32, 105, 110, 102, 105, 120, 108, 32, 105, 110, 102, 105, 120, 114, 32, 105, 110, 115, 116, 97, 110, 99, 101, 32, 108, 101, 116, 32, 109, 111, 100, 117, 108, 101, 32, 110, 101, 119, 116, 121, 112, 101, 32, 111, 102, 32, 116, 104, 101, 110, 32, 116, 121, 112, 101]
theorem split_keys : splitSp keysT ++ [[119, 104, 101, 114, 101], [95]] = keysL := by decide +kernel
theorem splitk_ok : splitOk keysT = true := by decide +kernel
theorem c_lname (h : TrAt o k) (q : ∀ x o', WordD x → Ag [k] o o' → TrAt o' k → Q (.tup [.str x.k, .str x.w, x.v]) o') : WC N (n + 3) "" "_law_name" [.ref k] o Q := by
  refine W_law_name ?_
  unfold B_law_name
  k_extra "mw"
  refine m_split ?_
  k_extra "mw"
  refine ⟨rfl, ⟨splitk_ok, by decide⟩, ?_⟩
  k_extra "mw"
  have e1 : ((o ++ [Ob.list ((splitSp keysT).map .str)]) ++ [Ob.list [.str [119, 104, 101, 114, 101], .str [95]]])[o.length]? = some (.list ((splitSp keysT).map .str)) := by
    rw [List.getElem?_append_left (by simp)]; exact get_push
  refine b_addL e1 get_push (by decide +kernel) ?_
  k_extra "mw"
  have hk := h.lt
  have e2 : (splitSp keysT).map V.str ++ [.str [119, 104, 101, 114, 101], .str [95]] = keysL.map V.str := by rw [← split_keys, List.map_append]; rfl
  refine c_oneL get_push (by rw [e2]; decide +kernel) (by rw [e2]; decide +kernel) (by simp; omega) h.push.push.push fun x o2 hx a2 t2 => ?_
  rw [e2] at hx
  obtain ⟨w, hw, rfl⟩ := List.mem_map.mp hx
  have a3 : Ag [k] o o2 := (ag_push.push.push).trans a2
  have hwl := keys_len w hw
  k_extra "mw"
  refine c_pull (m := 4) (by decide) t2 fun v o3 hv a4 t3 => ?_
  k_extra "mw"
  constructor
  · intro _
    k_extra "mw"
    obtain ⟨h1, h2⟩ := keys_ok w hw
    have W := word_name h1
    rw [h2] at W
    exact q _ _ W (a3.trans a4) t3
  · intro _
    k_extra "mw"
    constructor
    · intro _
      k_extra "mw"
      refine b_addS (by simp; omega) ?_
      k_extra "mw"
      obtain ⟨h1, h2⟩ := xkeys_ok w hw
      have W := word_name h1
      rw [h2] at W
      exact q _ _ W (a3.trans a4) t3
    · intro _
      k_extra "mw"
      have hlt := t3.lt
      refine c_oneL get_push (by simp) (by simp) (by omega) t3.push fun x o4 hx a5 t4 => ?_
      have hx' : x ∈ sufL.map V.str := hx
      obtain ⟨s, hs, rfl⟩ := List.mem_map.mp hx'
      have hsl : s.length ≤ 1 := by
        have : ∀ s ∈ sufL, s.length ≤ 1 := by decide
        exact this s hs
      k_extra "mw"
      refine b_addS (by omega) ?_
      k_extra "mw"
      obtain ⟨h1, h2⟩ := skeys_ok w hw s hs
      have W := word_name h1
      rw [h2] at W
      exact q _ _ W (a3.trans (a4.trans (ag_push.trans a5))) t4

theorem c_loperator (h : TrAt o k) (q : ∀ x o', WordD x → Ag [k] o o' → TrAt o' k → Q (.tup [.str x.k, .str x.w, x.v]) o') : WC N (n + 3) "" "_law_operator" [.ref k] o Q := by
  refine W_law_operator ?_
  unfold B_law_operator
  k_extra "mw"
  have hk := h.lt
  have hkept : (o ++ [Ob.list [.str [46, 46], .str [58], .str [58, 58], .str [61], .str [92], .str [124], .str [60, 45], .str [45, 62], .str [64], .str [126], .str [61, 62]]])[o.length]? = some (.list (opsL.map V.str)) := get_push
  refine c_oneL hkept (by decide) (by decide) (by omega) h.push fun x o1 hx a1 t1 => ?_
  obtain ⟨w, hw, rfl⟩ := List.mem_map.mp hx
  have hwl := ops_len w hw
  have hkept1 := a1.get hkept (by simp; omega)
  k_extra "mw"
  have hlt := t1.lt
  refine c_oneL get_push (by simp) (by simp) (by omega) t1.push fun x o2 hx a2 t2 => ?_
  have hx' : x ∈ extsL.map V.str := hx
  obtain ⟨s, hs, rfl⟩ := List.mem_map.mp hx'
  have hsl : s.length ≤ 1 := by
    have : ∀ s ∈ extsL, s.length ≤ 1 := by decide
    exact this s hs
  have hkept2 := (ag_push.trans a2).get hkept1 (by simp; omega)
  have ag : Ag [k] o o2 := ag_push.trans (a1.trans (ag_push.trans a2))
  k_extra "mw"
  refine b_addS (by omega) ?_
  k_extra "mw"
  refine c_inL hkept2 (strs_map opsL) ?_
  k_extra "mw"
  have h1 := ops_ok w hw s hs
  have W := word_op h1
  cases hws : w ++ s with
  | nil => rw [hws] at h1; cases h1
  | cons c u =>
    rw [hws] at W
    rw [symK_cons] at W
    constructor
    · intro h'
      rw [if_pos (show isIn opsL (c :: u) = true from h')] at W
      k_extra "mw"
      exact q _ _ W ag t2
    · intro h'
      rw [if_neg (show ¬ isIn opsL (c :: u) = true from by rw [show isIn opsL (c :: u) = false from h']; decide)] at W
      k_extra "mw"
      refine s_str (by decide) (c := c) rfl ?_
      k_extra "mw"
      constructor
      · intro h2
        have : c = 58 := by simpa using h2
        rw [if_pos this] at W
        k_extra "mw"
        exact q _ _ W ag t2
      · intro h2
        have : c ≠ 58 := by simpa using h2
        rw [if_neg this] at W
        k_extra "mw"
        exact q _ _ W ag t2

theorem c_lword (hN : 1000000 ≤ N) (h : TrAt o k) (q : ∀ x o', WordD x → Ag [k] o o' → TrAt o' k → Q (.tup [.str x.k, .str x.w, x.v]) o') : WC N (n + 5) "" "_law_word" [.ref k] o Q := by
  refine W_law_word ?_
  unfold B_law_word
  k_extra "mw"
  refine c_pull (m := 6) (by decide) h fun v o1 hv a1 t1 => ?_
  have q' : ∀ x o', WordD x → Ag [k] o1 o' → TrAt o' k → Q (.tup [.str x.k, .str x.w, x.v]) o' := fun x o' W a t => q x o' W (a1.trans a) t
  k_extra "mw"
  constructor
  · intro _
    k_extra "mw"
    refine c_ltext hN t1 fun x o' W a t => ?_
    k_extra "mw"
    exact q' x o' W a t
  · intro _
    k_extra "mw"
    constructor
    · intro _
      k_extra "mw"
      refine c_lsign hN t1 fun x o' W a t => ?_
      k_extra "mw"
      exact q' x o' W a t
    · intro _
      k_extra "mw"
      constructor
      · intro _
        k_extra "mw"
        refine c_lname t1 fun x o' W a t => ?_
        k_extra "mw"
        exact q' x o' W a t
      · intro _
        k_extra "mw"
        constructor
        · intro _
          k_extra "mw"
          refine c_loperator t1 fun x o' W a t => ?_
          k_extra "mw"
          exact q' x o' W a t
        · intro _
          k_extra "mw"
          refine c_oneS (xs := specL) (by decide) (by decide) t1 fun x o' hx a t => ?_
          k_extra "mw"
          exact q' ⟨_, _, _⟩ o' (word_special hx) a t
end

noncomputable def itV (x : It) : V := .tup [.str x.k, .str x.w, x.v]
noncomputable def duV (d : Du) : V := .tup [.str d.k, .str d.w, d.v, .int 1, .int d.col]
theorem sep_tail (r : List It) : Sep (tailW r) := by
  cases r with
  | nil => exact .inl rfl
  | cons x r => exact .inr ⟨_, rfl⟩
theorem row_of : ∀ {ws : List It}, (∀ x ∈ ws, WordD x) → RowR ws
  | [], _ => .nil
  | x :: r, h => by
    have hx := h x (by simp)
    exact .cons (hx.wr _ (sep_tail r)) (start_of hx.st (sep_tail r)) (row_of fun y hy => h y (by simp [hy]))
theorem join_row : ∀ (ws : List It), joinL [32] (ws.map (·.w)) = headW ws
  | [] => rfl
  | [x] => by simp [joinL, headW, tailW]
  | x :: y :: r => by
    have := join_row (y :: r)
    simp only [List.map_cons] at this ⊢
    show x.w ++ [32] ++ joinL [32] (y.w :: r.map (·.w)) = _
    rw [this]
    simp [headW, tailW]
theorem tail_len : ∀ (ws : List It), (∀ x ∈ ws, x.w.length ≤ 1000) → (tailW ws).length ≤ ws.length * 1001
  | [], _ => by simp [tailW]
  | x :: r, h => by
    have h1 := h x (by simp)
    have h2 := tail_len r fun y hy => h y (by simp [hy])
    simp only [tailW, List.length_cons, List.length_append]
    omega
theorem head_len (ws : List It) (h : ∀ x ∈ ws, x.w.length ≤ 1000) : (headW ws).length ≤ ws.length * 1001 := by
  have := tail_len ws h
  cases ws with
  | nil => simp [headW]
  | cons x r =>
    simp only [tailW, List.length_cons, List.length_append, headW] at this ⊢
    omega
theorem tail_pl : ∀ (ws : List It), (∀ x ∈ ws, ∀ c ∈ x.w, 32 ≤ c) → ∀ c ∈ tailW ws, 32 ≤ c
  | [], _, c, hc => by cases hc
  | x :: r, h, c, hc => by
    simp only [tailW, List.mem_cons, List.mem_append] at hc
    rcases hc with rfl | hc | hc
    · omega
    · exact h x (by simp) c hc
    · exact tail_pl r (fun y hy => h y (by simp [hy])) c hc
theorem head_pl (ws : List It) (h : ∀ x ∈ ws, ∀ c ∈ x.w, 32 ≤ c) : ∀ c ∈ headW ws, 32 ≤ c := by
  intro c hc
  cases ws with
  | nil => cases hc
  | cons x r => exact tail_pl (x :: r) h c (List.mem_cons_of_mem _ hc)
theorem sum_row : ∀ (ws : List It), (∀ x ∈ ws, x.w.length ≤ 1000) → sumLens (ws.map (·.w)) ≤ ws.length * 1000
  | [], _ => by simp [sumLens]
  | x :: r, h => by
    have h1 := h x (by simp)
    have h2 := sum_row r fun y hy => h y (by simp [hy])
    unfold sumLens at h2 ⊢
    simp only [List.map_cons, List.sum_cons, List.length_cons]
    omega
theorem strs_ws (ws : List It) : strsOf (ws.map fun x => V.str x.w) = some (ws.map (·.w)) := by
  have := strs_map (ws.map (·.w))
  rwa [List.map_map] at this
theorem take_snoc {α : Type} {ws : List α} {i : Nat} {x : α} (h : ws[i]? = some x) : ws.take (i + 1) = ws.take i ++ [x] := by
  rw [List.take_add_one, h]; rfl
theorem eq_self {v : V} (h : v = .none ∨ ∃ s, v = .str s) : eqA v v = true := by
  rcases h with rfl | ⟨s, rfl⟩ <;> simp [eqA]
theorem eqVs_self : ∀ (ds : List Du), (∀ d ∈ ds, d.v = .none ∨ ∃ s, d.v = .str s) → eqVs (ds.map duV) (ds.map duV) = true
  | [], _ => rfl
  | d :: ds, h => by
    have h1 := eq_self (h d (by simp))
    have h2 := eqVs_self ds fun y hy => h y (by simp [hy])
    simp only [List.map_cons, eqVs, h2, Bool.and_true]
    have e : eqV (duV d) (duV d) = (eqA (.str d.k) (.str d.k) && (eqA (.str d.w) (.str d.w) && (eqA d.v d.v && (eqA (.int 1) (.int 1) && (eqA (.int d.col) (.int d.col) && true))))) := rfl
    rw [e, h1]
    simp [eqA]
theorem due_v : ∀ {c : Nat} {ws : List It}, (∀ x ∈ ws, x.v = .none ∨ ∃ s, x.v = .str s) → ∀ d ∈ dueD c ws, d.v = .none ∨ ∃ s, d.v = .str s
  | c, [], _, d, hd => by cases hd
  | c, x :: r, h, d, hd => by
    simp only [dueD, List.mem_cons] at hd
    rcases hd with rfl | hd
    · exact h x (by simp)
    · exact due_v (fun y hy => h y (by simp [hy])) d hd
theorem WordsAt.get {o : Obs} {i j : Nat} {xs : List V} {ds : List Du} (h : WordsAt o i j xs ds) : ∀ {m : Nat} {x : V}, xs[m]? = some x → ∃ d, ds[m]? = some d ∧ WordAt o i j x d := by
  induction h with
  | nil => intro m x e; simp at e
  | cons h _ ih =>
    intro m x e
    cases m with
    | zero => simp only [List.getElem?_cons_zero, Option.some.injEq] at e; subst e; exact ⟨_, rfl, h⟩
    | succ m => simp only [List.getElem?_cons_succ] at e ⊢; exact ih e

section
variable {N n : Nat} {b o : Obs} {i k p : Nat} {t s r : List Nat} {c : Nat} {Q : V → Obs → Prop} {l : Loc} {ms : List (EM V)}

theorem items_ref {j : Nat} {xs : List V} {m : Nat} (h : o[j]? = some (.list xs)) : itemAt (.ref j) o m = some xs[m]? := by simp only [itemAt, h]
theorem c_eqL {i j : Nat} {xs : List V} (h1 : o[i]? = some (.list xs)) (h2 : o[j]? = some (.list xs)) (hn : xs ≠ []) (hij : i ≠ j) (he : eqVs xs xs = true) (q : Q (.bool true) o) : CmpW .Eq (.ref i) (.ref j) o Q := by
  refine ⟨true, ?_, q⟩
  show cmpEq (.ref i) (.ref j) o = _
  unfold cmpEq
  simp only [h1, h2]
  cases xs with
  | nil => exact absurd rfl hn
  | cons x xs => rw [if_pos ⟨hij, he⟩]

theorem comp_texts {ws : List It} {wj : Nat} {Q : V → Obs → Prop} (hN : 1000000 ≤ N) (l1 : G l "words" (.ref wj)) (hw : o[wj]? = some (.list (ws.map itV))) (hl : ws.length < 1000) (q : ∀ o', Ag [] o o' → o'[o.length]? = some (.list (ws.map fun x => .str x.w)) → Q (.ref o.length) o') :
    WE (compM (cfg N n) (some (.many ["kind", "text", "value"])) [] (locM "words") (locM "text")) l o Q := by
  refine w_comp ?_
  k_extra "mw"
  refine ⟨ws.map itV, fun m o' => Ag [] o o' ∧ o'[o.length]? = some (.list ((ws.take m).map fun x => .str x.w)), by simp; omega, ⟨ag_push, by simpa using get_push⟩, fun m o' h => items_ref (h.1.get hw (by simp)), ?_, ?_⟩
  · rintro m o' x ⟨a, h⟩ hx
    rw [List.getElem?_map] at hx
    obtain ⟨y, hy, rfl⟩ := Option.map_eq_some_iff.mp hx
    refine ⟨[("kind", _), ("text", _), ("value", _)], rfl, ?_⟩
    k_extra "mw"
    refine ⟨_, h, by simp; omega, a.set (.inr (Nat.le_refl _)), ?_⟩
    rw [get_set h, take_snoc hy]; simp
  · rintro o' ⟨a, h⟩
    rw [List.length_map, List.take_length] at h
    exact q o' a h

theorem comp_found {rs : List V} {ds : List Du} {i j jf : Nat} {Q : V → Obs → Prop} (hN : 1000000 ≤ N) (l1 : G l "found" (.ref jf)) (hf : o[jf]? = some (.list rs)) (wa : WordsAt o i j rs ds) (hl : ds.length < 1000) (q : ∀ o', Ag [] o o' → o'[o.length]? = some (.list (ds.map duV)) → Q (.ref o.length) o') :
    WE (compM (cfg N n) (some (.one "word")) [] (locM "found") (tupM [(attrM (locM "word") "kind"), (attrM (locM "word") "text"), (attrM (locM "word") "value"), (attrM (locM "word") "line"), (attrM (locM "word") "column")])) l o Q := by
  have hlen := wa.len
  refine w_comp ?_
  k_extra "mw"
  refine ⟨rs, fun m o' => Ag [] o o' ∧ o'[o.length]? = some (.list ((ds.take m).map duV)), by omega, ⟨ag_push, by simpa using get_push⟩, fun m o' h => items_ref (h.1.get hf (by simp)), ?_, ?_⟩
  · rintro m o' x ⟨a, h⟩ hx
    obtain ⟨d, hd, mm, fs, rfl, -, -, ho, W⟩ := wa.get hx
    have ho := a.get ho (by simp)
    refine ⟨[("word", _)], rfl, ?_⟩
    k_extra "mw"
    refine a_inst ho W.kind ?_
    k_extra "mw"
    refine a_inst ho W.text ?_
    k_extra "mw"
    refine a_inst ho W.value ?_
    k_extra "mw"
    refine a_inst ho W.line ?_
    k_extra "mw"
    refine a_inst ho W.column ?_
    k_extra "mw"
    refine ⟨_, h, by simp; omega, a.set (.inr (Nat.le_refl _)), ?_⟩
    rw [get_set h, take_snoc hd]; simp [duV]
  · rintro o' ⟨a, h⟩
    rw [hlen, List.take_length] at h
    exact q o' a h

theorem c_right {ws : List It} {wj : Nat} (hN : 1000000 ≤ N) (hw : o[wj]? = some (.list (ws.map itV))) (W : ∀ x ∈ ws, WordD x) (hl : ws.length ≤ 10) (q : ∀ o', Ag [] o o' → Q (.bool true) o') : WC N (n + 8) "" "_law_is_right" [.ref wj] o Q := by
  refine W_law_is_right ?_
  unfold B_law_is_right
  k_extra "mw"
  refine t_for ?_
  k_extra "mw"
  have hp : (o ++ [Ob.list []])[o.length]? = some (.list []) := get_push
  refine ⟨ws.map itV, fun m l o' => G l "words" (.ref wj) ∧ G l "due" (.ref o.length) ∧ G l "column" (.int (cEnd 0 (ws.take m) + 1 : Nat)) ∧ Ag [] o o' ∧ o'[o.length]? = some (.list ((dueD 0 (ws.take m)).map duV)), by simp; omega,
    ⟨by k_extra "lk", by k_extra "lk", by show G _ "column" (.int 1); k_extra "lk", ag_push, by simpa [dueD] using hp⟩, fun m l o' h => items_ref (h.2.2.2.1.get hw (by simp)), ?_, ?_⟩
  · rintro m l o' x ⟨l1, l2, l3, a, h⟩ hx
    rw [List.getElem?_map] at hx
    obtain ⟨y, hy, rfl⟩ := Option.map_eq_some_iff.mp hx
    have hym := (W y (List.mem_of_getElem? hy)).le
    have hdl : ∀ (c : Nat) (a : List It), (dueD c a).length = a.length := by
      intro c a
      induction a generalizing c with
      | nil => rfl
      | cons x a ih => simp [dueD, ih]
    refine ⟨[("kind", _), ("text", _), ("value", _)], rfl, ?_⟩
    k_extra "mw"
    refine m_app h ?_
    k_extra "mw"
    refine ex_app h (by rw [List.length_map, hdl, List.length_take]; omega) ?_
    k_extra "mw"
    refine bl_lenS (by omega) ?_
    k_extra "mw"
    have e1 := take_snoc hy
    refine ⟨by k_extra "lk", by k_extra "lk", ?_, a.set (.inr (Nat.le_refl _)), ?_⟩
    · rw [e1, cEnd_append]
      have e2 : ((cEnd 0 (ws.take m) + y.w.length + 1 + 1 : Nat) : Int) = ((cEnd 0 (ws.take m) + 1 : Nat) : Int) + y.w.length + 1 := by omega
      rw [e2]
      exact lkp_here
    · rw [get_set h, e1, dueD_append]; simp [duV]
  · rintro l o' ⟨l1, l2, l3, a, h⟩
    rw [List.length_map, List.take_length] at h l3
    have hdl : (dueD 0 ws).length = ws.length := by
      have : ∀ (c : Nat) (a : List It), (dueD c a).length = a.length := by
        intro c a
        induction a generalizing c with
        | nil => rfl
        | cons x a ih => simp [dueD, ih]
      exact this 0 ws
    k_extra "mw"
    refine m_app h ?_
    k_extra "mw"
    refine ex_app h (by rw [List.length_map, hdl]; omega) ?_
    k_extra "mw"
    refine m_join ?_
    k_extra "mw"
    have hset := get_set (y := Ob.list ((dueD 0 ws).map duV ++ [.tup [.str [101, 110, 100], .str [], .none, .int 1, .int (if ((cEnd 0 ws + 1 : Nat) : Int) - 1 > 1 then ((cEnd 0 ws + 1 : Nat) : Int) - 1 else 1)]])) h
    have aset : Ag [] o (o'.set o.length (.list ((dueD 0 ws).map duV ++ [.tup [.str [101, 110, 100], .str [], .none, .int 1, .int (if ((cEnd 0 ws + 1 : Nat) : Int) - 1 > 1 then ((cEnd 0 ws + 1 : Nat) : Int) - 1 else 1)]]))) := a.set (.inr (Nat.le_refl _))
    have edue : (dueD 0 ws).map duV ++ [.tup [.str [101, 110, 100], .str [], .none, .int 1, .int (if ((cEnd 0 ws + 1 : Nat) : Int) - 1 > 1 then ((cEnd 0 ws + 1 : Nat) : Int) - 1 else 1)]] = (dueAll ws).map duV := by
      unfold dueAll
      rw [List.map_append]
      congr 1
      simp only [List.map_cons, List.map_nil, duV]
      have : (if ((cEnd 0 ws + 1 : Nat) : Int) - 1 > 1 then ((cEnd 0 ws + 1 : Nat) : Int) - 1 else 1) = ((cEnd 0 ws - 1 + 1 : Nat) : Int) := by split <;> omega
      rw [this]; rfl
    rw [edue] at hset aset ⊢
    refine comp_texts hN l1 (aset.get hw (by simp)) (by omega) fun o2 a2 ht => ?_
    k_extra "mw"
    refine ⟨_, _, _, rfl, ht, strs_ws ws, ?_, ?_⟩
    · have h1 := sum_row ws fun x hx => (W x hx).le
      simp only [List.length_map, List.length_singleton, Nat.mul_one]
      unfold strLim; omega
    k_extra "mw"
    rw [join_row]
    have hd2 := a2.get hset (by simp)
    have hlen := head_len ws fun x hx => (W x hx).le
    refine c_words hN (row_of W) (by omega) (by omega) (head_pl ws fun x hx => (W x hx).pl) fun o3 i3 j3 rs a3 hf wa hj3 => ?_
    have hd3 := a3.get hd2 (by simp)
    k_extra "mw"
    have hda : (dueAll ws).length < 1000 := by unfold dueAll; simp; omega
    refine comp_found hN (by k_extra "lk") hf wa hda fun o4 a4 h4 => ?_
    have hd4 := a4.get hd3 (by simp)
    k_extra "mw"
    have hlt3 := lt_of_get hd3
    refine c_eqL h4 hd4 (by unfold dueAll; simp) (by omega) ?_ ?_
    · refine eqVs_self _ fun d hd => ?_
      unfold dueAll at hd
      rcases List.mem_append.mp hd with hd | hd
      · exact due_v (fun x hx => (W x hx).vs) d hd
      · simp only [List.mem_singleton] at hd
        subst hd; exact .inl rfl
    · k_extra "mw"
      exact q _ (aset.trans (a2.trans (a3.trans a4)))

theorem c_trunk {ns : List Int} (hl : ns.length ≤ 63) (q : ∀ o' k, Ag [] o o' → TrAt o' k → Q (.ref k) o') : WC N (n + 1) "" "_law_trunk" [.ints ns] o Q := by
  refine W_law_trunk ?_
  unfold B_law_trunk
  have fin : ∀ (told : Int) (l : Loc), G l "told" (.int told) → WS (thenS (assignM "size" (iteM (testM (cmpM .GtE (locM "told") (retE (.int 0)))) (locM "told") (binM .Sub (retE (.int 29)) (binM .Mult (retE (.int 2)) (locM "told"))))) (thenS (ifM (testM (cmpM .Eq (locM "told") (retE (.int 0)))) (thenS (retM (listM [(retE (.int 0)), (retE (.int 0))])) nextS) nextS) (thenS (retM (listM [(iteM (testM (cmpM .GtE (locM "size") (binM .Pow (retE (.int 10)) (retE (.int 15))))) (locM "size") (retE (.int 0))), (binM .Mod (binM .Add (binM .Add (binM .Mult (binM .Mod (locM "size") (retE (.int 1999867))) (retE (.int 2))) (bltM "int" [(cmpM .Lt (locM "told") (retE (.int 0)))])) (retE (.int 61))) (retE (.int 2147483399)))])) nextS))) l o (EndW Q) := by
    intro told l l1
    have fin2 : ∀ (size : Int) (l : Loc), 0 ≤ size → G l "told" (.int told) → G l "size" (.int size) → WS (thenS (ifM (testM (cmpM .Eq (locM "told") (retE (.int 0)))) (thenS (retM (listM [(retE (.int 0)), (retE (.int 0))])) nextS) nextS) (thenS (retM (listM [(iteM (testM (cmpM .GtE (locM "size") (binM .Pow (retE (.int 10)) (retE (.int 15))))) (locM "size") (retE (.int 0))), (binM .Mod (binM .Add (binM .Add (binM .Mult (binM .Mod (locM "size") (retE (.int 1999867))) (retE (.int 2))) (bltM "int" [(cmpM .Lt (locM "told") (retE (.int 0)))])) (retE (.int 61))) (retE (.int 2147483399)))])) nextS)) l o (EndW Q) := by
      intro size l hs l1 l2
      k_extra "mw"
      constructor
      · intro _
        k_extra "mw"
        exact q _ _ ag_push ⟨0, 0, get_push, by omega, by omega, by omega⟩
      · intro _
        have last : ∀ z : Int, 0 ≤ z → WE (seqM [(binM .Mod (binM .Add (binM .Add (binM .Mult (binM .Mod (locM "size") (retE (.int 1999867))) (retE (.int 2))) (bltM "int" [(cmpM .Lt (locM "told") (retE (.int 0)))])) (retE (.int 61))) (retE (.int 2147483399)))]) l o (fun vs o₂ => EndW Q (.ret (.ref o₂.length)) l (o₂ ++ [.list (.int z :: vs)])) := by
          intro z hz
          k_extra "mw"
          refine b_modI (by omega) ?_
          rw [Int.fmod_eq_emod_of_nonneg _ (by omega)]
          have h0 := Int.emod_nonneg size (b := 1999867) (by omega)
          have h1 := Int.emod_lt_of_pos size (b := 1999867) (by omega)
          k_extra "mw"
          refine b_mulI (by omega) ?_
          k_extra "mw"
          refine b_modI (by omega) ?_
          rw [Int.fmod_eq_emod_of_nonneg _ (by omega)]
          k_extra "mw"
          exact q _ _ ag_push ⟨z, _, get_push, hz, Int.emod_nonneg _ (by omega), Int.emod_lt_of_pos _ (by omega)⟩
        k_extra "mw"
        refine b_pow ?_
        k_extra "mw"
        constructor
        · intro _
          refine w_loc l2 ?_
          exact (last size hs).mono fun _ _ h => h
        · intro _
          refine w_ret ?_
          exact (last 0 (by omega)).mono fun _ _ h => h
    k_extra "mw"
    constructor
    · intro h0
      have h0 := of_decide_eq_true h0
      refine w_loc l1 ?_
      exact fin2 told _ h0 (by k_extra "lk") (by k_extra "lk")
    · intro h0
      have h0 := of_decide_eq_false h0
      refine w_bin (w_ret (w_bin (w_ret (w_loc l1 (b_mulI (by omega) (b_subI ?_))))))
      refine then_next ?_
      exact fin2 (29 - 2 * told) _ (by omega) (by k_extra "lk") (by k_extra "lk")
  refine t_then (t_assign ?_)
  k_extra "mw"
  cases ns with
  | nil =>
    refine cond_f (by decide) ?_
    refine w_ret (then_next ?_)
    exact fin 0 _ (by k_extra "lk")
  | cons z ns =>
    refine cond_t (by simp) ?_
    k_extra "mw1"
    k_extra "mw1"
    k_extra "mw1"
    refine s_ints (by omega) (v := z) rfl ?_
    refine then_next ?_
    exact fin z _ (by k_extra "lk")
end

section
variable {N n : Nat} {o : Obs} {k : Nat} {Q : V → Obs → Prop} {l : Loc}

theorem told_row : TextD [92, 97, 92, 69, 83, 67, 92, 94, 77, 92, 118, 92, 98, 92, 68, 69, 76, 92, 92] [7, 27, 13, 11, 8, 127, 92] 140 := by
  have h0 : TextD [] [] 0 := ⟨fun _ _ => .nil, by simp, by simp, by simp⟩
  have h1 := h0.esc (esc_plain (97, 7) (by decide))
  have h2 := h1.esc (esc_name (w := [69, 83, 67]) (k := 27) (by decide +kernel))
  have h3 := h2.esc (esc_ctl (p := 13) (by decide))
  have h4 := h3.esc (esc_plain (118, 11) (by decide))
  have h5 := h4.esc (esc_plain (98, 8) (by decide))
  have h6 := h5.esc (esc_name (w := [68, 69, 76]) (k := 127) (by decide +kernel))
  have h7 := h6.esc (esc_plain (92, 92) (by decide))
  exact h7
noncomputable def rowL : List It := [⟨kText, [34, 92, 97, 92, 69, 83, 67, 92, 94, 77, 92, 118, 92, 98, 92, 68, 69, 76, 92, 92, 34], .str [7, 27, 13, 11, 8, 127, 92]⟩, ⟨kKey, [105, 110, 102, 105, 120, 114], .none⟩, ⟨kOp, [61, 62], .none⟩]
theorem row_ok : ∀ x ∈ rowL, WordD x := by
  intro x hx
  simp only [rowL, List.mem_cons, List.not_mem_nil, or_false] at hx
  rcases hx with rfl | rfl | rfl
  · exact word_text told_row (by decide)
  · exact word_name (w := [105, 110, 102, 105, 120, 114]) (by decide +kernel)
  · exact word_op (w := [61, 62]) (by decide +kernel)

theorem free_trunk {v : V} (h : G l "trunk" v) : freesOf ["trunk"] l = ([("trunk", v)] : Loc) := by
  unfold freesOf
  simp only [List.filterMap_cons, List.filterMap_nil]
  rw [show List.lookup (Str.ofString "trunk") l = some v from h]
  rfl

theorem law_run {ns : List Int} (hN : 1000000 ≤ N) (hl : ns.length ≤ 63) : WS (B_law (cfg N (n + 8))) [("script", .ints ns)] [] (EndW fun v _ => v = .bool true) := by
  unfold B_law
  k_extra "mw"
  refine m_join ?_
  k_extra "mw"
  refine w_comp ?_
  k_extra "mw"
  have h0 : ([] ++ [Ob.list [.int 7, .int 27, .int 13, .int 11, .int 8, .int 127, .int 92]])[0]? = some (.list (([7, 27, 13, 11, 8, 127, 92] : List Nat).map fun (c : Nat) => V.int c)) := rfl
  refine ⟨([7, 27, 13, 11, 8, 127, 92] : List Nat).map fun (c : Nat) => V.int c, fun m o' => Ag [] ([] ++ [Ob.list [.int 7, .int 27, .int 13, .int 11, .int 8, .int 127, .int 92]]) o' ∧ o'[1]? = some (.list ((([7, 27, 13, 11, 8, 127, 92] : List Nat).take m).map fun (c : Nat) => V.str [c])), by simp; omega, ⟨ag_push, rfl⟩, fun m o' h => items_ref (h.1.get h0 (by simp)), ?_, ?_⟩
  · rintro m o' x ⟨a, h⟩ hx
    rw [List.getElem?_map] at hx
    obtain ⟨c, hc, rfl⟩ := Option.map_eq_some_iff.mp hx
    have hcl : c < 128 := by
      have : ∀ c ∈ ([7, 27, 13, 11, 8, 127, 92] : List Nat), c < 128 := by decide
      exact this c (List.mem_of_getElem? hc)
    refine ⟨[("number", _)], rfl, ?_⟩
    k_extra "mw"
    refine bl_chr (by omega) ?_
    rw [Int.toNat_natCast]
    refine ⟨_, h, by simp; omega, a.set (.inr (by simp)), ?_⟩
    show (o'.set 1 _)[1]? = _
    rw [get_set h, take_snoc hc]; simp
  rintro o1 ⟨a1, h1⟩
  k_extra "mw"
  refine ⟨1, _, _, rfl, h1, strs_of _, by decide, ?_⟩
  k_extra "mw"
  rw [join_ones]
  have hrow : ((o1 ++ [Ob.list (rowL.map itV)])[o1.length]? = some (.list (rowL.map itV))) := get_push
  refine c_right hN hrow row_ok (by decide) fun o2 a2 => ?_
  k_extra "mw"
  refine cond_f rfl ?_
  k_extra "mw"
  refine c_trunk hl fun o3 k a3 t3 => ?_
  k_extra "mw"
  refine w_comp ?_
  k_extra "mw"
  refine c_pull (m := 7) (by decide) t3 fun v o4 hv a4 t4 => ?_
  k_extra "mw"
  refine bl_rng (by omega) ?_
  have hk4 := t4.lt
  refine ⟨(List.range v).map fun (m : Nat) => V.int m, fun m o' => TrAt o' k ∧ o4.length < o'.length ∧ ∃ ws : List It, ws.length = m ∧ (∀ x ∈ ws, WordD x) ∧ m ≤ v ∧ o'[o4.length]? = some (.list (ws.map itV)), by simp; omega, ⟨t4.push, by simp, [], rfl, by simp, by omega, get_push⟩, fun m o' h => items_rng, ?_, ?_⟩
  · rintro m o' x ⟨t5, hlt, ws, rfl, W, hm, h5⟩ hx
    have hmv : ws.length < v := by
      have := (List.getElem?_eq_some_iff.mp hx).1
      simpa using this
    refine ⟨[("turn", _)], rfl, ?_⟩
    rw [free_trunk (by k_extra "lk")]
    k_extra "mw"
    refine c_lword hN t5 fun x o6 Wx a6 t6 => ?_
    have h6 := a6.get h5 (by simp; omega)
    refine ⟨_, h6, by simp; omega, t6.ag (W := [o4.length]) ((Ag.refl _ _).set (.inl (by simp))) (by simp; omega), by have := a6.le; simp; omega, ws ++ [x], by simp, ?_, by omega, ?_⟩
    · intro y hy
      rcases List.mem_append.mp hy with hy | hy
      · exact W y hy
      · simp only [List.mem_singleton] at hy; subst hy; exact Wx
    · rw [get_set h6]; simp [itV]
  rintro o5 ⟨t5, hlt, ws, hws, W, hm, h5⟩
  k_extra "mw"
  have hws : ws.length ≤ 10 := by
    simp only [List.length_map, List.length_range] at hws
    omega
  refine c_right hN h5 W hws fun o6 a6 => ?_
  k_extra "mw"
  rfl
theorem law_true (ns : List Int) (h : ¬ (63 : Int) < (ns.length : Int)) : ∃ N l' o', b_law (cfg N 12) [("script", .ints ns)] [] = some (.ret (.bool true), l', o') := by
  obtain ⟨f, l', o', e, hq⟩ := law_run (N := 1000000) (n := 4) (ns := ns) (Nat.le_refl _) (by omega)
  refine ⟨1000000, l', o', ?_⟩
  rw [B_law_eq]
  cases f with
  | next => cases hq
  | ret v =>
    have : v = .bool true := hq
    subst this
    exact e
end

end Mine.L
end

section
open PySem PySem.W PyProof.Rows
set_option Elab.async false
set_option maxRecDepth 100000
set_option maxHeartbeats 8000000
namespace Mine


theorem law_true (ns : List Int) (h : ¬ (63 : Int) < (ns.length : Int)) : ∃ N l' o', b_law (cfgR N 12) [("script", .ints ns)] [] = some (.ret (.bool true), l', o') := L.law_true ns h
theorem main2 {prog p : Program} {w : World} {loose : List Str} {mean : ExcName → Option Value} {mg mb : Str → Option Value} {s₁ : Shared} {h₁ : Heap} {tk : Nat} {K : Frag} {a : Addr} {vs : List Value} {ns : List Int}
    {ob : Obj} {env : Env} {A : Around} {Q : Flow → Shared → Prop} {E : Value → Shared → Prop} {m : Str → Option Value} {cv : Option Value} {bd : List Stmt}
    (hb : bodyOf s_law = bd) (hs : scopeOf s_law = env.scope) (hk : (scopeOf s_law).kind = .function) (hg : env.globals = mainGlobals) (hbi : env.builtins = builtinsNs)
    (hl : env.locals = s₁.heap.objs.size) (hcl : env.cells = [(("trunk" : Str), s₁.heap.objs.size + 1)])
    (KX : K.In s₁.heap) (ok : KOk K w.params) (T : Top p loose mean mg mb s₁.heap) (hL : s₁.heap.IsList a vs.toArray) (hI : IntsAre vs ns) (hc : ¬ ((63 : Int) < (ns.length : Int)))
    (F : Fr s₁.heap s₁.heap.objs.size h₁ m) (hm : m "script" = some (.ref a)) (N0 : News s₁.heap s₁.heap.objs.size h₁ [(s₁.heap.objs.size + 1, ob)]) (hob : ob.data = .cell cv)
    (hr : A.handled = none ∧ A.depth = 302 ∧ A.units = 7)
    (hQ : ∀ s', (∀ b o, s₁.heap.get? b = some o → s'.heap.get? b = some o) → s'.os = s₁.os → s'.gens = s₁.gens → Q (.ret (.bool true)) s') :
    wpAny (model prog w) A (execs bd env) Q E { s₁ with heap := h₁, toks := tk } := by
  obtain ⟨N, l', o', law⟩ := law_true ns hc
  subst hb
  have he : EnvOk (scopeOf s_law) env := by
    refine ⟨hs.symm, hk, hg, hbi, fun y e => ?_⟩
    rw [hcl]
    have h2 : ∀ q ∈ (scopeOf s_law).names, (q.2 != .cell || q.1 == ("trunk" : Str)) = true := by
      have : ((scopeOf s_law).names.all fun q => q.2 != .cell || q.1 == ("trunk" : Str)) = true := by kernel_rfl
      exact List.all_eq_true.mp this
    have h3 := h2 _ (mem_lookup e)
    simp only [bne_self_eq_false, Bool.false_or, beq_iff_eq] at h3
    subst h3
    exact ⟨_, L.lk_here⟩
  have hr' : Room A 25 := ⟨hr.1, by rw [hr.2.1]; decide, by rw [hr.2.2]; decide⟩
  exact @main prog p w loose mean mg mb s₁ h₁ tk K a vs ns ob env A Q E m cv KX ok T hL hI hc F hm N0 hob he hl hcl hr' N l' o' law hQ
end Mine
end

section
open PySem PySem.W PySem.Calls PyProof.Rows PyProof.V
set_option linter.unusedVariables false
set_option maxRecDepth 100000
set_option maxHeartbeats 4000000
set_option Elab.async false
namespace Mine

theorem frH_in {h : Heap} : ∀ {as : List Addr}, (frH h as).In h
  | [], a, o, e => by cases e
  | b :: as, a, o, e => by
    unfold frH at e
    rw [List.filterMap_cons] at e
    cases hb : h.get? b with
    | none =>
      rw [hb] at e
      exact frH_in (as := as) a o e
    | some ob =>
      rw [hb] at e
      simp only [Option.map_some] at e
      rw [List.lookup_cons] at e
      split at e
      · rename_i hab
        cases e
        rw [eq_of_beq hab]; exact hb
      · exact frH_in (as := as) a o e
theorem adG_of {K : Frag} {f : Str} (h : isR (nsIn K mainGlobals f) = true) : nsIn K mainGlobals f = some (some (.ref (adG K f))) := by
  unfold isR at h
  split at h
  · rename_i a e
    unfold adG
    rw [e]
  · cases h
theorem adM_of {K : Frag} {c f : Str} (h : isR (findIn K (.ref (adG K c)) f) = true) : findIn K (.ref (adG K c)) f = some (some (.ref (adM K c f))) := by
  unfold isR at h
  split at h
  · rename_i a e
    unfold adM
    rw [e]
  · cases h
theorem clsK_of {K : Frag} {c : Str} (h : clsO K c = clsV) : ClsK K c := by
  unfold clsO clsV at h
  obtain ⟨h1, h⟩ := Prod.mk.inj h
  obtain ⟨h2, h⟩ := Prod.mk.inj h
  obtain ⟨h3, h⟩ := Prod.mk.inj h
  obtain ⟨h4, h⟩ := Prod.mk.inj h
  obtain ⟨h5, h6⟩ := Prod.mk.inj h
  exact ⟨adG_of h1, h2, h3, h4, h5, h6⟩
theorem map_iff {α β : Type} {f g : α → β} : ∀ {l : List α}, (∀ a ∈ l, f a = g a) → l.map f = l.map g
  | [], _ => rfl
  | a :: l, h => by rw [List.map_cons, List.map_cons, h a (by simp), map_iff fun b hb => h b (by simp [hb])]
theorem kok_of {K : Frag} {P : Params} (h : obsK K = valK P) : KOk K P := by
  unfold obsK valK at h
  obtain ⟨h1, h⟩ := Prod.mk.inj h
  obtain ⟨h2, h⟩ := Prod.mk.inj h
  obtain ⟨h3, h⟩ := Prod.mk.inj h
  obtain ⟨h4, h⟩ := Prod.mk.inj h
  obtain ⟨h5, h⟩ := Prod.mk.inj h
  obtain ⟨h6, h⟩ := Prod.mk.inj h
  obtain ⟨h7, h⟩ := Prod.mk.inj h
  obtain ⟨h8, h⟩ := Prod.mk.inj h
  obtain ⟨h9, h⟩ := Prod.mk.inj h
  obtain ⟨h10, h⟩ := Prod.mk.inj h
  obtain ⟨h11, h⟩ := Prod.mk.inj h
  obtain ⟨h12, h⟩ := Prod.mk.inj h
  obtain ⟨h13, h14⟩ := Prod.mk.inj h
  have hd : ∀ p ∈ nmD, dfO K p = some true := fun p hp => map_at h12 hp
  have ht := List.all_eq_true.mp h8
  have hm := List.all_eq_true.mp h9
  have e := adG_of h2
  simp only [nmL, stL, List.map_cons, List.map_nil, List.cons.injEq, and_true] at h11
  obtain ⟨q0, q1, q2, q3, q4, q5, q6, q7, q8, q9, q10, q11, q12, q13, q14, q15, q16, q17, q18, q19, q20, q21, q22, q23, q24, q25, q26, q27, q28, q29, q30, q31, q32, q33⟩ := h11
  refine { glob := h1, escA := ?_, escL := h3, escD := h4, miss := h5, clsW := clsK_of h6, clsS := clsK_of h7, top := map_iff fun f hf => adG_of (ht f hf), met := map_iff fun p hp => adM_of (hm p hp), metT := h10, dSign := h13, dWord := h14, f_Word_init := q0, f_Word_place := q1, f_Signs_init := q2, f_Signs_sign := q3, f_Signs_starts := q4, f_Signs_step := q5, f_Signs_take := q6, f_Signs_place := q7, f_is_among := q8, f_is_bare := q9, f_name_letters := q10, f_is_line_comment := q11, f_skip_between := q12, f_number_of := q13, f_checked_sign := q14, f_named_escape := q15, f_read_escape := q16, f_read_char := q17, f_read_text := q18, f_symbol_kind := q19, f_read_word := q20, f_words_of := q21, f_law_trunk := q22, f_law_pull := q23, f_law_one := q24, f_law_named := q25, f_law_escape := q26, f_law_based := q27, f_law_text := q28, f_law_sign := q29, f_law_name := q30, f_law_operator := q31, f_law_word := q32, f_law_is_right := q33, d_Word_place := hd (("Word" : Str), ("place" : Str)) (by simp [nmD]), d_Signs_init := hd (("Signs" : Str), ("__init__" : Str)) (by simp [nmD]), d_Signs_starts := hd (("Signs" : Str), ("starts" : Str)) (by simp [nmD]), d_Signs_step := hd (("Signs" : Str), ("step" : Str)) (by simp [nmD]), d_Signs_take := hd (("Signs" : Str), ("take" : Str)) (by simp [nmD]), d_Signs_place := hd (("Signs" : Str), ("place" : Str)) (by simp [nmD]), d_is_among := hd (("" : Str), ("is_among" : Str)) (by simp [nmD]), d_is_bare := hd (("" : Str), ("is_bare" : Str)) (by simp [nmD]), d_name_letters := hd (("" : Str), ("name_letters" : Str)) (by simp [nmD]), d_is_line_comment := hd (("" : Str), ("is_line_comment" : Str)) (by simp [nmD]), d_skip_between := hd (("" : Str), ("skip_between" : Str)) (by simp [nmD]), d_number_of := hd (("" : Str), ("number_of" : Str)) (by simp [nmD]), d_checked_sign := hd (("" : Str), ("checked_sign" : Str)) (by simp [nmD]), d_named_escape := hd (("" : Str), ("named_escape" : Str)) (by simp [nmD]), d_read_escape := hd (("" : Str), ("read_escape" : Str)) (by simp [nmD]), d_read_char := hd (("" : Str), ("read_char" : Str)) (by simp [nmD]), d_read_text := hd (("" : Str), ("read_text" : Str)) (by simp [nmD]), d_symbol_kind := hd (("" : Str), ("symbol_kind" : Str)) (by simp [nmD]), d_read_word := hd (("" : Str), ("read_word" : Str)) (by simp [nmD]), d_words_of := hd (("" : Str), ("words_of" : Str)) (by simp [nmD]), d_law_trunk := hd (("" : Str), ("_law_trunk" : Str)) (by simp [nmD]), d_law_pull := hd (("" : Str), ("_law_pull" : Str)) (by simp [nmD]), d_law_one := hd (("" : Str), ("_law_one" : Str)) (by simp [nmD]), d_law_named := hd (("" : Str), ("_law_named" : Str)) (by simp [nmD]), d_law_escape := hd (("" : Str), ("_law_escape" : Str)) (by simp [nmD]), d_law_based := hd (("" : Str), ("_law_based" : Str)) (by simp [nmD]), d_law_text := hd (("" : Str), ("_law_text" : Str)) (by simp [nmD]), d_law_sign := hd (("" : Str), ("_law_sign" : Str)) (by simp [nmD]), d_law_name := hd (("" : Str), ("_law_name" : Str)) (by simp [nmD]), d_law_operator := hd (("" : Str), ("_law_operator" : Str)) (by simp [nmD]), d_law_word := hd (("" : Str), ("_law_word" : Str)) (by simp [nmD]), d_law_is_right := hd (("" : Str), ("_law_is_right" : Str)) (by simp [nmD]) }
  unfold readG
  rw [e]; rfl
noncomputable def HK : Hook := ⟨OT, fun s => obsK (frH s.heap asL), fun w => valK w.params, fun w h => ∃ K : Frag, K.In h ∧ KOk K w.params, fun w s e => ⟨_, frH_in, kok_of e⟩, fun w h h' ⟨K, x, ok⟩ k => ⟨K, x.keeps k, ok⟩⟩

end Mine
end

section
open PySem PySem.W PyProof.Rows
set_option maxRecDepth 1000000
set_option maxHeartbeats 0
set_option Elab.async false
namespace Mine
end Mine
end

section
open PySem PySem.W PyProof.Rows
set_option maxRecDepth 1000000
set_option maxHeartbeats 0
set_option Elab.async false
namespace Mine
theorem ends (W : World) (h : ∀ os, (topFrom treeTable pp W 5422 ⟨boot_heap W.params, #[], boot_drawn, boot_toks, os⟩).map look = some (openGood vw loo, valK W.params)) : (openEnds treeTable pp W 5422).map look = some (openGood vw loo, valK W.params) := by
  obtain ⟨⟨h0, gs, d, k, os⟩, e, e'⟩ := Option.map_eq_some_iff.mp (opens W)
  obtain ⟨rfl, rfl, rfl, rfl⟩ : h0 = boot_heap W.params ∧ gs = #[] ∧ d = boot_drawn ∧ k = boot_toks := by simpa using e'
  unfold openEnds
  rw [e]
  exact h os
theorem left : LeftO pp vw loo (fun s => xlAt vw lvs s && recOk (RowW.records rr) s) HK.obs HK.val 5422 :=
  byRow2 (P := fun w => (openEnds treeTable pp w 5422).map look = some (openGood vw loo, valK w.params)) "special-get-raises" (fun w => ends _ (runF w)) (fun w => ends _ (runT w))
end Mine
end

open PySem PySem.W PyProof.Rows
set_option Elab.async false
set_option maxRecDepth 100000
set_option maxHeartbeats 8000000
theorem PySem.Challenge.cw_xw0150_01_holds : PySem.Challenge.rw_xw0150_01.Holds := by
  w_on
  refine holds_law Mine.said fun said => ?_
  refine holds_open (q := Mine.vw) (loose := Mine.loo) (Xt := fun s => xlAt Mine.vw Mine.lvs s && recOk (RowW.records Mine.rr) s) (XP := XL Mine.vw Mine.lvs) (Yf := Mine.HK.obs) (Ya := Mine.HK.val) (YP := Mine.HK.says) (N := 5422) Mine.left Mine.HK.of Mine.HK.keeps (fun s e => xl_of s (Bool.and_eq_true_iff.mp e).1) XL.keeps (by rfl) (by rfl) (by rfl) (fun s e => recFacts_of (Bool.and_eq_true_iff.mp e).2) (by rfl) (by assumption) (by decide +kernel) Mine.said_bare ?hw ?hc
  case hw => w_witness2
  case hc =>
    intro w s₀ s₁ mg mb G Y fa o pm cd doc dV kV ho hd hcd hD hmg hg args vals as hpre hlay hrd hwl hlo
    obtain ⟨K, KX, ok⟩ := Y
    refine Ground.open G ?_
    intro T B D TE TW
    try (refine guard_noD D (by decide +kernel) ?_; clear D)
    obtain ⟨_, _, M⟩ := bmod_of_top T
    have TA := at_of_top T
    try (obtain ⟨_, _, he, B0⟩ := based_of_top T rfl hmg ho hd; have he' : cd = _ := he; subst he'; clear he)
    clear hmg
    wrow_args hpre hlay hrd hwl hlo
    first | refine callC_kw (enter_call ?_) | refine enter_call ?_ | refine callC_kw (enter_callW ?_) | refine enter_callW ?_ | w_how
    w_top on
    try refine codeAny_mono ?_ (fun _ _ g => GoodW.toG g)
    have K0 := below_caller (Top.heap T)
    w_call any ho hd hcd hD T F
    clear hd TA
    rename_i a1 a2 a3 a4 ns hs hlay hL1 hr1 hl2 a5 a6 a7 a8 a9 hL ra w1 r0 hI hr hc tr h₁ tk a10 right N0 X0
    refine @Mine.main2 _ _ w _ _ mg mb s₁ h₁ tk K _ _ ns _ _ _ _ _ _ _ _ ?hb ?hs ?hk ?hg ?hbi ?hl ?hcl KX ok T hL hI hc F ?hm N0 right ?hr ?hQ
    case hb => kernel_rfl
    case hs => kernel_rfl
    case hk => kernel_rfl
    case hg => kernel_rfl
    case hbi => kernel_rfl
    case hl => kernel_rfl
    case hcl => kernel_rfl
    case hm => kernel_rfl
    case hr => refine ⟨?_, ?_, ?_⟩ <;> kernel_rfl
    case hQ =>
      intro s' hkeep hos hgens
      refine ⟨.inl ⟨.bool true, .bool true, [], rfl, ?_, ?_, ?_, ?_⟩, hkeep, hos, hgens.trans hg⟩
      · intro c
        kernel_rfl
      · exact .bool _
      · kernel_rfl
      · intro _
        exact ⟨List.nodup_nil, fun a h => by cases h⟩
