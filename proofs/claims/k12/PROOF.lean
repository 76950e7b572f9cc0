import PyProof.Rows.All
import Wide.All
import OpenK.AllK
import Wide.FinOn
import HandS.ForMost
import HandS.Star
import HandS.IsInst
import HandS.TupAny
import HandS.Style
import HandS.Dict
import PyProof.InstNe
import KE.DatumOrd
import HandS.SortOrd
import HandS.SortRule
import KE.KCallOwn
import HandS.RaiseMore
import HandS.WideBits
import HandS.Property
import HandS.ClsMeth
import HandS.HeadWalk
import HandS.Zip
import HandS.Walk
import KE.GoesEnum
import KE.KUnpackStar
import HandS.ExcValue
import HandS.HeadHook1
import HandS.HeadHook2
import HandS.HeadNt
import HandS.Ends
import HandS.HeadEnd
import HandS.Text
import KE.KIntText
import HandS.Head0
import HandS.Head1
import HandS.Head2
import PySem.Challenge.RW_buildclicks_k12_whole_rests
section
set_option Elab.async false
set_option linter.all false
/-! A small Python: its data, its trees, its run. -/
namespace PY
open PySem

/-- values: what never changes stands by value; `ref` is a cell of the store -/
inductive D where
  | none | bool (b : Bool) | int (i : Int) | str (s : Str)
  | tup (xs : List D) | list (xs : List D) | scr (xs : List D)
  | inst (c : Nat) (fs : List D)
  | ref (i : Nat)
  | cls (c : Nat)
  deriving Inhabited
/-- cells -/
inductive O where
  | lst (xs : List D) | ins (c : Nat) (fs : List D) | dct (kvs : List (L2.Key × D)) | dead
  deriving Inhabited
abbrev Hh := List O
abbrev En := List (Option D)
inductive Res (α : Type) where
  | ok (a : α) (h : Hh) | ex (e : D) (h : Hh) | stuck
  deriving Inhabited
@[simp] def Res.bind {α β : Type} (r : Res α) (f : α → Hh → Res β) : Res β := match r with
  | .ok a h => f a h
  | .ex e h => .ex e h
  | .stuck => .stuck
def opt {α : Type} (o : Option α) (h : Hh) : Res α := match o with
  | some a => .ok a h
  | Option.none => .stuck
@[simp] theorem opt_some {α : Type} (a : α) (h : Hh) : opt (some a) h = .ok a h := rfl
@[simp] theorem opt_none {α : Type} (h : Hh) : opt (Option.none : Option α) h = .stuck := rfl
def guard {α : Type} (b : Bool) (r : Res α) : Res α := match b with
  | true => r
  | false => .stuck
@[simp] theorem guard_true {α : Type} (r : Res α) : guard true r = r := rfl

mutual
/-- no reference from n on -/
def D.lt (n : Nat) : D → Bool
  | .tup xs => D.lts n xs
  | .list xs => D.lts n xs
  | .scr xs => D.lts n xs
  | .inst _ fs => D.lts n fs
  | .ref i => decide (i < n)
  | _ => true
def D.lts (n : Nat) : List D → Bool
  | [] => true
  | d :: r => d.lt n && D.lts n r
end
mutual
/-- as data -/
def D.data : D → Option PyData
  | .none => some .none
  | .bool b => some (.bool b)
  | .int i => some (.int i)
  | .str s => some (.str s)
  | .tup xs => (D.datas xs).map .tuple
  | .list xs => (D.datas xs).map .list
  | .scr xs => (D.datas xs).map .list
  | _ => Option.none
def D.datas : List D → Option (List PyData)
  | [] => some []
  | d :: r => match d.data, D.datas r with
    | some x, some xs => some (x :: xs)
    | _, _ => Option.none
end
mutual
/-- the cells of lists read through: data of a value in a store -/
def D.beq : D → D → Bool
  | .none, .none => true
  | .bool a, .bool b => a == b
  | .int a, .int b => decide (a = b)
  | .str a, .str b => decide (a = b)
  | .tup xs, .tup ys => D.beqs xs ys
  | .list xs, .list ys => D.beqs xs ys
  | .scr xs, .scr ys => D.beqs xs ys
  | .inst c xs, .inst d ys => c == d && D.beqs xs ys
  | .ref i, .ref j => i == j
  | .cls i, .cls j => i == j
  | _, _ => false
def D.beqs : List D → List D → Bool
  | [], [] => true
  | x :: xs, y :: ys => D.beq x y && D.beqs xs ys
  | _, _ => false
end
/-- the items of a list (a cell's too) or tuple -/
def seqOf (h : Hh) : D → Option (List D)
  | .tup xs => some xs
  | .list xs => some xs
  | .scr xs => some xs
  | .ref i => match h[i]? with
    | some (.lst xs) => some xs
    | _ => Option.none
  | _ => Option.none
/-- a list that can be read -/
def rlOf (h : Hh) : D → Option (List D)
  | .list xs => some xs
  | .scr xs => some xs
  | .ref i => match h[i]? with
    | some (.lst xs) => some xs
    | _ => Option.none
  | _ => Option.none
def lstOf (h : Hh) : D → Option (List D)
  | .list xs => some xs
  | .ref i => match h[i]? with
    | some (.lst xs) => some xs
    | _ => Option.none
  | _ => Option.none
/-- data, a list's cell read at the top -/
def dataOf (h : Hh) (d : D) : Option PyData := match d with
  | .ref i => match h[i]? with
    | some (.lst xs) => (D.datas xs).map .list
    | _ => Option.none
  | d => d.data
def D.flat : D → Bool
  | .none => true
  | .bool _ => true
  | .int _ => true
  | .str _ => true
  | _ => false
def D.eqF : D → D → Bool
  | .none, .none => true
  | .bool a, .bool b => a == b
  | .bool a, .int b => (if a then 1 else 0) == b
  | .int a, .bool b => a == (if b then 1 else 0)
  | .int a, .int b => a == b
  | .str a, .str b => a == b
  | _, _ => false
def D.toInt? : D → Option Int
  | .int i => some i
  | _ => Option.none
def D.toStr? : D → Option Str
  | .str i => some i
  | _ => Option.none
def D.toBool? : D → Option Bool
  | .bool i => some i
  | _ => Option.none
def ints? : List D → Option (List Int)
  | [] => some []
  | .int i :: r => (ints? r).map (i :: ·)
  | _ :: _ => Option.none
def strs? : List D → Option (List Str)
  | [] => some []
  | .str i :: r => (strs? r).map (i :: ·)
  | _ :: _ => Option.none
def bools? : List D → Option (List Bool)
  | [] => some []
  | .bool i :: r => (bools? r).map (i :: ·)
  | _ :: _ => Option.none

/-! ### tables -/
def keyOf : D → Option L2.Key
  | .int i => some (.inl i)
  | .str s => some (.inr s)
  | _ => Option.none
/-- a dict's cell -/
def dctOf (h : Hh) : D → Option (Nat × List (L2.Key × D))
  | .ref i => match h[i]? with
    | some (.dct kvs) => some (i, kvs)
    | _ => Option.none
  | _ => Option.none
section
variable {α : Type}
def tget (kvs : List (L2.Key × α)) (k : L2.Key) : Option α := (kvs.find? fun kv => decide (kv.1 = k)).map (·.2)
def tput (kvs : List (L2.Key × α)) (k : L2.Key) (v : α) : List (L2.Key × α) :=
  if (kvs.any fun kv => decide (kv.1 = k)) = true then kvs.map (fun kv => if kv.1 = k then (kv.1, v) else kv) else kvs ++ [(k, v)]
def tmerge (kvs more : List (L2.Key × α)) : List (L2.Key × α) := more.foldl (fun acc kv => tput acc kv.1 kv.2) kvs
end
def kvs? : List D → Option (List (L2.Key × D))
  | [] => some []
  | .tup [a, b] :: r => match keyOf a, kvs? r with
    | some k, some l => some ((k, b) :: l)
    | _, _ => Option.none
  | _ :: _ => Option.none

/-! ### operators -/
/-- a new list: a cell (m) or by value -/
def mkL (m : Bool) (xs : List D) (h : Hh) : Res D := guard (decide (xs.length ≤ sizeLine)) (match m with
  | true => .ok (.ref h.length) (h ++ [.lst xs])
  | false => .ok (.list xs) h)
def fitsMul (i j : Int) : Bool := (decide (-(2 ^ 64) < i) && decide (i < 2 ^ 64)) || (decide (-(2 ^ 64) < j) && decide (j < 2 ^ 64))
def binD (m : Bool) (op : Operator) (x y : D) (h : Hh) : Res D := match op, x, y with
  | .Add, .int i, .int j => .ok (.int (i + j)) h
  | .Sub, .int i, .int j => .ok (.int (i - j)) h
  | .Mult, .int i, .int j => guard (fitsMul i j) (.ok (.int (i * j)) h)
  | .FloorDiv, .int i, .int j => guard (decide (0 < j) && decide (j < 1073741824)) (.ok (.int (i / j)) h)
  | .Mod, .int i, .int j => guard (decide (0 < j)) (.ok (.int (i % j)) h)
  | .Pow, .int i, .int j => guard (decide (0 ≤ j) && decide (j ≤ 1000000) && decide (i.natAbs < 2 ^ 64)) (.ok (.int (i ^ j.toNat)) h)
  | .Add, .str a, .str b => guard (decide (a.length + b.length ≤ sizeLine)) (.ok (.str (a ++ b)) h)
  | .Add, .tup xs, .tup ys => guard (decide (xs.length + ys.length ≤ sizeLine)) (.ok (.tup (xs ++ ys)) h)
  | .Add, x, y => match lstOf h x, lstOf h y with
    | some xs, some ys => mkL m (xs ++ ys) h
    | _, _ => .stuck
  | .Mult, x, .int k => match lstOf h x with
    | some xs => guard (decide (-(2 ^ 63) ≤ k) && decide (k < 2 ^ 63)) (mkL m (List.replicate k.toNat xs).flatten h)
    | _ => .stuck
  | _, _, _ => .stuck
def unD (op : UnaryOp) (x : D) (h : Hh) : Res D := match op, x with
  | .USub, .int i => .ok (.int (-i)) h
  | .Not, .bool b => .ok (.bool (!b)) h
  | _, _ => .stuck
def inStr (a b : Str) : Bool := !(Builtin.Str.occurrences b a 0 b.length 1).isEmpty
def inD (x y : D) (h : Hh) : Option Bool := match x, y with
  | .str a, .str b => some (inStr a b)
  | x, y => match seqOf h y with
    | some ys => if x.flat && ys.all D.flat then some (ys.any fun y => D.eqF y x) else Option.none
    | Option.none => match dctOf h y, keyOf x with
      | some t, some k => some (tget t.2 k).isSome
      | _, _ => Option.none
def eqD (x y : D) (h : Hh) : Option Bool := match dataOf h x, dataOf h y with
  | some a, some b => if SeqAt.shaped a && SeqAt.shaped b then some (PyData.eqv a b) else Option.none
  | _, _ => Option.none
def ltS (a b : Str) : Bool := decide (a.cps.toList < b.cps.toList)
def cmpD (op : CmpOp) (x y : D) (h : Hh) : Res D := match op, x, y with
  | .Lt, .int i, .int j => .ok (.bool (decide (i < j))) h
  | .LtE, .int i, .int j => .ok (.bool (decide (i ≤ j))) h
  | .Gt, .int i, .int j => .ok (.bool (decide (j < i))) h
  | .GtE, .int i, .int j => .ok (.bool (decide (j ≤ i))) h
  | .Lt, .str i, .str j => .ok (.bool (ltS i j)) h
  | .Is, x, .none => .ok (.bool (match x with | .none => true | _ => false)) h
  | .IsNot, x, .none => .ok (.bool (match x with | .none => false | _ => true)) h
  | .In, x, y => opt ((inD x y h).map D.bool) h
  | .NotIn, x, y => opt ((inD x y h).map fun b => D.bool (!b)) h
  | .Eq, .str a, .str b => .ok (.bool (decide (a = b))) h
  | .NotEq, .str a, .str b => .ok (.bool (!decide (a = b))) h
  | .Eq, x, y => opt ((eqD x y h).map D.bool) h
  | .NotEq, x, y => opt ((eqD x y h).map fun b => D.bool (!b)) h
  | _, _, _ => .stuck
def idxD (x i : D) (h : Hh) : Res D := match x, i with
  | .str z, .int i => guard (decide (z.length ≤ sizeLine)) (opt ((L2.atI z.cps.toList i).map fun c => D.str ⟨#[c]⟩) h)
  | x, i => match dctOf h x with
    | some t => (match keyOf i with
      | some k => opt (tget t.2 k) h
      | Option.none => .stuck)
    | Option.none => match i, seqOf h x with
      | .int i, some xs => opt (L2.atI xs i) h
      | _, _ => .stuck
def cutD (xs : List D) (lo hi : Option Int) : List D := (xs.drop (HT.sIx xs.length 0 lo)).take (HT.sIx xs.length xs.length hi - HT.sIx xs.length 0 lo)
def slcD (x : D) (lo hi : Option Int) (h : Hh) : Res D := match x with
  | .str z => guard (decide (z.length ≤ sizeLine)) (.ok (.str (L2.cutS z lo hi)) h)
  | .tup xs => .ok (.tup (cutD xs lo hi)) h
  | x => match rlOf h x with
    | some xs => .ok (.list (cutD xs lo hi)) h
    | Option.none => .stuck

/-! ### trees -/
inductive BF where
  | len | int | str | repr | all | any | max | min | abs | divmod | tuple | list | bool | sum | sorted | dict
  deriving DecidableEq, Inhabited
inductive BM where
  | split | join | append | extend | index | count
  deriving DecidableEq, Inhabited
inductive Ty where
  | b (n : String) | c (k : Nat)
  deriving DecidableEq, Inhabited
inductive IT where
  | n (i : Nat) | tup (ts : List IT) | star (ts : List IT) (r : Nat)
  deriving Inhabited
mutual
inductive IE where
  | v (i : Nat)
  | c (d : D)
  | g (k : Nat)
  | bin (m : Bool) (op : Operator) (a b : IE)
  | un (op : UnaryOp) (a : IE)
  | cmp (op : CmpOp) (a b : IE)
  | chain (p q : CmpOp) (a b c : IE)
  | and (es : List IE)
  | or (es : List IE)
  | ite (c a b : IE)
  | tup (es : List IE)
  | lst (m : Bool) (es : List IE)
  | star (e : IE)
  | idx (a b : IE)
  | slc (a : IE) (lo hi : Option IE)
  | rev (a : IE)
  | call (f : Nat) (es : List IE) (ks : List (Str × IE))
  | make (k : Nat) (es : List IE) (ks : List (Str × IE))
  | bc (m : Bool) (f : BF) (es : List IE)
  | bm (m : Bool) (f : BM) (o : IE) (es : List IE)
  | meth (a : Nat) (o : IE) (es : List IE) (ks : List (Str × IE))
  | attr (a : Nat) (o : IE)
  | isi (e : IE) (t : Ty)
  | comp (m : Bool) (own : List (Str × Nat)) (t : IT) (src : II) (cs : List IE) (e : IE)
  | frz (e : IE)
  | cl (k : Nat)
  | mkv (i : Nat) (es : List IE) (ks : List (Str × IE))
inductive II where
  | e (x : IE) | range (es : List IE) | enum (x : IE) | zip (a b : IE)
end
instance : Inhabited IE := ⟨.v 0⟩
instance : Inhabited II := ⟨.e (.v 0)⟩
inductive IL where
  | n (i : Nat) | sub (a b : IE) | fld (a : Nat) (o : IE) | tup (ts : List IL) | star (ts : List IT) (r : Nat)
  deriving Inhabited
inductive IS where
  | expr (e : IE)
  | set (t : IL) (e : IE)
  | aug (i : Nat) (op : Operator) (e : IE)
  | augf (a : Nat) (o : IE) (op : Operator) (e : IE)
  | ifs (c : IE) (a b : List IS)
  | for (t : IT) (src : II) (b : List IS)
  | while (k : Nat) (c : IE) (b : List IS)
  | ret (e : IE)
  | retN
  | pass | brk | cont
  | never
  | try (b : List IS)
  deriving Inhabited
structure Fn where
  cl : Option Nat
  name : Str
  qual : Str
  ps : List Str
  dfl : List D
  N : List Str
  out : Bool
  body : List IS
structure Cl where
  name : Str
  fields : List Nat
  frozen : Bool
  init : Nat
  props : List (Nat × Nat)
  meths : List (Nat × Nat)
  clsm : List (Nat × Nat)
structure Prg where
  funs : List Fn
  clss : List Cl
  attrs : List Str
  consts : List (Str × D)
abbrev Tab := Nat → List D → Hh → Res D

/-! ### the run -/
/-- a step for each item -/
def compM (f : D → Hh → Res (Option D)) : List D → Hh → Res (List D)
  | [], h => .ok [] h
  | d :: r, h => (f d h).bind fun o h1 => (compM f r h1).bind fun ds h2 => .ok (match o with
    | some x => x :: ds
    | Option.none => ds) h2
inductive Fl where
  | nx (env : En) (h : Hh) | rt (d : D) (h : Hh) | bk (env : En) (h : Hh) | ct (env : En) (h : Hh) | ex (e : D) (h : Hh) | stuck
  deriving Inhabited
@[simp] def Res.fl {α : Type} (r : Res α) (f : α → Hh → Fl) : Fl := match r with
  | .ok a h => f a h
  | .ex e h => .ex e h
  | .stuck => .stuck
def forM (chk : Hh → Bool) (f : D → En → Hh → Fl) : List D → En → Hh → Fl
  | [], env, h => match chk h with
    | true => .nx env h
    | false => .stuck
  | d :: r, env, h => match chk h, f d env h with
    | true, .nx env h => forM chk f r env h
    | true, .ct env h => forM chk f r env h
    | true, .bk env h => .nx env h
    | true, .rt d h => .rt d h
    | true, .ex e h => .ex e h
    | _, _ => .stuck
def whileM (c : En → Hh → Res D) (f : En → Hh → Fl) : Nat → En → Hh → Fl
  | 0, _, _ => .stuck
  | n + 1, env, h => match c env h with
    | .ok (.bool true) h => (match f env h with
      | .nx env h => whileM c f n env h
      | .ct env h => whileM c f n env h
      | .bk env h => .nx env h
      | .rt d h => .rt d h
      | .ex e h => .ex e h
      | .stuck => .stuck)
    | .ok (.bool false) h => .nx env h
    | .ex e h => .ex e h
    | _ => .stuck
def getV (env : En) (i : Nat) : Option D := match env[i]? with
  | some (some d) => some d
  | _ => Option.none
def wipeE (env : En) : List Nat → En
  | [] => env
  | v :: vs => (wipeE env vs).set v Option.none
mutual
/-- a target of a for, a comprehension -/
def tgt (h : Hh) (d : D) (env : En) : IT → Option En
  | .n i => if i < env.length then some (env.set i (some d)) else Option.none
  | .tup ts => match d with
    | .tup ds => tgts h ds env ts
    | _ => Option.none
  | .star _ _ => Option.none
def tgts (h : Hh) (ds : List D) (env : En) : List IT → Option En
  | [] => match ds with
    | [] => some env
    | _ => Option.none
  | t :: ts => match ds with
    | d :: ds => (match tgt h d env t with
      | some env => tgts h ds env ts
      | Option.none => Option.none)
    | [] => Option.none
end
/-- arguments to parameters -/
def slG {α : Type} (ps : List Str) (us : List α) (ks : List (Str × α)) (dv : List α) : List (Str × α) := ps.zip us ++ ks ++ (ps.drop (ps.length - dv.length)).zip dv
def pickG {α : Type} (ps : List Str) (us : List α) (ks : List (Str × α)) (dv : List α) : List α := ps.filterMap fun n => (slG ps us ks dv).lookup n
def bindA (ps : List Str) (dfl : List D) (ds : List D) (ks : List (Str × D)) : Option (List D) :=
  if decide (ds.length ≤ ps.length) && (decide (dfl.length ≤ ps.length) && ((ks.all fun k => ps.contains k.1 && ((ps.zip ds).lookup k.1).isNone) && (decide (ks.map (·.1)).Nodup && (((ps.take (ps.length - dfl.length)).all fun n => ((ps.zip ds ++ ks).lookup n).isSome) && ps.all fun n => ((slG ps ds ks dfl).lookup n).isSome)))) then some (pickG ps ds ks dfl) else Option.none
def O.lt (n : Nat) : O → Bool
  | .lst xs => D.lts n xs
  | .ins _ xs => D.lts n xs
  | .dct kvs => D.lts n (kvs.map (·.2))
  | .dead => true
def O.beq : O → O → Bool
  | .lst xs, .lst ys => D.beqs xs ys
  | .ins c xs, .ins d ys => c == d && D.beqs xs ys
  | .dct xs, .dct ys => decide (xs.map (·.1) = ys.map (·.1)) && D.beqs (xs.map (·.2)) (ys.map (·.2))
  | .dead, .dead => true
  | _, _ => false
/-- what a call leaves: the cells that stood, those that were changed with no reference beyond -/
def kept (n : Nat) : Hh → Hh → Bool
  | [], _ => true
  | o :: r, o' :: r' => (O.beq o o' || o'.lt n) && kept n r r'
  | _ :: _, [] => false
def trim (out : Bool) (h : Hh) (r : Res D) : Res D := match r with
  | .ok d h' => guard (kept h.length h h') (match out, d with
    | true, .ref i => (match h'[i]? with
      | some o => guard (decide (h.length ≤ i) && o.lt h.length) (.ok (.ref h.length) (h'.take h.length ++ [o]))
      | Option.none => .stuck)
    | _, d => guard (d.lt h.length) (.ok d (h'.take h.length)))
  | .ex e h' => guard (kept h.length h h' && e.lt h.length) (.ex e (h'.take h.length))
  | .stuck => .stuck

section
variable (P : Prg) (T : Tab)
def callM (f : Nat) (ds : List D) (ks : List (Str × D)) (h : Hh) : Res D := match P.funs[f]? with
  | some F => (match bindA F.ps F.dfl ds ks with
    | some ds => T f ds h
    | Option.none => .stuck)
  | Option.none => .stuck
def makeM (k : Nat) (ds : List D) (ks : List (Str × D)) (h : Hh) : Res D := match P.clss[k]? with
  | some C => (callM P T C.init (.ref h.length :: ds) ks (h ++ [.ins k []])).bind fun r h' => match r, h'[h.length]? with
    | .none, some (.ins k' fs) => (match C.frozen with
      | true => guard (k == k' && D.lts h.length fs && kept h.length h h' && h'.length == h.length + 1) (.ok (.inst k fs) (h'.take h.length))
      | false => .ok (.ref h.length) h')
    | _, _ => .stuck
  | Option.none => .stuck
/-- class and fields of an instance -/
def insOf (h : Hh) : D → Option (Nat × List D)
  | .inst c fs => some (c, fs)
  | .ref i => match h[i]? with
    | some (.ins c fs) => some (c, fs)
    | _ => Option.none
  | _ => Option.none
def attrM (a : Nat) (d : D) (h : Hh) : Res D := match insOf h d with
  | some (c, fs) => (match P.clss[c]? with
    | some C => (match C.fields.idxOf? a with
      | some p => opt fs[p]? h
      | Option.none => match C.props.lookup a with
        | some f => T f [d] h
        | Option.none => .stuck)
    | Option.none => .stuck)
  | Option.none => .stuck
/-- the own == of two objects of one class -/
def ownEq (x y : D) (h : Hh) : Option Nat := match insOf h x, insOf h y with
  | some (c, _), some (c', _) => if c = c' then (match P.clss[c]? with
    | some C => C.meths.lookup 3
    | Option.none => Option.none) else Option.none
  | _, _ => Option.none
def eqM (f : Nat) (x y : D) (h : Hh) : Res Bool := (T f [x, y] h).bind fun r h' => match r with
  | .bool b => .ok b h'
  | _ => .stuck
def cmpM (op : CmpOp) (x y : D) (h : Hh) : Res D := match op, ownEq P x y h with
  | .Eq, some f => (eqM T f x y h).bind fun b h' => .ok (.bool b) h'
  | .NotEq, some f => (eqM T f x y h).bind fun b h' => .ok (.bool (!b)) h'
  | op, _ => cmpD op x y h
/-- the def that a method's name finds: a class's own one (true) or an instance's -/
def methK (a : Nat) (d : D) (h : Hh) : Option (Bool × Nat) := match d with
  | .cls c => (match P.clss[c]? with
    | some C => (C.clsm.lookup a).map fun f => (true, f)
    | Option.none => Option.none)
  | d => match insOf h d with
    | some (c, _) => (match P.clss[c]? with
      | some C => (C.meths.lookup a).map fun f => (false, f)
      | Option.none => Option.none)
    | Option.none => Option.none
def isiM (t : Ty) (d : D) : Option Bool := match t, d with
  | .b n, .none => L2.kitB "NoneType" n
  | .b n, .bool _ => L2.kitB "bool" n
  | .b n, .int _ => L2.kitB "int" n
  | .b n, .str _ => L2.kitB "str" n
  | .b n, .tup _ => L2.kitB "tuple" n
  | .b n, .list _ => L2.kitB "list" n
  | .b n, .scr _ => L2.kitB "list" n
  | .c k, .inst c _ => if k = c then some true else Option.none
  | _, _ => Option.none
def maxI : List Int → Option Int
  | [] => Option.none
  | i :: r => some (r.foldl max i)
def minI : List Int → Option Int
  | [] => Option.none
  | i :: r => some (r.foldl min i)
/-- pairs of numbers -/
def pairI (p : Int × Int) : D := .tup [.int p.1, .int p.2]
def pairs? : List D → Option (List (Int × Int))
  | [] => some []
  | .tup [.int a, .int b] :: r => (pairs? r).map ((a, b) :: ·)
  | _ :: _ => Option.none
def ltP (p q : Int × Int) : Bool := if p.1 = q.1 then decide (p.2 < q.2) else decide (p.1 < q.1)
def maxP (p : Int × Int) (ps : List (Int × Int)) : Int × Int := ps.foldl (fun a y => if ltP a y = true then y else a) p
def sortP (ps : List (Int × Int)) : List (Int × Int) := ps.mergeSort fun a b => !ltP b a
def joinLen (a : Str) (ys : List Str) : Nat := (ys.map (·.length)).sum + ys.length * a.length
/-- a built-in of values; ids of own names for len, str, bool of instances -/
def bcM (m : Bool) (f : BF) (ds : List D) (h : Hh) : Res D := match f, ds with
  | .len, [.str s] => guard (decide (s.length ≤ sizeLine)) (.ok (.int s.length) h)
  | .len, [d] => (match insOf h d with
    | some (c, _) => (match P.clss[c]? with
      | some C => (match C.meths.lookup 0 with
        | some f => (T f [d] h).bind fun r h' => (match r with
          | .int n => guard (decide (0 ≤ n) && decide (n < 2 ^ 63)) (.ok (.int n) h')
          | _ => .stuck)
        | Option.none => .stuck)
      | Option.none => .stuck)
    | Option.none => match seqOf h d with
      | some xs => .ok (.int xs.length) h
      | Option.none => .stuck)
  | .int, [.int i] => .ok (.int i) h
  | .int, [.bool b] => .ok (.int (if b then 1 else 0)) h
  | .int, [.str s] => guard (decide (s.length ≤ 640)) (opt ((PySem.intText? s).map D.int) h)
  | .str, [.int i] => guard (decide (i.natAbs.log2 < 1920)) (.ok (.str (toString i)) h)
  | .str, [.str s] => .ok (.str s) h
  | .str, [d] => (match insOf h d with
    | some (c, _) => (match P.clss[c]? with
      | some C => (match C.meths.lookup 1 with
        | some f => (T f [d] h).bind fun r h' => (match r with
          | .str n => .ok (.str n) h'
          | _ => .stuck)
        | Option.none => .stuck)
      | Option.none => .stuck)
    | Option.none => .stuck)
  | .bool, [.bool b] => .ok (.bool b) h
  | .bool, [d] => (match insOf h d with
    | some (c, _) => (match P.clss[c]? with
      | some C => (match C.meths.lookup 2 with
        | some f => (T f [d] h).bind fun r h' => (match r with
          | .bool n => .ok (.bool n) h'
          | _ => .stuck)
        | Option.none => .stuck)
      | Option.none => .stuck)
    | Option.none => .stuck)
  | .repr, [d] => (match dataOf h d with
    | some p => guard (p.showable && decide (p.depth ≤ 100) && !p.hasDict && decide (p.shown.length ≤ sizeLine)) (.ok (.str p.shown) h)
    | Option.none => .stuck)
  | .all, [d] => (match (lstOf h d).bind bools? with
    | some bs => .ok (.bool (bs.all id)) h
    | Option.none => .stuck)
  | .any, [d] => (match (lstOf h d).bind bools? with
    | some bs => .ok (.bool (bs.any id)) h
    | Option.none => .stuck)
  | .max, [.int i, .int j] => .ok (.int (if j > i then j else i)) h
  | .min, [.int i, .int j] => .ok (.int (if j < i then j else i)) h
  | .max, [d] => (match (lstOf h d).bind ints? with
    | some ns => opt ((maxI ns).map D.int) h
    | Option.none => match (lstOf h d).bind pairs? with
      | some (p :: ps) => .ok (pairI (maxP p ps)) h
      | _ => .stuck)
  | .sorted, [d] => (match (lstOf h d).bind pairs? with
    | some ps => mkL m ((sortP ps).map pairI) h
    | Option.none => .stuck)
  | .dict, [d] => (match (lstOf h d).bind kvs? with
    | some kvs => .ok (.ref h.length) (h ++ [.dct (tmerge [] kvs)])
    | Option.none => .stuck)
  | .min, [d] => (match (lstOf h d).bind ints? with
    | some ns => opt ((minI ns).map D.int) h
    | Option.none => .stuck)
  | .abs, [.int i] => .ok (.int (if i < 0 then -i else i)) h
  | .divmod, [.int i, .int j] => guard (decide (0 < j) && decide (j < 1073741824)) (.ok (.tup [.int (i / j), .int (i % j)]) h)
  | .tuple, [.tup xs] => .ok (.tup xs) h
  | .tuple, [d] => (match rlOf h d with
    | some xs => .ok (.tup xs) h
    | Option.none => .stuck)
  | .list, [d] => (match seqOf h d with
    | some xs => mkL m xs h
    | Option.none => .stuck)
  | .sum, [d] => (match (lstOf h d).bind ints? with
    | some ns => .ok (.int ns.sum) h
    | Option.none => .stuck)
  | _, _ => .stuck
def bmM (m : Bool) (f : BM) (d : D) (ds : List D) (h : Hh) : Res D := match f, d, ds with
  | .split, .str a, [.str b] => guard (b.length != 0 && decide (a.length + 2 ≤ sizeLine)) (mkL m ((Txt.split a b).map D.str) h)
  | .join, .str a, [d] => (match (seqOf h d).bind strs? with
    | some ys => guard (decide (joinLen a ys ≤ 16777216)) (.ok (.str (Txt.join a ys)) h)
    | Option.none => .stuck)
  | .append, .ref i, [x] => (match h[i]? with
    | some (.lst xs) => guard (decide (xs.length < sizeLine)) (.ok .none (h.set i (.lst (xs ++ [x]))))
    | _ => .stuck)
  | .extend, .ref i, [x] => (match h[i]?, lstOf h x with
    | some (.lst xs), some ys => guard (decide (xs.length + ys.length ≤ sizeLine)) (.ok .none (h.set i (.lst (xs ++ ys))))
    | _, _ => .stuck)
  | _, _, _ => .stuck
def recv (f : BM) (d : D) (h : Hh) : Bool := match f, d with
  | .split, .str _ => true
  | .join, .str _ => true
  | .append, .ref i => (match h[i]? with
    | some (.lst _) => true
    | _ => false)
  | .extend, .ref i => (match h[i]? with
    | some (.lst _) => true
    | _ => false)
  | _, _ => false
/-- for zip and enumerate: pairs -/
def pairs : List D → List D → List D
  | x :: xs, y :: ys => .tup [x, y] :: pairs xs ys
  | _, _ => []
def inR (i : Int) : Bool := decide (-(2 ^ 62) ≤ i) && decide (i < 2 ^ 62)
def upto (lo : Int) (n : Nat) : List D := (List.range n).map fun (k : Nat) => D.int (lo + (k : Int))
/-- what a value walked gives: its items, a cell that must stand meanwhile -/
def itemsOf (h : Hh) : D → Option (List D × Option Nat)
  | .str s => some (s.cps.toList.map fun c => D.str ⟨#[c]⟩, Option.none)
  | .tup xs => some (xs, Option.none)
  | .list xs => some (xs, Option.none)
  | .scr xs => some (xs, Option.none)
  | .ref i => match h[i]? with
    | some (.lst xs) => some (xs, some i)
    | _ => Option.none
  | _ => Option.none
def itemsN (h : Hh) (d : D) : Option (List D × Option Nat) := match d with
  | .str _ => Option.none
  | d => itemsOf h d
def isTup : D → Bool
  | .tup _ => true
  | _ => false
def chkM (xs : List D) (o : Option Nat) (h : Hh) : Bool := match o with
  | Option.none => true
  | some i => match h[i]? with
    | some (.lst ys) => D.beqs xs ys
    | _ => false
end

variable (P : Prg) (T : Tab)
mutual
def evE : IE → En → Hh → Res D
  | .v i, env, h => opt (getV env i) h
  | .c d, _, h => .ok d h
  | .g k, _, h => match P.consts[k]? with
    | some c => .ok c.2 h
    | Option.none => .stuck
  | .bin m op a b, env, h => (evE a env h).bind fun x h1 => (evE b env h1).bind fun y h2 => binD m op x y h2
  | .un op a, env, h => (evE a env h).bind fun x h1 => unD op x h1
  | .cmp op a b, env, h => (evE a env h).bind fun x h1 => (evE b env h1).bind fun y h2 => cmpM P T op x y h2
  | .chain p q a b c, env, h => (evE a env h).bind fun x h1 => (evE b env h1).bind fun y h2 => (cmpD p x y h2).bind fun r h3 => match r with
    | .bool true => (evE c env h3).bind fun z h4 => cmpD q y z h4
    | .bool false => .ok (.bool false) h3
    | _ => .stuck
  | .and es, env, h => evAnd es env h
  | .or es, env, h => evOr es env h
  | .ite c a b, env, h => (evE c env h).bind fun x h1 => match x with
    | .bool true => evE a env h1
    | .bool false => evE b env h1
    | _ => .stuck
  | .tup es, env, h => (evEs es env h).bind fun ds h1 => guard (decide (ds.length ≤ sizeLine)) (.ok (.tup ds) h1)
  | .lst m es, env, h => (evEs es env h).bind fun ds h1 => mkL m ds h1
  | .star _, _, _ => .stuck
  | .idx a b, env, h => (evE a env h).bind fun x h1 => (evE b env h1).bind fun y h2 => idxD x y h2
  | .slc a lo hi, env, h => (evE a env h).bind fun x h1 => (evO lo env h1).bind fun l h2 => (evO hi env h2).bind fun u h3 => slcD x l u h3
  | .rev a, env, h => (evE a env h).bind fun x h1 => match lstOf h1 x with
    | some xs => .ok (.list xs.reverse) h1
    | Option.none => .stuck
  | .call f es ks, env, h => (evEs es env h).bind fun ds h1 => (evKs ks env h1).bind fun kd h2 => callM P T f ds kd h2
  | .make k es ks, env, h => (evEs es env h).bind fun ds h1 => (evKs ks env h1).bind fun kd h2 => makeM P T k ds kd h2
  | .bc m f es, env, h => (evEs es env h).bind fun ds h1 => bcM P T m f ds h1
  | .bm m f o es, env, h => (evE o env h).bind fun d h1 => guard (recv f d h1) ((evEs es env h1).bind fun ds h2 => bmM m f d ds h2)
  | .meth a o es ks, env, h => (evE o env h).bind fun d h1 => match methK P a d h1 with
    | some (b, f) => (evEs es env h1).bind fun ds h2 => (evKs ks env h2).bind fun kd h3 => callM P T f (d :: ds) kd h3
    | Option.none => .stuck
  | .attr a o, env, h => (evE o env h).bind fun d h1 => attrM P T a d h1
  | .isi e t, env, h => (evE e env h).bind fun d h1 => opt ((isiM t d).map D.bool) h1
  | .comp m own t src cs e, env, h => (evI src env h).bind fun it h1 =>
      (compM (fun d h => guard (it.2 h) (match tgt h d (wipeE env (own.map (·.2))) t with
        | some env' => (evCs cs env' h).bind fun b h2 => match b with
          | true => (evE e env' h2).bind fun x h3 => .ok (some x) h3
          | false => .ok Option.none h2
        | Option.none => .stuck)) it.1 h1).bind fun ds h2 => guard (it.2 h2) (mkL m ds h2)
  | .frz e, env, h => (evE e env h).bind fun d h1 => match d with
    | .ref i => (match h1[i]? with
      | some (.lst xs) => .ok (.list xs) (h1.set i .dead)
      | _ => .stuck)
    | d => .ok d h1
  | .cl k, _, h => .ok (.cls k) h
  | .mkv i es ks, env, h => match getV env i with
    | some (.cls k) => (evEs es env h).bind fun ds h1 => (evKs ks env h1).bind fun kd h2 => makeM P T k ds kd h2
    | _ => .stuck
def evAnd : List IE → En → Hh → Res D
  | [], _, _ => .stuck
  | e :: r, env, h => match r with
    | [] => evE e env h
    | _ :: _ => (evE e env h).bind fun x h1 => match x with
      | .bool true => evAnd r env h1
      | .bool false => .ok (.bool false) h1
      | _ => .stuck
def evOr : List IE → En → Hh → Res D
  | [], _, _ => .stuck
  | e :: r, env, h => match r with
    | [] => evE e env h
    | _ :: _ => (evE e env h).bind fun x h1 => match x with
      | .bool false => evOr r env h1
      | .bool true => .ok (.bool true) h1
      | _ => .stuck
def evO : Option IE → En → Hh → Res (Option Int)
  | Option.none, _, h => .ok Option.none h
  | some e, env, h => (evE e env h).bind fun x h1 => match x with
    | .int i => .ok (some i) h1
    | _ => .stuck
def evEs : List IE → En → Hh → Res (List D)
  | [], _, h => .ok [] h
  | .star e :: r, env, h => (evE e env h).bind fun d h1 => match seqOf h1 d with
    | some xs => (evEs r env h1).bind fun ds h2 => .ok (xs ++ ds) h2
    | Option.none => .stuck
  | e :: r, env, h => (evE e env h).bind fun d h1 => (evEs r env h1).bind fun ds h2 => .ok (d :: ds) h2
def evKs : List (Str × IE) → En → Hh → Res (List (Str × D))
  | [], _, h => .ok [] h
  | (k, e) :: r, env, h => (evE e env h).bind fun d h1 => (evKs r env h1).bind fun ds h2 => .ok ((k, d) :: ds) h2
def evCs : List IE → En → Hh → Res Bool
  | [], _, h => .ok true h
  | e :: r, env, h => (evE e env h).bind fun d h1 => match d with
    | .bool true => evCs r env h1
    | .bool false => .ok false h1
    | _ => .stuck
def evI : II → En → Hh → Res (List D × (Hh → Bool))
  | .e x, env, h => (evE x env h).bind fun d h1 => match itemsOf h1 d with
    | some (xs, o) => .ok (xs, chkM xs o) h1
    | Option.none => .stuck
  | .range es, env, h => (evEs es env h).bind fun ds h1 => match ds with
    | [.int j] => guard (inR j) (.ok (upto 0 j.toNat, fun _ => true) h1)
    | [.int i, .int j] => guard (inR i && inR j) (.ok (upto i (j - i).toNat, fun _ => true) h1)
    | _ => .stuck
  | .enum x, env, h => (evE x env h).bind fun d h1 => match itemsN h1 d with
    | some (xs, o) => .ok (pairs (upto 0 xs.length) xs, chkM xs o) h1
    | Option.none => .stuck
  | .zip a b, env, h => (evE a env h).bind fun d h1 => (evE b env h1).bind fun e h2 => match itemsN h2 d, itemsN h2 e with
    | some (xs, o), some (ys, p) => guard (isTup d == isTup e) (.ok (pairs xs ys, fun h => chkM xs o h && chkM ys p h) h2)
    | _, _ => .stuck
end
mutual
def asg : IL → D → En → Hh → Res En
  | .n i, d, env, h => if i < env.length then .ok (env.set i (some d)) h else .stuck
  | .sub a b, d, env, h => (evE P T a env h).bind fun x h1 => (evE P T b env h1).bind fun y h2 => match dctOf h2 x with
    | some t => (match keyOf y with
      | some k => if t.2.length < sizeLine then .ok env (h2.set t.1 (.dct (tput t.2 k d))) else .stuck
      | Option.none => .stuck)
    | Option.none => match x, y with
      | .ref i, .int k => (match h2[i]? with
        | some (.lst xs) => (match L2.ixN xs.length k with
          | some j => .ok env (h2.set i (.lst (xs.set j d)))
          | Option.none => .stuck)
        | _ => .stuck)
      | _, _ => .stuck
  | .fld a o, d, env, h => (evE P T o env h).bind fun x h1 => match x with
    | .ref i => (match h1[i]? with
      | some (.ins c fs) => (match P.clss[c]? with
        | some C => (match C.fields.idxOf? a with
          | some p => if p < fs.length then .ok env (h1.set i (.ins c (fs.set p d))) else if p = fs.length then .ok env (h1.set i (.ins c (fs ++ [d]))) else .stuck
          | Option.none => .stuck)
        | Option.none => .stuck)
      | _ => .stuck)
    | _ => .stuck
  | .tup ts, d, env, h => match d with
    | .tup ds => asgs ts ds env h
    | _ => .stuck
  | .star ts r, d, env, h => match ts with
    | [.n i] => (match rlOf h d with
      | some (x :: xs) => if xs.length < 16384 then (if i < env.length then (if r < env.length then .ok ((env.set i (some x)).set r (some (.list xs))) h else .stuck) else .stuck) else .stuck
      | _ => .stuck)
    | _ => .stuck
def asgs : List IL → List D → En → Hh → Res En
  | [], ds, env, h => match ds with
    | [] => .ok env h
    | _ => .stuck
  | t :: ts, ds, env, h => match ds with
    | d :: ds => (asg t d env h).bind fun env h => asgs ts ds env h
    | [] => .stuck
end
def augD (op : Operator) (x y : D) (h : Hh) : Res D := match op, x, y with
  | .Add, .int i, .int j => .ok (.int (i + j)) h
  | .Sub, .int i, .int j => .ok (.int (i - j)) h
  | _, _, _ => .stuck
mutual
def evS : IS → En → Hh → Fl
  | .expr e, env, h => (evE P T e env h).fl fun _ h => .nx env h
  | .set t e, env, h => (evE P T e env h).fl fun d h => (asg P T t d env h).fl fun env h => .nx env h
  | .aug i op e, env, h => (evE P T e env h).fl fun y h => match getV env i with
    | some x => (augD op x y h).fl fun z h => .nx (env.set i (some z)) h
    | Option.none => .stuck
  | .augf a o op e, env, h => (evE P T o env h).fl fun x h1 => match x with
    | .ref i => (match h1[i]? with
      | some (.ins c fs) => (match P.clss[c]? with
        | some C => (match C.fields.idxOf? a with
          | some p => (match fs[p]? with
            | some v => (evE P T e env h1).fl fun y h2 => (augD op v y h2).fl fun z h3 => (match h3[i]? with
              | some (.ins c' fs') => if c' = c ∧ p < fs'.length then .nx env (h3.set i (.ins c (fs'.set p z))) else .stuck
              | _ => .stuck)
            | Option.none => .stuck)
          | Option.none => .stuck)
        | Option.none => .stuck)
      | _ => .stuck)
    | _ => .stuck
  | .ifs c a b, env, h => (evE P T c env h).fl fun x h => match x with
    | .bool true => evSs a env h
    | .bool false => evSs b env h
    | _ => .stuck
  | .for t src b, env, h => (evI P T src env h).fl fun it h => forM it.2 (fun d env h => match tgt h d env t with
    | some env => evSs b env h
    | Option.none => .stuck) it.1 env h
  | .while k c b, env, h => whileM (fun env h => evE P T c env h) (fun env h => evSs b env h) k env h
  | .ret e, env, h => (evE P T e env h).fl fun d h => .rt d h
  | .retN, _, h => .rt .none h
  | .pass, env, h => .nx env h
  | .brk, env, h => .bk env h
  | .cont, env, h => .ct env h
  | .never, _, _ => .stuck
  | .try b, env, h => evSs b env h
def evSs : List IS → En → Hh → Fl
  | [], env, h => .nx env h
  | s :: r, env, h => match evS s env h with
    | .nx env h => evSs r env h
    | f => f
end
def runF (F : Fn) (ds : List D) (h : Hh) : Res D := trim F.out h (match evSs P T F.body (ds.map some ++ List.replicate (F.N.length - ds.length) Option.none) h with
  | .nx _ h => .ok .none h
  | .rt d h => .ok d h
  | .ex e h => .ex e h
  | _ => .stuck)
end PY
namespace PY
open PySem
/-- the program's defs, to a depth -/
def run (P : Prg) : Nat → Tab
  | 0, _, _, _ => .stuck
  | n + 1, f, ds, h => match P.funs[f]? with
    | some F => guard (ds.length == F.ps.length) (runF P (run P n) F ds h)
    | Option.none => .stuck
end PY
end
section
set_option Elab.async false
set_option linter.all false
set_option maxRecDepth 100000
/-! == and != by an own __eq__. -/
namespace PY
open PySem PySem.W PySem.Calls Builtin
section
variable {prog : Program} {w : World} {A : Around} {E : Value → Shared → Prop} {s : Shared} {K : PySem.W.Frag} {x C L f : Addr} {h₀ : Heap} {m : Str → Option Value} {ox : Obj} {od : Option Obj} {name : Str} {b tb : Value}
theorem ne_bind (self : Value) : bindSpecial (.builtin "object.__ne__") self = pure (.builtin "object.__ne__", [self]) :=
  (Slot.of (T := "object") (name := "__ne__") (owner := "object") (n := "__ne__") (by rw [typeLookup_type, builtinLookup_eq_fast]; kernel_rfl) (by decide +kernel) (by decide +kernel) (by decide +kernel)
    (.inl (by decide +kernel)) (by rw [isSubtype_type]; kernel_rfl)).bind self
theorem ifBound_B {M : Model} {args : List Value} {id : String} {Q : Option Value → Shared → Prop} (X : K.In s.heap) (I : PySem.W.InstAt s.heap x ox C od) (hs : findIn K (.ref C) name = some (some (.builtin id)))
    (hbd : ∀ self, bindSpecial (.builtin id) self = pure (.builtin id, [self]))
    (h : wpAny M A (PySem.call (.builtin id) (.ref x :: args)) (fun v => Q (some v)) E s) : wpAny M A (callSpecialIfBound? (.ref x) name args) Q E s := by
  simp only [callSpecialIfBound?, bindSpecialIfBound?]
  refine wpAny_holding (wpAny_bind (wpAny_bind (wpAny_bind (I.type.here ((looks_findIn X hs).here ?_)))))
  simp only [hbd]
  refine wpAny_bind (wpAny_askSetting (wpAny_ite ?_))
  have fin : wpAny M A (PySem.call (.builtin id) ([.ref x] ++ args) >>= fun v => pure (some v)) Q E s := wpAny_bind (wpAny_mono h (fun v s' h' => wpAny_pure h') fun _ _ h' => h')
  split
  · exact wpAny_bind (wpAny_pure (wpAny_pure fin))
  · exact wpAny_tryCatch (wpAny_bind (wpAny_pure (wpAny_pure fin)))
theorem cmp_of {op : CmpOp} {Q : Value → Shared → Prop} (hu : A.units < cLine) (X : K.In s.heap) (I : PySem.W.InstAt s.heap x ox C od) (hb : Looks (model prog w) s.heap (typeOf b) tb) (hn : notFirst K C tb = true)
    (one : wpAny (model prog w) A (tryCompare (.ref x) (cmpInfo op).2.1 b) (fun r s' => ∃ v, r = some v ∧ Q v s') E s) : wpAny (model prog w) A (richCompare op (.ref x) b) Q E s := by
  unfold richCompare
  simp only [oneThing_ref]
  refine wpAny_holding (wpAny_bind (wpAny_cRoomFor hu ?_))
  refine wpAny_bind (I.type.here (wpAny_bind (hb.here ?_)))
  split
  · rename_i q
    have e : subIn K tb (.ref C) = some false := by
      rcases Bool.or_eq_true_iff.mp hn with e | e
      · rw [beq_iff_eq.mp e] at q; simp at q
      · exact beq_iff_eq.mp e
    refine wpAny_bind ((looks_subIn X e).here ?_)
    simp only [Bool.false_eq_true, if_false]
    refine wpAny_bind (wpAny_mono one (fun r s' z => ?_) fun _ _ e => e)
    obtain ⟨v, rfl, hq⟩ := z
    exact wpAny_pure hq
  · refine wpAny_bind (wpAny_pure ?_)
    simp only [Bool.false_eq_true, if_false]
    refine wpAny_bind (wpAny_mono one (fun r s' z => ?_) fun _ _ e => e)
    obtain ⟨v, rfl, hq⟩ := z
    exact wpAny_pure hq
theorem ne_body {Q : Fin → Shared → Prop} (hu : A.units < cLine) (X : K.In s.heap) (I : PySem.W.InstAt s.heap x ox C od) (hs : findIn K (.ref C) "__eq__" = some (some (.ref f))) (hf : isFn K (.ref f) = true)
    (h : wpAny (model prog w) A (PySem.call (.ref f) [.ref x, b]) (fun v s' => ∃ r, v = .bool r ∧ Q (.done (.ret (.bool (!r)))) s') E s) : wpAny (model prog w) A (Builtin.«object.__ne__» ⟨[.ref x, b], []⟩) Q E s := by
  unfold Builtin.«object.__ne__»
  have st : ∀ {Q' : Option Value → Shared → Prop}, (∀ r s', Q (.done (.ret (.bool (!r)))) s' → Q' (some (.bool r)) s') → wpAny (model prog w) A (callSpecialIfBound? (.ref x) (Str.ofString "__eq__") [b]) Q' E s := fun {Q'} hq =>
    ifBound_K X I hs hf (wpAny_mono h (fun v s' hv => by
      obtain ⟨r, rfl, hv⟩ := hv
      exact hq r s' hv) fun _ _ e => e)
  obtain ⟨hp, g, d, tk, os⟩ := s
  repeat (first
    | with_reducible refine wpAny_cRoomFor hu ?_
    | (refine wpAny_bind (m := callSpecialIfBound? (.ref x) (Str.ofString "__eq__") [b]) (st fun r s' hq => ?_))
    | wp_step)
  all_goals exact hq
theorem ne_own {Q : Value → Shared → Prop} (hu : A.units + 1 < cLine) (X : K.In s.heap) (I : PySem.W.InstAt s.heap x ox C od) (hb : Looks (model prog w) s.heap (typeOf b) tb) (hn : notFirst K C tb = true) (ho : subIn K (.ref C) (.type "object") = some true)
    (hne : findIn K (.ref C) "__ne__" = some (some (.builtin "object.__ne__"))) (hs : findIn K (.ref C) "__eq__" = some (some (.ref f))) (hf : isFn K (.ref f) = true)
    (h : wpAny (model prog w) A.in1 (PySem.call (.ref f) [.ref x, b]) (fun v s' => ∃ r, v = .bool r ∧ Q (.bool (!r)) s') E s) : wpAny (model prog w) A (richCompare .NotEq (.ref x) b) Q E s := by
  refine cmp_of (Nat.lt_of_succ_lt hu) X I hb hn ?_
  show wpAny _ _ (tryCompare (.ref x) "__ne__" b) _ _ _
  unfold tryCompare
  have hi : Looks (model prog w) s.heap (isInstance (.ref x) (.type "object")) true := I.type.andThen (looks_subIn X ho)
  refine wpAny_bind (ifBound_B X I hne ne_bind (wpAny_call (codeAny_call_builtin (by decide +kernel) F.cmpEntry_ne (check_slot F.cmpKind_ne F.cmpSplit_ne hi (F.cmpArgs_ne _ _) (ne_body hu X I hs hf (wpAny_mono h (fun v s' hv => ?_) fun _ _ e => e))))))
  obtain ⟨r, rfl, hq⟩ := hv
  exact ⟨r, rfl, wpAny_pure ⟨_, rfl, hq⟩⟩
theorem eq_own {Q : Value → Shared → Prop} (hu : A.units < cLine) (X : K.In s.heap) (I : PySem.W.InstAt s.heap x ox C od) (hb : Looks (model prog w) s.heap (typeOf b) tb) (hn : notFirst K C tb = true)
    (hs : findIn K (.ref C) "__eq__" = some (some (.ref f))) (hf : isFn K (.ref f) = true)
    (h : wpAny (model prog w) A (PySem.call (.ref f) [.ref x, b]) (fun v s' => ∃ r, v = .bool r ∧ Q (.bool r) s') E s) : wpAny (model prog w) A (richCompare .Eq (.ref x) b) Q E s := by
  refine cmp_of hu X I hb hn ?_
  show wpAny _ _ (tryCompare (.ref x) "__eq__" b) _ _ _
  unfold tryCompare
  refine wpAny_bind (ifBound_K X I hs hf (wpAny_mono h (fun v s' hv => ?_) fun _ _ e => e))
  obtain ⟨r, rfl, hq⟩ := hv
  exact wpAny_pure ⟨_, rfl, hq⟩
end
end PY
end
section
set_option Elab.async false
set_option autoImplicit false
set_option linter.all false
set_option maxRecDepth 100000
/-! How values of the small Python stand in the heap. -/
namespace PY
open PySem PySem.Spec PyProof.Rows L2

/-- the program as it stands behind the top: its written part, where its classes and defs lie -/
structure G0 where
  K : PySem.W.Frag
  mg : Str → Option Value
  P : Prg
  ca : Nat → Addr
  fa : Nat → Addr
/-- .. and objects that a loop holds while its block runs -/
structure Gm extends G0 where
  hid : Addr → Prop
instance : Coe Gm G0 := ⟨Gm.toG0⟩
def G0.an (Γ : G0) (a : Nat) : Str := Γ.P.attrs.getD a ⟨#[]⟩
/-- what is written of a tuple that is the module's own -/
def KTup (K : PySem.W.Frag) (a : Addr) (xs : List V) : Prop :=
  ∃ (o : Obj) (its : Array Value) (n : Nat), K.lookup a = some o ∧ o.cls = .type "tuple" ∧ o.data = .seq its n ∧ its.size ≤ sizeLine ∧ Vals xs its.toList
def KLst (K : PySem.W.Frag) (a : Addr) (xs : List V) : Prop :=
  ∃ (o : Obj) (its : Array Value) (n : Nat), K.lookup a = some o ∧ o.cls = .type "list" ∧ o.dict = Option.none ∧ o.data = .seq its n ∧ its.size ≤ sizeLine ∧ Vals xs its.toList
mutual
inductive Rep (Γ : G0) (ρ : List Addr) (L : Addr → Prop) (H : Hp) : D → V → Prop
  | none : Rep Γ ρ L H .none .non
  | bool (b : Bool) : Rep Γ ρ L H (.bool b) (.bl b)
  | int (i : Int) : Rep Γ ρ L H (.int i) (.int i)
  | str (s : Str) : Rep Γ ρ L H (.str s) (.str s)
  | tup {a : Addr} {vs : List V} {ds : List D} : ((Rd H a (.tup vs) ∧ ¬ L a) ∨ KTup Γ.K a vs) → Reps Γ ρ L H ds vs → Rep Γ ρ L H (.tup ds) (.ref a)
  | list {a : Addr} {vs : List V} {ds : List D} : H a = some (.lst vs) → ¬ L a → Reps Γ ρ L H ds vs → Rep Γ ρ L H (.list ds) (.ref a)
  | scr {a : Addr} {vs : List V} {ds : List D} : ((Rd H a (.lst vs) ∧ ¬ L a) ∨ KLst Γ.K a vs) → Reps Γ ρ L H ds vs → Rep Γ ρ L H (.scr ds) (.ref a)
  | inst {c : Nat} {C : Cl} {a dx : Addr} {vs : List V} {ds : List D} : Γ.P.clss[c]? = some C → H a = some (.ins (Γ.ca c) dx ((C.fields.map Γ.an).zip vs)) → ¬ L a → ds.length ≤ C.fields.length → Reps Γ ρ L H ds vs → Rep Γ ρ L H (.inst c ds) (.ref a)
  | ref {i : Nat} {a : Addr} : ρ[i]? = some a → Rep Γ ρ L H (.ref i) (.ref a)
  | cls (c : Nat) : Rep Γ ρ L H (.cls c) (.ref (Γ.ca c))
inductive Reps (Γ : G0) (ρ : List Addr) (L : Addr → Prop) (H : Hp) : List D → List V → Prop
  | nil : Reps Γ ρ L H [] []
  | cons {d : D} {v : V} {ds : List D} {vs : List V} : Rep Γ ρ L H d v → Reps Γ ρ L H ds vs → Reps Γ ρ L H (d :: ds) (v :: vs)
end
/-- the cells that live -/
def Lv (Γ : Gm) (ρ : List Addr) (h : Hh) : Addr → Prop := fun a => Γ.hid a ∨ ∃ (i : Nat) (o : O), ρ[i]? = some a ∧ h[i]? = some o ∧ o ≠ .dead
def CellR (Γ : G0) (ρ : List Addr) (L : Addr → Prop) (H : Hp) (a : Addr) : O → Prop
  | .lst xs => ∃ vs, H a = some (.lst vs) ∧ Reps Γ ρ L H xs vs
  | .ins c fs => ∃ C dx vs, Γ.P.clss[c]? = some C ∧ H a = some (.ins (Γ.ca c) dx ((C.fields.map Γ.an).zip vs)) ∧ fs.length ≤ C.fields.length ∧ Reps Γ ρ L H fs vs
  | .dct kvs => ∃ vs, H a = some (.dK ((kvs.map (·.1)).zip vs)) ∧ Reps Γ ρ L H (kvs.map (·.2)) vs
  | .dead => True
structure HpR (Γ : Gm) (ρ : List Addr) (H : Hp) (h : Hh) : Prop where
  len : ρ.length = h.length
  inj : ∀ (i j : Nat) (a : Addr), ρ[i]? = some a → ρ[j]? = some a → i = j
  trk : ∀ (i : Nat) (a : Addr), ρ[i]? = some a → ∃ o, H a = some o
  cell : ∀ (i : Nat) (o : O) (a : Addr), h[i]? = some o → ρ[i]? = some a → CellR Γ.toG0 ρ (Lv Γ ρ h) H a o
  hid : ∀ a, Γ.hid a → ∃ o, H a = some o
  sep : ∀ (i : Nat) (a : Addr), ρ[i]? = some a → ¬ Γ.hid a
abbrev RepS (Γ : Gm) (ρ : List Addr) (h : Hh) (H : Hp) : D → V → Prop := Rep Γ.toG0 ρ (Lv Γ ρ h) H
abbrev RepsS (Γ : Gm) (ρ : List Addr) (h : Hh) (H : Hp) : List D → List V → Prop := Reps Γ.toG0 ρ (Lv Γ ρ h) H
/-- a step: what stands by value stands on, the live cells are old ones or new -/
structure Nxt (Γ : Gm) (ρ : List Addr) (h : Hh) (H : Hp) (ρ' : List Addr) (h' : Hh) (H' : Hp) : Prop where
  pre : ∃ t, ρ' = ρ ++ t
  st : ∀ a o, H a = some o → ¬ Lv Γ ρ h a → H' a = some o
  lv : ∀ a, H a ≠ none → Lv Γ ρ' h' a → Lv Γ ρ h a
  hr : HpR Γ ρ' H' h'
  hd : ∀ a, Γ.hid a → H' a = H a

variable {Γ : Gm} {Γ0 : G0} {ρ ρ' ρ'' : List Addr} {h h' h'' : Hh} {H H' H'' : Hp} {L L' : Addr → Prop}
theorem Nxt.refl (hr : HpR Γ ρ H h) : Nxt Γ ρ h H ρ h H := ⟨⟨[], by simp⟩, fun _ _ e _ => e, fun _ _ e => e, hr, fun _ _ => rfl⟩
theorem Nxt.trans (a : Nxt Γ ρ h H ρ' h' H') (b : Nxt Γ ρ' h' H' ρ'' h'' H'') : Nxt Γ ρ h H ρ'' h'' H'' where
  pre := by
    obtain ⟨t, e⟩ := a.pre
    obtain ⟨u, e'⟩ := b.pre
    exact ⟨t ++ u, by rw [e', e, List.append_assoc]⟩
  st := fun x o e n => b.st x o (a.st x o e n) fun z => n (a.lv x (by rw [e]; simp) z)
  lv := fun x e z => by
    cases q : H x with
    | none => exact absurd q e
    | some o =>
      by_cases n : Lv Γ ρ h x
      · exact n
      · exact a.lv x e (b.lv x (by rw [a.st x o q n]; simp) z)
  hr := b.hr
  hd := fun x e => (b.hd x e).trans (a.hd x e)

/-- what is needed that values stand on -/
structure Keep (ρ : List Addr) (L : Addr → Prop) (H : Hp) (ρ' : List Addr) (L' : Addr → Prop) (H' : Hp) : Prop where
  pre : ∀ (i : Nat) (a : Addr), ρ[i]? = some a → ρ'[i]? = some a
  st : ∀ a o, H a = some o → ¬ L a → H' a = some o ∧ ¬ L' a
theorem Keep.rd (k : Keep ρ L H ρ' L' H') {a : Addr} {u : HO} (r : Rd H a u ∧ ¬ L a) : Rd H' a u ∧ ¬ L' a := by
  obtain ⟨r, n⟩ := r
  rcases r with r | ⟨o, r⟩
  · exact ⟨.inl (k.st a _ r n).1, (k.st a _ r n).2⟩
  · exact ⟨.inr ⟨o, (k.st a _ r n).1⟩, (k.st a _ r n).2⟩
mutual
theorem Rep.keep (k : Keep ρ L H ρ' L' H') : ∀ {d : D} {v : V}, Rep Γ0 ρ L H d v → Rep Γ0 ρ' L' H' d v
  | _, _, .none => .none
  | _, _, .bool b => .bool b
  | _, _, .int i => .int i
  | _, _, .str s => .str s
  | _, _, .tup t r => .tup (t.imp k.rd id) (Reps.keep k r)
  | _, _, .list t n r => .list (k.st _ _ t n).1 (k.st _ _ t n).2 (Reps.keep k r)
  | _, _, .scr t r => .scr (t.imp k.rd id) (Reps.keep k r)
  | _, _, .inst c t n l r => .inst c (k.st _ _ t n).1 (k.st _ _ t n).2 l (Reps.keep k r)
  | _, _, .ref e => .ref (k.pre _ _ e)
  | _, _, .cls c => .cls c
theorem Reps.keep (k : Keep ρ L H ρ' L' H') : ∀ {ds : List D} {vs : List V}, Reps Γ0 ρ L H ds vs → Reps Γ0 ρ' L' H' ds vs
  | _, _, .nil => .nil
  | _, _, .cons a r => .cons (Rep.keep k a) (Reps.keep k r)
end
theorem Nxt.keep (n : Nxt Γ ρ h H ρ' h' H') : Keep ρ (Lv Γ ρ h) H ρ' (Lv Γ ρ' h') H' where
  pre := fun i a e => by
    obtain ⟨t, q⟩ := n.pre
    rw [q, List.getElem?_append_left (List.getElem?_eq_some_iff.mp e).1]
    exact e
  st := fun a o e nl => ⟨n.st a o e nl, fun z => nl (n.lv a (by rw [e]; simp) z)⟩
theorem Nxt.rep (n : Nxt Γ ρ h H ρ' h' H') {d : D} {v : V} (r : RepS Γ ρ h H d v) : RepS Γ ρ' h' H' d v := r.keep n.keep
theorem Nxt.reps (n : Nxt Γ ρ h H ρ' h' H') {d : List D} {v : List V} (r : RepsS Γ ρ h H d v) : RepsS Γ ρ' h' H' d v := r.keep n.keep

/-! ### lists of values -/
theorem Reps.length : ∀ {ds : List D} {vs : List V}, Reps Γ0 ρ L H ds vs → vs.length = ds.length
  | _, _, .nil => rfl
  | _, _, .cons _ r => by simp [Reps.length r]
theorem Reps.append : ∀ {ds es : List D} {vs ws : List V}, Reps Γ0 ρ L H ds vs → Reps Γ0 ρ L H es ws → Reps Γ0 ρ L H (ds ++ es) (vs ++ ws)
  | _, _, _, _, .nil, s => s
  | _, _, _, _, .cons a r, s => .cons a (Reps.append r s)
theorem Reps.get : ∀ {ds : List D} {vs : List V} {i : Nat} {d : D}, Reps Γ0 ρ L H ds vs → ds[i]? = some d → ∃ v, vs[i]? = some v ∧ Rep Γ0 ρ L H d v
  | _, _, _, _, .nil, e => by simp at e
  | _, _, 0, _, .cons a _, e => by simp at e; subst e; exact ⟨_, rfl, a⟩
  | _, _, i + 1, d, .cons _ r, e => by
    obtain ⟨v, h1, h2⟩ := Reps.get (i := i) (d := d) r (by simpa using e)
    exact ⟨v, by simpa using h1, h2⟩
theorem Reps.getV : ∀ {ds : List D} {vs : List V} {i : Nat} {v : V}, Reps Γ0 ρ L H ds vs → vs[i]? = some v → ∃ d, ds[i]? = some d ∧ Rep Γ0 ρ L H d v
  | _, _, _, _, .nil, e => by simp at e
  | _, _, 0, _, .cons a _, e => by simp at e; subst e; exact ⟨_, rfl, a⟩
  | _, _, i + 1, d, .cons _ r, e => by
    obtain ⟨v, h1, h2⟩ := Reps.getV (i := i) (v := d) r (by simpa using e)
    exact ⟨v, by simpa using h1, h2⟩
theorem Reps.take : ∀ {ds : List D} {vs : List V} (n : Nat), Reps Γ0 ρ L H ds vs → Reps Γ0 ρ L H (ds.take n) (vs.take n)
  | _, _, 0, _ => by simp; exact .nil
  | _, _, _ + 1, .nil => by simp; exact .nil
  | _, _, n + 1, .cons a r => by simp; exact .cons a (Reps.take n r)
theorem Reps.drop : ∀ {ds : List D} {vs : List V} (n : Nat), Reps Γ0 ρ L H ds vs → Reps Γ0 ρ L H (ds.drop n) (vs.drop n)
  | _, _, 0, r => by simpa using r
  | _, _, _ + 1, .nil => by simp; exact .nil
  | _, _, n + 1, .cons a r => by simpa using Reps.drop n r
theorem Reps.reverse : ∀ {ds : List D} {vs : List V}, Reps Γ0 ρ L H ds vs → Reps Γ0 ρ L H ds.reverse vs.reverse
  | _, _, .nil => .nil
  | _, _, .cons a r => by simp only [List.reverse_cons]; exact Reps.append (Reps.reverse r) (.cons a .nil)
theorem Reps.set : ∀ {ds : List D} {vs : List V} {d : D} {v : V} (n : Nat), Reps Γ0 ρ L H ds vs → Rep Γ0 ρ L H d v → Reps Γ0 ρ L H (ds.set n d) (vs.set n v)
  | _, _, _, _, _, .nil, _ => .nil
  | _, _, _, _, 0, .cons _ r, q => .cons q r
  | _, _, _, _, n + 1, .cons a r, q => .cons a (Reps.set n r q)
theorem Reps.rep {ds : List D} {vs : List V} (r : Reps Γ0 ρ L H ds vs) : ∀ k : Nat, Reps Γ0 ρ L H (List.replicate k ds).flatten (List.replicate k vs).flatten
  | 0 => .nil
  | k + 1 => by simp only [List.replicate_succ, List.flatten_cons]; exact r.append (Reps.rep r k)
theorem Reps.split : ∀ {ds es : List D} {vs : List V}, Reps Γ0 ρ L H (ds ++ es) vs → ∃ a b, vs = a ++ b ∧ Reps Γ0 ρ L H ds a ∧ Reps Γ0 ρ L H es b
  | [], _, vs, r => ⟨[], vs, rfl, .nil, r⟩
  | d :: ds, es, _, .cons a r => by
    obtain ⟨x, y, rfl, p, q⟩ := Reps.split (ds := ds) (es := es) r
    exact ⟨_ :: x, y, rfl, .cons a p, q⟩

/-! ### new objects, changed cells -/
theorem Lv.app {o : O} {a : Addr} (hr : ρ.length = h.length) {b : Addr} : Lv Γ (ρ ++ [a]) (h ++ [o]) b ↔ (Lv Γ ρ h b ∨ (b = a ∧ o ≠ .dead)) := by
  constructor
  · rintro (z | ⟨i, u, e1, e2, n⟩)
    · exact .inl (.inl z)
    by_cases hi : i < h.length
    · rw [List.getElem?_append_left (by omega)] at e1
      rw [List.getElem?_append_left hi] at e2
      exact .inl (.inr ⟨i, u, e1, e2, n⟩)
    · have l1 := (List.getElem?_eq_some_iff.mp e2).1
      simp at l1
      have ei : i = h.length := by omega
      subst ei
      rw [← hr] at e1
      simp at e1 e2
      subst e1 e2
      exact .inr ⟨rfl, n⟩
  · rintro ((z | ⟨i, u, e1, e2, n⟩) | ⟨rfl, n⟩)
    · exact .inl z
    · exact .inr ⟨i, u, by rw [List.getElem?_append_left (List.getElem?_eq_some_iff.mp e1).1]; exact e1, by rw [List.getElem?_append_left (List.getElem?_eq_some_iff.mp e2).1]; exact e2, n⟩
    · exact .inr ⟨h.length, o, by rw [← hr]; simp, by simp, n⟩
/-- an object by value is laid -/
theorem Nxt.lay (hr : HpR Γ ρ H h) {p : Addr} {o : HO} (hp : H p = none) : Nxt Γ ρ h H ρ h (upd H p o) := by
  have st : ∀ a u, H a = some u → (upd H p o) a = some u := fun a u e => by rw [upd_ne (ne_of_none e hp)]; exact e
  have kp : Keep ρ (Lv Γ ρ h) H ρ (Lv Γ ρ h) (upd H p o) := ⟨fun _ _ e => e, fun a u e n => ⟨st a u e, n⟩⟩
  refine ⟨⟨[], by simp⟩, fun a u e _ => st a u e, fun _ _ z => z, ⟨hr.len, hr.inj, fun i a e => (hr.trk i a e).imp fun u q => st a u q, fun i u a e1 e2 => ?_, fun a e => (hr.hid a e).imp fun u q => st a u q, hr.sep⟩, fun a e => ?_⟩
  · have c := hr.cell i u a e1 e2
    cases u with
    | lst xs => obtain ⟨vs, c1, c2⟩ := c; exact ⟨vs, st _ _ c1, c2.keep kp⟩
    | ins k fs => obtain ⟨C, dx, vs, c1, c2, c3, c4⟩ := c; exact ⟨C, dx, vs, c1, st _ _ c2, c3, c4.keep kp⟩
    | dct kvs => obtain ⟨vs, c1, c2⟩ := c; exact ⟨vs, st _ _ c1, c2.keep kp⟩
    | dead => trivial
  · obtain ⟨u, q⟩ := hr.hid a e
    rw [st a u q, q]
theorem Nxt.notLive (n : Nxt Γ ρ h H ρ' h' H') {a : Addr} {o : HO} (e : H a = some o) (nl : ¬ Lv Γ ρ h a) : ¬ Lv Γ ρ' h' a := fun z => nl (n.lv a (by rw [e]; simp) z)
/-- what lives stands -/
theorem HpR.there (hr : HpR Γ ρ H h) {a : Addr} (z : Lv Γ ρ h a) : ∃ o, H a = some o := by
  rcases z with z | ⟨i, o, e1, e2, n⟩
  · exact hr.hid a z
  have c := hr.cell i o a e2 e1
  cases o with
  | lst xs => obtain ⟨vs, c1, _⟩ := c; exact ⟨_, c1⟩
  | ins k fs => obtain ⟨C, dx, vs, c1, c2, _⟩ := c; exact ⟨_, c2⟩
  | dct kvs => obtain ⟨vs, c1, _⟩ := c; exact ⟨_, c1⟩
  | dead => exact absurd rfl n
theorem HpR.fresh (hr : HpR Γ ρ H h) {p : Addr} (hp : H p = none) : ¬ Lv Γ ρ h p := fun z => by
  obtain ⟨o, e⟩ := hr.there z
  rw [hp] at e; cases e
/-! ### hiding -/
def Gm.hide (Γ : Gm) (p : Addr) : Gm := ⟨Γ.toG0, fun a => Γ.hid a ∨ a = p⟩
theorem CellR.keep (k : Keep ρ L H ρ' L' H') {a : Addr} {o : O} (e : H' a = H a) (c : CellR Γ0 ρ L H a o) : CellR Γ0 ρ' L' H' a o := by
  cases o with
  | lst xs => obtain ⟨vs, c1, c2⟩ := c; exact ⟨vs, by rw [e]; exact c1, c2.keep k⟩
  | ins j fs => obtain ⟨C, dx, vs, c1, c2, c3, c4⟩ := c; exact ⟨C, dx, vs, c1, by rw [e]; exact c2, c3, c4.keep k⟩
  | dct kvs => obtain ⟨vs, c1, c2⟩ := c; exact ⟨vs, by rw [e]; exact c1, c2.keep k⟩
  | dead => trivial
/-- a new object is hidden -/
theorem HpR.hide (hr : HpR Γ ρ H h) {p : Addr} {o : HO} (hp : H p = none) : HpR (Γ.hide p) ρ (upd H p o) h := by
  have st : ∀ a u, H a = some u → (upd H p o) a = some u := fun a u e => by rw [upd_ne (ne_of_none e hp)]; exact e
  have kp : Keep ρ (Lv Γ ρ h) H ρ (Lv (Γ.hide p) ρ h) (upd H p o) := ⟨fun _ _ e => e, fun a u e n => ⟨st a u e, fun z => by
    rcases z with (z | z) | z
    · exact n (.inl z)
    · subst z; rw [hp] at e; cases e
    · exact n (.inr z)⟩⟩
  refine ⟨hr.len, hr.inj, fun i a e => (hr.trk i a e).imp fun u q => st a u q, fun i u a e1 e2 => ?_, fun a e => ?_, fun i a e z => ?_⟩
  · obtain ⟨w, q⟩ := hr.trk i a e2
    exact (hr.cell i u a e1 e2).keep kp (by rw [st a w q, q])
  · rcases e with e | e
    · exact (hr.hid a e).imp fun u q => st a u q
    · exact ⟨o, by rw [e, upd_same]⟩
  · rcases z with z | z
    · exact hr.sep i a e z
    · obtain ⟨w, q⟩ := hr.trk i a e
      rw [z, hp] at q; cases q
theorem hide_keep {p : Addr} : Keep ρ (Lv (Γ.hide p) ρ h) H ρ (Lv Γ ρ h) H := ⟨fun _ _ e => e, fun a u e n => ⟨e, fun z => n (z.imp .inl id)⟩⟩
theorem HpR.unhide {p : Addr} (hr : HpR (Γ.hide p) ρ H h) : HpR Γ ρ H h :=
  ⟨hr.len, hr.inj, hr.trk, fun i u a e1 e2 => (hr.cell i u a e1 e2).keep hide_keep rfl, fun a e => hr.hid a (.inl e), fun i a e z => hr.sep i a e (.inl z)⟩
/-- a hidden object is changed -/
theorem HpR.hset {p : Addr} {o : HO} (hr : HpR (Γ.hide p) ρ H h) : HpR (Γ.hide p) ρ (upd H p o) h := by
  have ne : ∀ i a, ρ[i]? = some a → a ≠ p := fun i a e z => hr.sep i a e (.inr z)
  have kp : Keep ρ (Lv (Γ.hide p) ρ h) H ρ (Lv (Γ.hide p) ρ h) (upd H p o) := ⟨fun _ _ e => e, fun a u e n => ⟨by rw [upd_ne (fun z => n (.inl (.inr z)))]; exact e, n⟩⟩
  refine ⟨hr.len, hr.inj, fun i a e => by rw [upd_ne (ne i a e)]; exact hr.trk i a e, fun i u a e1 e2 => (hr.cell i u a e1 e2).keep kp (upd_ne (ne i a e2)), fun a e => ?_, hr.sep⟩
  by_cases z : a = p
  · exact ⟨o, by rw [z, upd_same]⟩
  · rw [upd_ne z]; exact hr.hid a e
end PY
end
section
set_option Elab.async false
set_option autoImplicit false
set_option linter.all false
set_option maxRecDepth 100000
/-! Cells: made, changed, frozen, forgotten. -/
namespace PY
open PySem PySem.Spec PyProof.Rows L2
variable {Γ : Gm} {Γ0 : G0} {ρ ρ' ρ'' : List Addr} {h h' h'' : Hh} {H H' H'' : Hp} {L L' : Addr → Prop}

theorem app_keep (hr : HpR Γ ρ H h) {p : Addr} {u : HO} {o : O} (hp : H p = none) : Keep ρ (Lv Γ ρ h) H (ρ ++ [p]) (Lv Γ (ρ ++ [p]) (h ++ [o])) (upd H p u) where
  pre := fun i a e => by rw [List.getElem?_append_left (List.getElem?_eq_some_iff.mp e).1]; exact e
  st := fun a w e n => by
    have ne := ne_of_none e hp
    refine ⟨by rw [upd_ne ne]; exact e, fun z => ?_⟩
    rcases (Lv.app hr.len).mp z with z | ⟨z, _⟩
    · exact n z
    · exact ne z
theorem app_get {α : Type} {l : List α} {x : α} {i : Nat} {y : α} (e : (l ++ [x])[i]? = some y) : l[i]? = some y ∨ (i = l.length ∧ y = x) := by
  by_cases hi : i < l.length
  · rw [List.getElem?_append_left hi] at e; exact .inl e
  · have l1 := (List.getElem?_eq_some_iff.mp e).1
    simp at l1
    have ei : i = l.length := by omega
    subst ei
    simp at e
    exact .inr ⟨rfl, e.symm⟩
/-- a new cell -/
theorem Nxt.newC (hr : HpR Γ ρ H h) {p : Addr} {u : HO} {o : O} (hp : H p = none) (new : CellR Γ (ρ ++ [p]) (Lv Γ (ρ ++ [p]) (h ++ [o])) (upd H p u) p o) : Nxt Γ ρ h H (ρ ++ [p]) (h ++ [o]) (upd H p u) := by
  have kp := app_keep (Γ := Γ) (u := u) (o := o) hr hp
  have nin : ∀ (i : Nat) (a : Addr), ρ[i]? = some a → a ≠ p := fun i a e z => by
    obtain ⟨w, q⟩ := hr.trk i a e
    rw [z, hp] at q; cases q
  have hs : ∀ a, Γ.hid a → a ≠ p := fun a e z => by
    obtain ⟨u, q⟩ := hr.hid a e
    rw [z, hp] at q; cases q
  refine ⟨⟨[p], rfl⟩, fun a w e n => (kp.st a w e n).1, fun a e z => ?_, ⟨by simp [hr.len], fun i j a e1 e2 => ?_, fun i a e => ?_, fun i w a e1 e2 => ?_, fun a e => by rw [upd_ne (hs a e)]; exact hr.hid a e, fun i a e z => ?_⟩, fun a e => upd_ne (hs a e)⟩
  · rcases (Lv.app hr.len).mp z with z | ⟨z, _⟩
    · exact z
    · rw [z] at e; exact absurd hp e
  · rcases app_get e1 with e1 | ⟨e1, z1⟩
    · rcases app_get e2 with e2 | ⟨e2, z2⟩
      · exact hr.inj i j a e1 e2
      · exact absurd z2 (nin _ _ e1)
    · rcases app_get e2 with e2 | ⟨e2, z2⟩
      · exact absurd z1 (nin _ _ e2)
      · omega
  · rcases app_get e with e | ⟨_, z⟩
    · obtain ⟨w, q⟩ := hr.trk i a e
      exact ⟨w, by rw [upd_ne (ne_of_none q hp)]; exact q⟩
    · exact ⟨u, by rw [z, upd_same]⟩
  · rcases app_get e1 with e1 | ⟨e1, z1⟩
    · have e2' : ρ[i]? = some a := by
        rw [List.getElem?_append_left (by rw [hr.len]; exact (List.getElem?_eq_some_iff.mp e1).1)] at e2
        exact e2
      exact (hr.cell i w a e1 e2').keep kp (upd_ne (nin _ _ e2'))
    · rcases app_get e2 with e2 | ⟨_, z2⟩
      · have := (List.getElem?_eq_some_iff.mp e2).1
        rw [hr.len] at this; omega
      · rw [z1, z2]; exact new
  · rcases app_get e with e | ⟨_, q⟩
    · exact hr.sep i a e z
    · exact hs a z q
theorem Nxt.newL (hr : HpR Γ ρ H h) {p : Addr} {xs : List D} {vs : List V} (hp : H p = none) (r : RepsS Γ ρ h H xs vs) :
    Nxt Γ ρ h H (ρ ++ [p]) (h ++ [.lst xs]) (upd H p (.lst vs)) ∧ RepS Γ (ρ ++ [p]) (h ++ [.lst xs]) (upd H p (.lst vs)) (.ref h.length) (.ref p) :=
  ⟨Nxt.newC hr hp ⟨vs, upd_same, r.keep (app_keep hr hp)⟩, .ref (by rw [← hr.len]; simp)⟩
/-- a list by value -/
theorem Nxt.valL (hr : HpR Γ ρ H h) {p : Addr} {xs : List D} {vs : List V} (hp : H p = none) (r : RepsS Γ ρ h H xs vs) :
    Nxt Γ ρ h H ρ h (upd H p (.lst vs)) ∧ RepS Γ ρ h (upd H p (.lst vs)) (.list xs) (.ref p) :=
  have n := Nxt.lay (o := .lst vs) hr hp
  ⟨n, .list upd_same (hr.fresh hp) (n.reps r)⟩
theorem Nxt.valT (hr : HpR Γ ρ H h) {p : Addr} {xs : List D} {vs : List V} (hp : H p = none) (r : RepsS Γ ρ h H xs vs) :
    Nxt Γ ρ h H ρ h (upd H p (.tup vs)) ∧ RepS Γ ρ h (upd H p (.tup vs)) (.tup xs) (.ref p) :=
  have n := Nxt.lay (o := .tup vs) hr hp
  ⟨n, .tup (.inl ⟨.inl upd_same, hr.fresh hp⟩) (n.reps r)⟩

theorem Lv.set {i : Nat} {o o' : O} {a : Addr} (hr : HpR Γ ρ H h) (e1 : ρ[i]? = some a) (e2 : h[i]? = some o) (n : o ≠ .dead) {b : Addr} (z : Lv Γ ρ (h.set i o') b) : Lv Γ ρ h b := by
  rcases z with z | ⟨j, w, q1, q2, q3⟩
  · exact .inl z
  by_cases hj : i = j
  · subst hj
    rw [e1] at q1; cases q1
    exact .inr ⟨i, o, e1, e2, n⟩
  · rw [List.getElem?_set_ne hj] at q2
    exact .inr ⟨j, w, q1, q2, q3⟩
theorem set_keep {i : Nat} {o o' : O} {a : Addr} {u : HO} (hr : HpR Γ ρ H h) (e1 : ρ[i]? = some a) (e2 : h[i]? = some o) (n : o ≠ .dead) : Keep ρ (Lv Γ ρ h) H ρ (Lv Γ ρ (h.set i o')) (upd H a u) where
  pre := fun _ _ e => e
  st := fun b w e nl => by
    have ne : b ≠ a := fun z => nl (z ▸ .inr ⟨i, o, e1, e2, n⟩)
    exact ⟨by rw [upd_ne ne]; exact e, fun z => nl (z.set hr e1 e2 n)⟩
/-- a cell changed -/
theorem Nxt.setC {i : Nat} {o o' : O} {a : Addr} {u : HO} (hr : HpR Γ ρ H h) (e1 : ρ[i]? = some a) (e2 : h[i]? = some o) (n : o ≠ .dead) (new : CellR Γ ρ (Lv Γ ρ (h.set i o')) (upd H a u) a o') : Nxt Γ ρ h H ρ (h.set i o') (upd H a u) := by
  have kp := set_keep (o' := o') (u := u) hr e1 e2 n
  have hs : ∀ b, Γ.hid b → b ≠ a := fun b e z => hr.sep i a e1 (z ▸ e)
  refine ⟨⟨[], by simp⟩, fun b w e nl => (kp.st b w e nl).1, fun b e z => z.set hr e1 e2 n, ⟨by simp [hr.len], hr.inj, fun j b e => ?_, fun j w b q1 q2 => ?_, fun b e => by rw [upd_ne (hs b e)]; exact hr.hid b e, hr.sep⟩, fun b e => upd_ne (hs b e)⟩
  · by_cases hb : b = a
    · exact ⟨u, by rw [hb, upd_same]⟩
    · obtain ⟨w, q⟩ := hr.trk j b e
      exact ⟨w, by rw [upd_ne hb]; exact q⟩
  · by_cases hj : i = j
    · subst hj
      rw [e1] at q2; cases q2
      rw [List.getElem?_set_self (List.getElem?_eq_some_iff.mp e2).1] at q1
      cases q1
      exact new
    · rw [List.getElem?_set_ne hj] at q1
      have hb : b ≠ a := fun z => hj (hr.inj i j a e1 (z ▸ q2))
      exact (hr.cell j w b q1 q2).keep kp (upd_ne hb)
theorem Nxt.setL {i : Nat} {o : O} {a : Addr} {xs : List D} {vs : List V} (hr : HpR Γ ρ H h) (e1 : ρ[i]? = some a) (e2 : h[i]? = some o) (n : o ≠ .dead) (r : RepsS Γ ρ h H xs vs) : Nxt Γ ρ h H ρ (h.set i (.lst xs)) (upd H a (.lst vs)) :=
  Nxt.setC hr e1 e2 n ⟨vs, upd_same, r.keep (set_keep hr e1 e2 n)⟩
/-- the lists of a store -/
theorem HpR.lst {i : Nat} {a : Addr} {xs : List D} (hr : HpR Γ ρ H h) (e1 : ρ[i]? = some a) (e2 : h[i]? = some (.lst xs)) : ∃ vs, H a = some (.lst vs) ∧ RepsS Γ ρ h H xs vs := hr.cell i _ a e2 e1
theorem HpR.ins {i : Nat} {a : Addr} {c : Nat} {xs : List D} (hr : HpR Γ ρ H h) (e1 : ρ[i]? = some a) (e2 : h[i]? = some (.ins c xs)) :
    ∃ C dx vs, Γ.P.clss[c]? = some C ∧ H a = some (.ins (Γ.ca c) dx ((C.fields.map Γ.an).zip vs)) ∧ xs.length ≤ C.fields.length ∧ RepsS Γ ρ h H xs vs := hr.cell i _ a e2 e1
/-- a cell is frozen: it is a list by value from now on -/
theorem Nxt.frz {i : Nat} {a : Addr} {xs : List D} (hr : HpR Γ ρ H h) (e1 : ρ[i]? = some a) (e2 : h[i]? = some (.lst xs)) :
    Nxt Γ ρ h H ρ (h.set i .dead) H ∧ RepS Γ ρ (h.set i .dead) H (.list xs) (.ref a) := by
  obtain ⟨vs, c1, c2⟩ := hr.lst e1 e2
  have lv : ∀ b, Lv Γ ρ (h.set i .dead) b → Lv Γ ρ h b := fun b z => z.set hr e1 e2 (by simp)
  have kp : Keep ρ (Lv Γ ρ h) H ρ (Lv Γ ρ (h.set i .dead)) H := ⟨fun _ _ e => e, fun b w e nl => ⟨e, fun z => nl (lv b z)⟩⟩
  have nl : ¬ Lv Γ ρ (h.set i .dead) a := fun z => by
    rcases z with z | ⟨j, w, q1, q2, q3⟩
    · exact hr.sep i a e1 z
    have ej : i = j := hr.inj i j a e1 q1
    subst ej
    rw [List.getElem?_set_self (List.getElem?_eq_some_iff.mp e2).1] at q2
    cases q2
    exact q3 rfl
  refine ⟨⟨⟨[], by simp⟩, fun b w e _ => e, fun b _ z => lv b z, ⟨by simp [hr.len], hr.inj, hr.trk, fun j w b q1 q2 => ?_, hr.hid, hr.sep⟩, fun _ _ => rfl⟩, .list c1 nl (c2.keep kp)⟩
  by_cases hj : i = j
  · subst hj
    rw [List.getElem?_set_self (List.getElem?_eq_some_iff.mp e2).1] at q1
    cases q1
    trivial
  · rw [List.getElem?_set_ne hj] at q1
    exact (hr.cell j w b q1 q2).keep kp rfl

/-! ### references in bounds -/
mutual
theorem Rep.lt : ∀ {d : D} {v : V}, Rep Γ0 ρ L H d v → d.lt ρ.length = true
  | _, _, .none => rfl
  | _, _, .bool b => rfl
  | _, _, .int i => rfl
  | _, _, .str s => rfl
  | _, _, .tup t r => by simp only [D.lt]; exact Reps.lts r
  | _, _, .list t n r => by simp only [D.lt]; exact Reps.lts r
  | _, _, .scr t r => by simp only [D.lt]; exact Reps.lts r
  | _, _, .inst c t n l r => by simp only [D.lt]; exact Reps.lts r
  | _, _, .ref e => by simp only [D.lt]; exact decide_eq_true (List.getElem?_eq_some_iff.mp e).1
  | _, _, .cls c => rfl
theorem Reps.lts : ∀ {ds : List D} {vs : List V}, Reps Γ0 ρ L H ds vs → D.lts ρ.length ds = true
  | _, _, .nil => rfl
  | _, _, .cons a r => by simp only [D.lts, Rep.lt a, Reps.lts r]; rfl
end
theorem CellR.lt {a : Addr} {o : O} (c : CellR Γ0 ρ L H a o) : o.lt ρ.length = true := by
  cases o with
  | lst xs => obtain ⟨vs, c1, c2⟩ := c; exact c2.lts
  | ins j fs => obtain ⟨C, dx, vs, c1, c2, c3, c4⟩ := c; exact c4.lts
  | dct kvs => obtain ⟨vs, c1, c2⟩ := c; exact c2.lts
  | dead => rfl
mutual
theorem beq_ok : ∀ {a b : D}, D.beq a b = true → a = b
  | .none, .none, _ => rfl
  | .bool a, .bool b, e => by simp [D.beq] at e; rw [e]
  | .int a, .int b, e => by simp [D.beq] at e; rw [e]
  | .str a, .str b, e => by simp [D.beq] at e; rw [e]
  | .tup a, .tup b, e => by simp only [D.beq] at e; rw [beqs_ok e]
  | .list a, .list b, e => by simp only [D.beq] at e; rw [beqs_ok e]
  | .scr a, .scr b, e => by simp only [D.beq] at e; rw [beqs_ok e]
  | .inst c a, .inst d b, e => by
    simp only [D.beq, Bool.and_eq_true, beq_iff_eq] at e
    rw [e.1, beqs_ok e.2]
  | .ref a, .ref b, e => by simp [D.beq] at e; rw [e]
  | .cls a, .cls b, e => by simp [D.beq] at e; rw [e]
theorem beqs_ok : ∀ {a b : List D}, D.beqs a b = true → a = b
  | [], [], _ => rfl
  | x :: xs, y :: ys, e => by
    simp only [D.beqs, Bool.and_eq_true] at e
    rw [beq_ok e.1, beqs_ok e.2]
end
theorem pair_ext {α β : Type} : ∀ {xs ys : List (α × β)}, xs.map (·.1) = ys.map (·.1) → xs.map (·.2) = ys.map (·.2) → xs = ys
  | [], [], _, _ => rfl
  | [], _ :: _, e, _ => by simp at e
  | _ :: _, [], e, _ => by simp at e
  | x :: xs, y :: ys, e, f => by
    simp only [List.map_cons, List.cons.injEq] at e f
    rw [pair_ext e.2 f.2, Prod.ext e.1 f.1]
theorem beqO_ok {a b : O} (e : O.beq a b = true) : a = b := by
  cases a <;> cases b <;> simp only [O.beq, Bool.and_eq_true, beq_iff_eq, Bool.false_eq_true, decide_eq_true_eq] at e
  · rw [beqs_ok e]
  · rw [e.1, beqs_ok e.2]
  · rw [pair_ext e.1 (beqs_ok e.2)]
  · rfl
mutual
theorem Rep.cut {n : Nat} (st : ∀ a o, H a = some o → ¬ L a → H' a = some o ∧ ¬ L' a) : ∀ {d : D} {v : V}, Rep Γ0 ρ L H d v → d.lt n = true → Rep Γ0 (ρ.take n) L' H' d v
  | _, _, .none, _ => .none
  | _, _, .bool b, _ => .bool b
  | _, _, .int i, _ => .int i
  | _, _, .str s, _ => .str s
  | _, _, .tup t r, e => .tup (t.imp (Keep.rd (ρ := []) (ρ' := []) ⟨fun _ _ e => e, st⟩) id) (Reps.cut st r (by simpa only [D.lt] using e))
  | _, _, .list t n r, e => .list (st _ _ t n).1 (st _ _ t n).2 (Reps.cut st r (by simpa only [D.lt] using e))
  | _, _, .scr t r, e => .scr (t.imp (Keep.rd (ρ := []) (ρ' := []) ⟨fun _ _ e => e, st⟩) id) (Reps.cut st r (by simpa only [D.lt] using e))
  | _, _, .inst c t n l r, e => .inst c (st _ _ t n).1 (st _ _ t n).2 l (Reps.cut st r (by simpa only [D.lt] using e))
  | _, _, .ref q, e => .ref (by rw [List.getElem?_take_of_lt (of_decide_eq_true (by simpa only [D.lt] using e))]; exact q)
  | _, _, .cls c, _ => .cls c
theorem Reps.cut {n : Nat} (st : ∀ a o, H a = some o → ¬ L a → H' a = some o ∧ ¬ L' a) : ∀ {ds : List D} {vs : List V}, Reps Γ0 ρ L H ds vs → D.lts n ds = true → Reps Γ0 (ρ.take n) L' H' ds vs
  | _, _, .nil, _ => .nil
  | _, _, .cons a r, e => by
    simp only [D.lts, Bool.and_eq_true] at e
    exact .cons (Rep.cut st a e.1) (Reps.cut st r e.2)
end
theorem kept_at {n : Nat} : ∀ {l l' : Hh}, kept n l l' = true → ∀ (i : Nat) (o o' : O), l[i]? = some o → l'[i]? = some o' → o = o' ∨ o'.lt n = true
  | o :: r, o' :: r', e, 0, a, b, e1, e2 => by
    simp at e1 e2; subst e1 e2
    simp only [kept, Bool.and_eq_true, Bool.or_eq_true] at e
    exact e.1.imp beqO_ok id
  | o :: r, o' :: r', e, i + 1, a, b, e1, e2 => by
    simp only [kept, Bool.and_eq_true] at e
    exact kept_at e.2 i a b (by simpa using e1) (by simpa using e2)
  | [], _, _, _, _, _, e1, _ => by simp at e1
  | _ :: _, [], e, _, _, _, _, _ => by simp [kept] at e
theorem kept_len {n : Nat} : ∀ {l l' : Hh}, kept n l l' = true → l.length ≤ l'.length
  | [], _, _ => Nat.zero_le _
  | _ :: _, [], e => by simp [kept] at e
  | o :: r, o' :: r', e => by
    simp only [kept, Bool.and_eq_true] at e
    have := kept_len e.2
    simp; omega
theorem Lv.take {n : Nat} {a : Addr} (z : Lv Γ (ρ.take n) (h.take n) a) : Lv Γ ρ h a := by
  rcases z with z | ⟨i, o, q1, q2, q3⟩
  · exact .inl z
  have l := (List.getElem?_eq_some_iff.mp q1).1
  simp at l
  rw [List.getElem?_take_of_lt (by omega)] at q1 q2
  exact .inr ⟨i, o, q1, q2, q3⟩
/-- the cells beyond those that stood are forgotten -/
theorem Nxt.trim (hr : HpR Γ ρ H h) (n : Nxt Γ ρ h H ρ' h' H') (k : kept h.length h h' = true) : Nxt Γ ρ h H ρ (h'.take h.length) H' := by
  obtain ⟨t, rfl⟩ := n.pre
  have et : (ρ ++ t).take h.length = ρ := by rw [← hr.len]; simp
  have lv : ∀ a, Lv Γ ρ (h'.take h.length) a → Lv Γ (ρ ++ t) h' a := fun a z => by
    have z' : Lv Γ ((ρ ++ t).take h.length) (h'.take h.length) a := by rw [et]; exact z
    exact z'.take
  refine ⟨⟨[], by simp⟩, n.st, fun a e z => n.lv a e (lv a z), ⟨?_, hr.inj, fun i a e => n.hr.trk i a (by rw [List.getElem?_append_left (List.getElem?_eq_some_iff.mp e).1]; exact e), fun i o a e1 e2 => ?_, n.hr.hid, hr.sep⟩, n.hd⟩
  · have := kept_len k
    simp [hr.len]; omega
  · have hi : i < h.length := by rw [← hr.len]; exact (List.getElem?_eq_some_iff.mp e2).1
    rw [List.getElem?_take_of_lt hi] at e1
    have e2' : (ρ ++ t)[i]? = some a := by rw [List.getElem?_append_left (by rw [hr.len]; exact hi)]; exact e2
    have c := n.hr.cell i o a e1 e2'
    have lt : o.lt h.length = true := by
      rcases kept_at k i _ _ (List.getElem?_eq_getElem hi) e1 with q | q
      · have c0 := hr.cell i _ a (List.getElem?_eq_getElem hi) e2
        rw [q] at c0
        have := c0.lt
        rw [hr.len] at this; exact this
      · exact q
    have st : ∀ b w, H' b = some w → ¬ Lv Γ (ρ ++ t) h' b → H' b = some w ∧ ¬ Lv Γ ρ (h'.take h.length) b := fun b w e nl => ⟨e, fun z => nl (lv b z)⟩
    cases o with
    | lst xs =>
      obtain ⟨vs, c1, c2⟩ := c
      refine ⟨vs, c1, ?_⟩
      have := c2.cut (n := h.length) st lt
      rw [et] at this; exact this
    | ins j fs =>
      obtain ⟨C, dx, vs, c1, c2, c3, c4⟩ := c
      refine ⟨C, dx, vs, c1, c2, c3, ?_⟩
      have := c4.cut (n := h.length) st lt
      rw [et] at this; exact this
    | dct kvs =>
      obtain ⟨vs, c1, c2⟩ := c
      refine ⟨vs, c1, ?_⟩
      have := c2.cut (n := h.length) st lt
      rw [et] at this; exact this
    | dead => trivial
theorem Nxt.trimR (hr : HpR Γ ρ H h) (n : Nxt Γ ρ h H ρ' h' H') {d : D} {v : V} (r : RepS Γ ρ' h' H' d v) (l : d.lt h.length = true) : RepS Γ ρ (h'.take h.length) H' d v := by
  obtain ⟨t, rfl⟩ := n.pre
  have et : (ρ ++ t).take h.length = ρ := by rw [← hr.len]; simp
  have lv : ∀ a, Lv Γ ρ (h'.take h.length) a → Lv Γ (ρ ++ t) h' a := fun a z => by
    have z' : Lv Γ ((ρ ++ t).take h.length) (h'.take h.length) a := by rw [et]; exact z
    exact z'.take
  have := Rep.cut (n := h.length) (H' := H') (L' := Lv Γ ρ (h'.take h.length)) (fun b w e nl => ⟨e, fun z => nl (lv b z)⟩) r l
  rw [et] at this; exact this
end PY
namespace PY
open PySem PySem.Spec PyProof.Rows L2
variable {Γ : Gm} {Γ0 : G0} {ρ ρ' ρ'' : List Addr} {h h' h'' : Hh} {H H' H'' : Hp} {L L' : Addr → Prop}
/-! ### tables -/
theorem tget_valV : @tget V = valV := rfl
theorem tput_putK : @tput V = putK := rfl
theorem tmerge_mergeK : @tmerge V = mergeK := rfl
theorem tz_any {k : Key} : ∀ {kvs : List (Key × D)} {vs : List V}, vs.length = kvs.length → (((kvs.map (·.1)).zip vs).any fun kv => decide (kv.1 = k)) = kvs.any fun kv => decide (kv.1 = k)
  | [], _, _ => rfl
  | p :: r, [], e => by simp at e
  | p :: r, v :: vs, e => by
    simp only [List.map_cons, List.zip_cons_cons, List.any_cons]
    rw [tz_any (by simpa using e)]
theorem tz_find {k : Key} : ∀ {kvs : List (Key × D)} {vs : List V}, Reps Γ0 ρ L H (kvs.map (·.2)) vs → (tget kvs k).isSome = (valV ((kvs.map (·.1)).zip vs) k).isSome ∧ ∀ d, tget kvs k = some d → ∃ v, valV ((kvs.map (·.1)).zip vs) k = some v ∧ Rep Γ0 ρ L H d v
  | [], _, .nil => ⟨rfl, fun d e => by cases e⟩
  | p :: r, _, .cons a q => by
    have ih := tz_find (k := k) q
    rw [List.map_cons, List.zip_cons_cons]
    by_cases e : p.1 = k
    · rw [valV_pos (p := (p.1, _)) e]
      have : tget (p :: r) k = some p.2 := by simp [tget, e]
      rw [this]
      exact ⟨rfl, fun d z => by cases z; exact ⟨_, rfl, a⟩⟩
    · rw [valV_neg (p := (p.1, _)) e]
      have : tget (p :: r) k = tget r k := by simp [tget, e]
      rw [this]
      exact ih
theorem tz_put {k : Key} {d : D} {v : V} {kvs : List (Key × D)} {vs : List V} (r : Reps Γ0 ρ L H (kvs.map (·.2)) vs) (a : Rep Γ0 ρ L H d v) :
    ∃ vs', putK ((kvs.map (·.1)).zip vs) k v = ((tput kvs k d).map (·.1)).zip vs' ∧ Reps Γ0 ρ L H ((tput kvs k d).map (·.2)) vs' := by
  have hl : vs.length = kvs.length := by rw [r.length, List.length_map]
  unfold putK tput
  rw [tz_any hl]
  by_cases g : (kvs.any fun kv => decide (kv.1 = k)) = true
  · rw [if_pos g, if_pos g]
    clear g hl
    revert r
    induction kvs generalizing vs with
    | nil => intro r; cases r; exact ⟨[], rfl, .nil⟩
    | cons p t ih =>
      intro r
      cases r with
      | cons b q =>
        obtain ⟨vs', e1, e2⟩ := ih q
        simp only [List.map_cons, List.zip_cons_cons]
        by_cases e : p.1 = k
        · rw [if_pos e, if_pos e]
          exact ⟨v :: vs', by rw [List.zip_cons_cons, ← e1], .cons a e2⟩
        · rw [if_neg e, if_neg e]
          exact ⟨_ :: vs', by rw [List.zip_cons_cons, ← e1], .cons b e2⟩
  · rw [if_neg g, if_neg g]
    refine ⟨vs ++ [v], ?_, ?_⟩
    · rw [List.map_append, List.zip_append (by rw [List.length_map, hl])]
      rfl
    · rw [List.map_append]
      exact r.append (.cons a .nil)
theorem tz_merge : ∀ {more : List (Key × D)} {ws : List V} {kvs : List (Key × D)} {vs : List V}, Reps Γ0 ρ L H (more.map (·.2)) ws → Reps Γ0 ρ L H (kvs.map (·.2)) vs →
    ∃ vs', mergeK ((kvs.map (·.1)).zip vs) ((more.map (·.1)).zip ws) = ((tmerge kvs more).map (·.1)).zip vs' ∧ Reps Γ0 ρ L H ((tmerge kvs more).map (·.2)) vs'
  | [], _, kvs, vs, .nil, r => ⟨vs, rfl, r⟩
  | p :: more, _, kvs, vs, .cons a q, r => by
    obtain ⟨vs1, e1, r1⟩ := tz_put (k := p.1) r a
    obtain ⟨vs2, e2, r2⟩ := tz_merge q r1
    refine ⟨vs2, ?_, r2⟩
    rw [← e1] at e2
    exact e2
/-- a dict's cell -/
theorem Nxt.newD (hr : HpR Γ ρ H h) {p : Addr} {kvs : List (Key × D)} {vs : List V} (hp : H p = none) (r : RepsS Γ ρ h H (kvs.map (·.2)) vs) :
    Nxt Γ ρ h H (ρ ++ [p]) (h ++ [.dct kvs]) (upd H p (.dK ((kvs.map (·.1)).zip vs))) ∧ RepS Γ (ρ ++ [p]) (h ++ [.dct kvs]) (upd H p (.dK ((kvs.map (·.1)).zip vs))) (.ref h.length) (.ref p) :=
  ⟨Nxt.newC hr hp ⟨vs, upd_same, r.keep (app_keep hr hp)⟩, .ref (by rw [← hr.len]; simp)⟩
theorem Nxt.setD {i : Nat} {o : O} {a : Addr} {kvs : List (Key × D)} {vs : List V} (hr : HpR Γ ρ H h) (e1 : ρ[i]? = some a) (e2 : h[i]? = some o) (n : o ≠ .dead) (r : RepsS Γ ρ h H (kvs.map (·.2)) vs) : Nxt Γ ρ h H ρ (h.set i (.dct kvs)) (upd H a (.dK ((kvs.map (·.1)).zip vs))) :=
  Nxt.setC hr e1 e2 n ⟨vs, upd_same, r.keep (set_keep hr e1 e2 n)⟩
theorem dctOf_ok {d : D} {v : V} {t : Nat × List (Key × D)} (hr : HpR Γ ρ H h) (r : RepS Γ ρ h H d v) (e : dctOf h d = some t) :
    ∃ a vs, v = .ref a ∧ ρ[t.1]? = some a ∧ h[t.1]? = some (.dct t.2) ∧ H a = some (.dK ((t.2.map (·.1)).zip vs)) ∧ RepsS Γ ρ h H (t.2.map (·.2)) vs := by
  unfold dctOf at e
  split at e
  · split at e
    · rename_i kvs e2
      cases e
      cases r with
      | ref e1 =>
        obtain ⟨vs, c1, c2⟩ := hr.cell _ _ _ e2 e1
        exact ⟨_, vs, rfl, e1, e2, c1, c2⟩
    · cases e
  · cases e
theorem keyOf_ok {d : D} {v : V} {k : Key} (r : Rep Γ0 ρ L H d v) (e : keyOf d = some k) : v = kV k := by
  cases r <;> simp only [keyOf, Option.some.injEq, reduceCtorEq] at e <;> subst e <;> rfl
end PY
end
section
set_option Elab.async false
set_option autoImplicit false
set_option linter.all false
set_option maxRecDepth 100000
/-! Readings of the small Python's trees; defs' promises; the frame at hand. -/
namespace PY
open PySem PySem.Spec PyProof.Rows L2
abbrev St := L2.St
variable {Γ : Gm} {ρ ρ' ρ'' : List Addr} {h h' h'' : Hh} {H H' H'' : Hp}

def okR {α : Type} (r : Res α) (Q : α → Hh → Prop) : Prop := match r with
  | .ok a h => Q a h
  | _ => False
theorem okR.of {α : Type} {r : Res α} {Q : α → Hh → Prop} (x : okR r Q) : ∃ a h, r = .ok a h ∧ Q a h := by
  cases r with
  | ok a h => exact ⟨a, h, rfl, x⟩
  | ex e h => exact x.elim
  | stuck => exact x.elim
theorem okR.bind {α β : Type} {r : Res α} {f : α → Hh → Res β} {Q : β → Hh → Prop} (x : okR (r.bind f) Q) : okR r fun a h => okR (f a h) Q := by
  cases r with
  | ok a h => exact x
  | ex e h => exact x
  | stuck => exact x
theorem okR.mono {α : Type} {r : Res α} {Q Q' : α → Hh → Prop} (x : okR r Q) (q : ∀ a h, Q a h → Q' a h) : okR r Q' := by
  cases r with
  | ok a h => exact q _ _ x
  | ex e h => exact x
  | stuck => exact x
theorem okR.opt {α : Type} {o : Option α} {h : Hh} {Q : α → Hh → Prop} (x : okR (opt o h) Q) : ∃ a, o = some a ∧ Q a h := by
  cases o with
  | none => exact x.elim
  | some a => exact ⟨a, rfl, x⟩
theorem okR.guard {α : Type} {b : Bool} {r : Res α} {Q : α → Hh → Prop} (x : okR (guard b r) Q) : b = true ∧ okR r Q := by
  cases b with
  | true => exact ⟨rfl, x⟩
  | false => exact x.elim

/-- what is wanted of a value that a step leaves -/
def Fin1 (Γ : Gm) (ρ : List Addr) (h : Hh) (H : Hp) (Q : VK) (d : D) (h' : Hh) : Prop := ∀ ρ' v H', Nxt Γ ρ h H ρ' h' H' → RepS Γ ρ' h' H' d v → Q v H'
structure StR (Γ : Gm) (ρ : List Addr) (h : Hh) (H : Hp) (env : En) (σ : St) : Prop where
  hr : HpR Γ ρ H h
  len : env.length = σ.length
  get : ∀ (i : Nat) (d : D), env[i]? = some (some d) → ∃ v, σ[i]? = some (some v) ∧ RepS Γ ρ h H d v
theorem StR.next {env : En} {σ : St} (s : StR Γ ρ h H env σ) (n : Nxt Γ ρ h H ρ' h' H') : StR Γ ρ' h' H' env σ :=
  ⟨n.hr, s.len, fun i d e => (s.get i d e).imp fun v q => ⟨q.1, n.rep q.2⟩⟩
theorem getV_of {env : En} {i : Nat} {d : D} (e : getV env i = some d) : env[i]? = some (some d) := by
  unfold getV at e
  split at e
  · cases e; assumption
  · cases e
def RdE (Γ : Gm) (f : En → Hh → Res D) : TE := fun σ H Q => ∃ ρ h env, StR Γ ρ h H env σ ∧ okR (f env h) (Fin1 Γ ρ h H Q)
def RdT (Γ : Gm) (f : En → Hh → Res D) : TT := fun σ H Q => ∃ ρ h env, StR Γ ρ h H env σ ∧ okR (f env h) fun d h' => ∃ b, d = .bool b ∧ ∀ ρ' H', Nxt Γ ρ h H ρ' h' H' → Q b H'
def RdA (Γ : Gm) (f : En → Hh → Res (List D)) : TA := fun σ H Q => ∃ ρ h env, StR Γ ρ h H env σ ∧ okR (f env h) fun ds h' => ∀ ρ' vs H', Nxt Γ ρ h H ρ' h' H' → RepsS Γ ρ' h' H' ds vs → Q vs H'
theorem PE.mono {X : Cx} {e : Expr} {t t' : TE} (p : PE X e t) (m : ∀ σ H Q, t' σ H Q → t σ H Q) : PE X e t' := ⟨fun pins s σ H Q I q => p.run pins s σ H Q I (m σ H Q q)⟩
theorem PT.mono {X : Cx} {e : Expr} {t t' : TT} (p : PT X e t) (m : ∀ σ H Q, t' σ H Q → t σ H Q) : PT X e t' := ⟨fun pins s σ H Q I q => p.run pins s σ H Q I (m σ H Q q)⟩
theorem PW.mono {X : Cx} {e : Expr} {t t' : TT} (p : PW X e t) (m : ∀ σ H Q, t' σ H Q → t σ H Q) : PW X e t' := ⟨fun w pins s σ H Q I q => p.run w pins s σ H Q I (m σ H Q q)⟩
theorem PA.mono {X : Cx} {e : List Expr} {t t' : TA} (p : PA X e t) (m : ∀ σ H Q, t' σ H Q → t σ H Q) : PA X e t' := ⟨fun pos pins s σ H Q I q => p.run pos pins s σ H Q I (m σ H Q q)⟩
theorem PS.mono {X : Cx} {e : Stmt} {t t' : TS} (p : PS X e t) (m : ∀ D σ H, t' D σ H → t D σ H) : PS X e t' := ⟨fun pins s σ H D I q => p.run pins s σ H D I (m D σ H q)⟩
theorem PSs.mono {X : Cx} {e : List Stmt} {t t' : TS} (p : PSs X e t) (m : ∀ D σ H, t' D σ H → t D σ H) : PSs X e t' := ⟨fun pins s σ H D I q => p.run pins s σ H D I (m D σ H q)⟩

/-- a two-place operation by values -/
def RdOp (Γ : Gm) (op : D → D → Hh → Res D) : R2 := fun x y H Q => ∃ ρ h d e, HpR Γ ρ H h ∧ RepS Γ ρ h H d x ∧ RepS Γ ρ h H e y ∧ okR (op d e h) (Fin1 Γ ρ h H Q)
def RdU (Γ : Gm) (op : D → Hh → Res D) : V → Hp → VK → Prop := fun x H Q => ∃ ρ h d, HpR Γ ρ H h ∧ RepS Γ ρ h H d x ∧ okR (op d h) (Fin1 Γ ρ h H Q)
/-- a call by values -/
def RdC (Γ : Gm) (op : List D → Hh → Res D) : List V → Hp → VK → Prop := fun xs H Q => ∃ ρ h ds, HpR Γ ρ H h ∧ RepsS Γ ρ h H ds xs ∧ okR (op ds h) (Fin1 Γ ρ h H Q)
theorem Fin1.pre {Q : VK} {d : D} (n : Nxt Γ ρ h H ρ' h' H') (q : Fin1 Γ ρ h H Q d h'') : Fin1 Γ ρ' h' H' Q d h'' := fun _ v _ m r => q _ v _ (n.trans m) r
theorem RdE.seq {f : En → Hh → Res D} {g : D → Hh → Res D} {σ : St} {H : Hp} {Q : VK} (x : RdE Γ (fun env h => (f env h).bind g) σ H Q) :
    RdE Γ f σ H fun v H1 => RdU Γ g v H1 Q := by
  obtain ⟨ρ, h, env, S, o⟩ := x
  exact ⟨ρ, h, env, S, o.bind.mono fun d h1 o1 ρ1 v H1 n r => ⟨ρ1, h1, d, n.hr, r, o1.mono fun _ _ q => q.pre n⟩⟩
theorem RdE.seq2 {f : En → Hh → Res D} {g : En → Hh → Res D} {op : D → D → Hh → Res D} {σ : St} {H : Hp} {Q : VK} (x : RdE Γ (fun env h => (f env h).bind fun x h1 => (g env h1).bind fun y h2 => op x y h2) σ H Q) :
    tOp (RdOp Γ op) (RdE Γ f) (RdE Γ g) σ H Q := by
  obtain ⟨ρ, h, env, S, o⟩ := x
  refine ⟨ρ, h, env, S, o.bind.mono fun d h1 o1 ρ1 v H1 n r => ⟨ρ1, h1, env, S.next n, o1.bind.mono fun e h2 o2 ρ2 w H2 n2 r2 => ?_⟩⟩
  exact ⟨ρ2, h2, d, e, n2.hr, n2.rep r, r2, o2.mono fun _ _ q => q.pre (n.trans n2)⟩
/-- arguments, then a call -/
theorem RdA.seq {f : En → Hh → Res (List D)} {g : List D → Hh → Res D} {σ : St} {H : Hp} {Q : VK} (x : RdE Γ (fun env h => (f env h).bind g) σ H Q) :
    RdA Γ f σ H fun vs H1 => RdC Γ g vs H1 Q := by
  obtain ⟨ρ, h, env, S, o⟩ := x
  exact ⟨ρ, h, env, S, o.bind.mono fun d h1 o1 ρ1 v H1 n r => ⟨ρ1, h1, d, n.hr, r, o1.mono fun _ _ q => q.pre n⟩⟩

/-! ### promises -/
def spT (Γ : Gm) (t : List D → Hh → Res D) : Sp := fun vs H Q _ => RdC Γ t vs H Q
structure FnG (P : Program) (w : World) (K : PySem.W.Frag) (mg : Str → Option Value) (base : Heap) (k : Nat) (f : Addr) (fd : FuncData) (ps : List Str) (sp : Sp) : Prop where
  run : ∀ (A : Around) (outer : List Env) (s : Shared) (H : Hp) (args : Args) (us : List Value) (vs : List V) (Q : VK), A.guards = some [] → Room k A → Env0 P w K mg base A outer s H →
    BindsTo s fd args (ps.zip us) → vs.length = ps.length → Vals vs us → sp vs H Q E0 → codeAny (model P w) A (.call (.ref f) args) (CR CX0 outer P w H s Q E0) s
theorem FnG.mono {P : Program} {w : World} {K : PySem.W.Frag} {mg : Str → Option Value} {base : Heap} {j k : Nat} {f : Addr} {fd : FuncData} {ps : List Str} {sp : Sp} (F : FnG P w K mg base j f fd ps sp) (l : j ≤ k) : FnG P w K mg base k f fd ps sp :=
  ⟨fun A outer s H args us vs Q g hr => F.run A outer s H args us vs Q g (hr.mono l)⟩
theorem run_fnA {X : Cx} {A' : Around} {k : Nat} {f : Addr} {fd : FuncData} {ps : List Str} {sp : Sp} {pins : List (Addr × Obj)} {σ : St} {H : Hp} {s : Shared} {Q : VK} {us ful : List Value} {kw : List (Str × Value)} {vs : List V}
    (F : FnG X.prog X.w X.K X.mg X.base k f fd ps sp) (hf : A'.frames = X.A.frames) (g : A'.guards = some []) (hr : Room k A') (hb : BindsTo s fd ⟨us, kw⟩ (ps.zip ful)) (hl : vs.length = ps.length)
    (I : Inv X pins σ H s) (r : Vals vs ful) (q : sp vs H Q E0) {E : Value → Shared → Prop} : wpAny (model X.prog X.w) A' (PySem.call (.ref f) us kw) (EP X pins σ Q) E s := by
  have e := I.env0
  have e0 : Env0 X.prog X.w X.K X.mg X.base A' X.stack s H := ⟨hf.trans e.frames, e.mod, e.bs, e.bsz, e.funs, e.frf, e.hok, e.bare⟩
  refine wpAny_call (codeAny_mono (F.run A' X.stack s H ⟨us, kw⟩ ful vs Q g hr e0 hb hl r q) fun res s' z => ?_)
  match res, z with
  | .ok (.ret u), z => exact I.after z
  | .ok .next, z => exact z.elim
  | .ok .brk, z => exact z.elim
  | .ok .cont, z => exact z.elim
  | .error e, z => exact z.elim
theorem run_fnG {X : Cx} {k : Nat} {f : Addr} {fd : FuncData} {ps : List Str} {sp : Sp} {pins : List (Addr × Obj)} {σ : St} {H : Hp} {s : Shared} {Q : VK} {us ful : List Value} {kw : List (Str × Value)} {vs : List V}
    (F : FnG X.prog X.w X.K X.mg X.base k f fd ps sp) (g : X.A.guards = some []) (hr : Room k X.A) (hb : BindsTo s fd ⟨us, kw⟩ (ps.zip ful)) (hl : vs.length = ps.length)
    (I : Inv X pins σ H s) (r : Vals vs ful) (q : sp vs H Q E0) : wpAny (model X.prog X.w) X.A (PySem.call (.ref f) us kw) (EP X pins σ Q) X.xe s := by
  refine wpAny_call (codeAny_mono (F.run X.A X.stack s H ⟨us, kw⟩ ful vs Q g hr I.env0 hb hl r q) fun res s' z => ?_)
  match res, z with
  | .ok (.ret u), z => exact I.after z
  | .ok .next, z => exact z.elim
  | .ok .brk, z => exact z.elim
  | .ok .cont, z => exact z.elim
  | .error e, z => exact z.elim
theorem fnG_of {P : Program} {w : World} {K : PySem.W.Frag} {mg : Str → Option Value} {base : Heap} {k : Nat} {f : Addr} {name qual : Str} {params : Arguments} {body : List Stmt} {scope : Scope} {dV kV doc pm cdv ct oc : Value} {an od : Option Addr}
    {osl : Array (Option Value)} {N ps : List Str} {sp : Sp} (lk : K.lookup f = some ⟨oc, od, .func (PySem.W.fnOf name qual params body scope dV kV doc pm an cdv ct), osl⟩) (hcd : PySem.W.codeIn K cdv qual = true) (S : FnScope N ps scope)
    (hbody : ∀ (A : Around) (outer : List Env) (s : Shared) (H : Hp) (vs : List V) (Q : VK), A.guards = some [] → Room k (A.deeper (envOfC qual scope s.heap.objs.size f cdv)) → vs.length = ps.length → sp vs H Q E0 →
      ∃ t, PSs (cxOf CX0 P w K mg base N qual scope f cdv A outer s H E0).nox body t ∧ t { nx := fun _ H' => Q .non H', rt := Q } (start N vs) H) :
    FnG P w K mg base (k + 1) f (PySem.W.fnOf name qual params body scope dV kV doc pm an cdv ct) ps sp := by
  refine ⟨fun A outer s H args us vs Q g hr e0 hb hl r q => ?_⟩
  let sp1 : Sp := fun vs' H' Q' E' => vs' = vs ∧ H' = H ∧ Q' = Q ∧ E' = E0
  have one : ∀ (A' : Around), A' = A → True := fun _ _ => trivial
  have KX : K.In s.heap := e0.mod.kin.keeps fun b o e => (e0.bs b o e).1
  have lim : s.heap.NoLimit := e0.mod.nolimit.keeps fun b o e => (e0.bs b o e).1
  have kinds : ∀ y ∈ ps.zip us, scope.names.lookup y.1 = some .local ∨ (scope.names.lookup y.1 = some .cell ∧ ((cellsFrom (s.heap.objs.size + 1) scope.names []).lookup y.1).isSome = true) := by
    rintro ⟨n, v⟩ hy
    exact (S.par n (List.of_mem_zip hy).1).imp id fun q => ⟨q, PySem.W.cellsFrom_some _ _ _ (.inl q)⟩
  refine codeAny_call_function hr.depth (KX _ _ lk) rfl S.co S.gen rfl (PySem.W.codeRec_of KX hcd) (hb _ _ _ _ (wpAny_newFunctionEnv_cells S.kind kinds fun env he s1 x => ?_))
  subst he
  refine ⟨lim.keeps x.toInCall.keep, codeAny_func ?_⟩
  obtain ⟨t, ht, tq⟩ := hbody A outer s H vs Q g (hr.deeper _) hl q
  have J : Inv (cxOf CX0 P w K mg base N qual scope f cdv A outer s H E0) [] (start N vs) H s1 := inv_start S hr.hd e0 hl r x
  refine wpAny_mono (ht.nox.run [] s1 (start N vs) H _ J tq) (fun fl s' z => ?_) fun e s' z => z
  have fin : ∀ {σ' : St} {H' : Hp} {v : V} {u : Value}, Inv (cxOf CX0 P w K mg base N qual scope f cdv A outer s H E0) [] σ' H' s' → RelV v u → Q v H' → CE outer P w H s Q u s' :=
    fun {σ' H' v u} J' rv q' => ⟨v, H', J'.os, J'.bare, J'.base, J'.hok, rv, q'⟩
  match fl, z with
  | .ret u, ⟨v, σ', H', J', rv, q'⟩ => exact fin J' rv q'
  | .next, ⟨σ', H', J', q'⟩ => exact fin (v := V.non) (u := Value.none) J' rfl q'
  | .brk, ⟨_, _, _, q'⟩ => exact q'.elim
  | .cont, ⟨_, _, _, q'⟩ => exact q'.elim

/-! ### what is known at a place of a def's body -/
structure Cxt (Γ : Gm) (fd : Nat → FuncData) (n : Nat) (N : List Str) (X : Cx) : Prop where
  eK : X.K = Γ.K
  eMg : X.mg = Γ.mg
  eN : X.N = N
  nd : N.Nodup
  calm : X.calm = true
  xe : X.xe = fun _ _ => False
  kind : X.env.scope.kind = .function
  g : X.A.guards = some []
  room : Room (3 * n + 2) X.A
  fns : ∀ (Z : Addr → Prop) (i : Nat) (F : Fn), Γ.P.funs[i]? = some F → FnG X.prog X.w Γ.K Γ.mg X.base (3 * n) (Γ.fa i) (fd i) F.ps (spT ⟨Γ.toG0, Z⟩ (run Γ.P n i))
theorem Cxt.hide {Γ : Gm} {fd : Nat → FuncData} {n : Nat} {N : List Str} {X : Cx} (c : Cxt Γ fd n N X) (p : Addr) : Cxt (Γ.hide p) fd n N X := ⟨c.eK, c.eMg, c.eN, c.nd, c.calm, c.xe, c.kind, c.g, c.room, c.fns⟩
theorem Cxt.blk {fd : Nat → FuncData} {n : Nat} {N : List Str} {X : Cx} (c : Cxt Γ fd n N X) {s : Shared} {H : Hp} {scope : Scope} {C : Addr} {cl : List (Str × Addr)} {fp : List Addr} (hk : scope.kind = .function) : Cxt Γ fd n N (X.blk s H scope (compEnvC scope cl C X.env) fp) :=
  ⟨c.eK, c.eMg, c.eN, c.nd, c.calm, rfl, hk, c.g, c.room, c.fns⟩
end PY
end
section
set_option Elab.async false
set_option autoImplicit false
set_option linter.all false
set_option maxRecDepth 100000
/-! Operators by values. -/
namespace PY
open PySem PySem.Spec PyProof.Rows L2
variable {Γ : Gm} {ρ ρ' ρ'' : List Addr} {h h' h'' : Hh} {H H' H'' : Hp} {L : Addr → Prop}

/-! ### what a value's standing tells -/
theorem KTup.sq {K : PySem.W.Frag} {a : Addr} {vs : List V} (k : KTup K a vs) : SqT K H a vs := .inr k
theorem KLst.sq {K : PySem.W.Frag} {a : Addr} {vs : List V} (k : KLst K a vs) : SqL K H a vs := .inr k
theorem Rep.tupV {ds : List D} {v : V} (r : Rep Γ ρ L H (.tup ds) v) : ∃ a vs, v = .ref a ∧ SqT Γ.K H a vs ∧ Reps Γ ρ L H ds vs := by
  cases r with
  | tup t r => exact ⟨_, _, rfl, t.elim (fun z => .inl z.1) KTup.sq, r⟩
theorem lstOf_ok {d : D} {v : V} {xs : List D} (hr : HpR Γ ρ H h) (r : RepS Γ ρ h H d v) (e : lstOf h d = some xs) : ∃ a vs, v = .ref a ∧ H a = some (.lst vs) ∧ RepsS Γ ρ h H xs vs := by
  cases r with
  | list t n r => simp only [lstOf] at e; cases e; exact ⟨_, _, rfl, t, r⟩
  | @ref i a q =>
    simp only [lstOf] at e
    cases q2 : h[i]? with
    | none => rw [q2] at e; cases e
    | some o =>
      rw [q2] at e
      cases o with
      | lst ys =>
        cases e
        obtain ⟨vs, c1, c2⟩ := hr.lst q q2
        exact ⟨_, _, rfl, c1, c2⟩
      | _ => cases e
  | _ => simp [lstOf] at e
theorem seqOf_ok {d : D} {v : V} {xs : List D} (hr : HpR Γ ρ H h) (r : RepS Γ ρ h H d v) (e : seqOf h d = some xs) : ∃ a vs, v = .ref a ∧ (SqL Γ.K H a vs ∨ SqT Γ.K H a vs) ∧ RepsS Γ ρ h H xs vs := by
  cases r with
  | tup t r => simp only [seqOf] at e; cases e; exact ⟨_, _, rfl, .inr (t.elim (fun z => .inl z.1) KTup.sq), r⟩
  | list t n r => simp only [seqOf] at e; cases e; exact ⟨_, _, rfl, .inl (SqL.of t), r⟩
  | scr t r => simp only [seqOf] at e; cases e; exact ⟨_, _, rfl, .inl (t.elim (fun z => .inl z.1) KLst.sq), r⟩
  | @ref i a q =>
    simp only [seqOf] at e
    cases q2 : h[i]? with
    | none => rw [q2] at e; cases e
    | some o =>
      rw [q2] at e
      cases o with
      | lst ys =>
        cases e
        obtain ⟨vs, c1, c2⟩ := hr.lst q q2
        exact ⟨_, _, rfl, .inl (SqL.of c1), c2⟩
      | _ => cases e
  | _ => simp [seqOf] at e
theorem rlOf_ok {d : D} {v : V} {xs : List D} (hr : HpR Γ ρ H h) (r : RepS Γ ρ h H d v) (e : rlOf h d = some xs) : ∃ a vs, v = .ref a ∧ SqL Γ.K H a vs ∧ RepsS Γ ρ h H xs vs := by
  cases r with
  | list t n r => simp only [rlOf] at e; cases e; exact ⟨_, _, rfl, SqL.of t, r⟩
  | scr t r => simp only [rlOf] at e; cases e; exact ⟨_, _, rfl, t.elim (fun z => .inl z.1) KLst.sq, r⟩
  | @ref i a q =>
    simp only [rlOf] at e
    cases q2 : h[i]? with
    | none => rw [q2] at e; cases e
    | some o =>
      rw [q2] at e
      cases o with
      | lst ys =>
        cases e
        obtain ⟨vs, c1, c2⟩ := hr.lst q q2
        exact ⟨_, _, rfl, SqL.of c1, c2⟩
      | _ => cases e
  | _ => simp [rlOf] at e
theorem rep_non {d : D} {v : V} (r : Rep Γ ρ L H d v) : decide (v = .non) = (match d with | .none => true | _ => false) := by
  cases r <;> simp
theorem flat_ok {d : D} {v : V} (r : Rep Γ ρ L H d v) : d.flat = true → flatV v = true := by
  cases r <;> simp [D.flat, flatV]
theorem eqF_ok {d e : D} {v w : V} (r : Rep Γ ρ L H d v) (q : Rep Γ ρ L H e w) (f : d.flat = true) (g : e.flat = true) : eqV v w = D.eqF d e := by
  cases r <;> cases q <;> first | rfl | (simp [D.flat] at f; done) | (simp [D.flat] at g; done)
theorem flats_ok : ∀ {ds : List D} {vs : List V}, Reps Γ ρ L H ds vs → ds.all D.flat = true → vs.all flatV = true
  | _, _, .nil, _ => rfl
  | _, _, .cons a r, e => by
    simp only [List.all_cons, Bool.and_eq_true] at e ⊢
    exact ⟨flat_ok a e.1, flats_ok r e.2⟩
theorem in_ok {d : D} {v : V} (q : Rep Γ ρ L H d v) (g : d.flat = true) : ∀ {ds : List D} {vs : List V}, Reps Γ ρ L H ds vs → ds.all D.flat = true → inV v vs = ds.any fun y => D.eqF y d
  | _, _, .nil, _ => rfl
  | _, _, .cons a r, e => by
    simp only [List.all_cons, Bool.and_eq_true] at e
    have ih := in_ok q g r e.2
    unfold inV at ih ⊢
    simp only [List.any_cons, ih, eqF_ok a q e.1 g]
mutual
theorem dp_ok : ∀ {d : D} {v : V} {p : PyData}, Rep Γ ρ L H d v → d.data = some p → Dp Γ.K H v p
  | _, _, _, .none, e => by simp only [D.data] at e; cases e; exact .non
  | _, _, _, .bool b, e => by simp only [D.data] at e; cases e; exact .bl b
  | _, _, _, .int i, e => by simp only [D.data] at e; cases e; exact .int i
  | _, _, _, .str s, e => by simp only [D.data] at e; cases e; exact .str s
  | _, _, _, .tup t r, e => by
    simp only [D.data] at e
    obtain ⟨ps, q, rfl⟩ := Option.map_eq_some_iff.mp e
    exact .tup (t.elim (fun z => .inl z.1) KTup.sq) (dps_ok r q)
  | _, _, _, .list t n r, e => by
    simp only [D.data] at e
    obtain ⟨ps, q, rfl⟩ := Option.map_eq_some_iff.mp e
    exact .lst (SqL.of t) (dps_ok r q)
  | _, _, _, .scr t r, e => by
    simp only [D.data] at e
    obtain ⟨ps, q, rfl⟩ := Option.map_eq_some_iff.mp e
    exact .lst (t.elim (fun z => .inl z.1) KLst.sq) (dps_ok r q)
  | _, _, _, .inst c t n l r, e => by simp [D.data] at e
  | _, _, _, .ref q, e => by simp [D.data] at e
  | _, _, _, .cls c, e => by simp [D.data] at e
theorem dps_ok : ∀ {ds : List D} {vs : List V} {ps : List PyData}, Reps Γ ρ L H ds vs → D.datas ds = some ps → DpAll Γ.K H vs ps
  | _, _, _, .nil, e => by simp only [D.datas] at e; cases e; exact .nil
  | _, _, _, .cons (d := d) (ds := ds) a r, e => by
    simp only [D.datas] at e
    cases q : d.data with
    | none => rw [q] at e; simp at e
    | some x =>
      cases q2 : D.datas ds with
      | none => rw [q, q2] at e; simp at e
      | some xs => rw [q, q2] at e; cases e; exact .cons (dp_ok a q) (dps_ok r q2)
end
theorem dataOf_ok {d : D} {v : V} {p : PyData} (hr : HpR Γ ρ H h) (r : RepS Γ ρ h H d v) (e : dataOf h d = some p) : Dp Γ.K H v p := by
  cases r with
  | @ref i a q =>
    simp only [dataOf] at e
    cases q2 : h[i]? with
    | none => rw [q2] at e; cases e
    | some o =>
      rw [q2] at e
      cases o with
      | lst ys =>
        obtain ⟨ps, q3, rfl⟩ := Option.map_eq_some_iff.mp e
        obtain ⟨vs, c1, c2⟩ := hr.lst q q2
        exact .lst (SqL.of c1) (dps_ok c2 q3)
      | _ => cases e
  | none => exact dp_ok (Γ := Γ) (ρ := ρ) (L := Lv Γ ρ h) .none e
  | bool b => exact dp_ok (Γ := Γ) (ρ := ρ) (L := Lv Γ ρ h) (.bool b) e
  | int b => exact dp_ok (Γ := Γ) (ρ := ρ) (L := Lv Γ ρ h) (.int b) e
  | str b => exact dp_ok (Γ := Γ) (ρ := ρ) (L := Lv Γ ρ h) (.str b) e
  | tup t r => exact dp_ok (Γ := Γ) (ρ := ρ) (L := Lv Γ ρ h) (.tup t r) e
  | list t n r => exact dp_ok (Γ := Γ) (ρ := ρ) (L := Lv Γ ρ h) (.list t n r) e
  | scr t r => exact dp_ok (Γ := Γ) (ρ := ρ) (L := Lv Γ ρ h) (.scr t r) e
  | inst c t n l r => simp [dataOf, D.data] at e
  | cls c => simp [dataOf, D.data] at e
theorem rep_data {d : D} {v : V} (hr : HpR Γ ρ H h) (r : RepS Γ ρ h H d v) {Q : VK} (q : Fin1 Γ ρ h H Q d h) : Q v H := q ρ v H (Nxt.refl hr) r
theorem fin_bool {b : Bool} {Q : VK} (hr : HpR Γ ρ H h) (q : Fin1 Γ ρ h H Q (.bool b) h) : Q (.bl b) H := rep_data hr (.bool b) q
theorem fin_int {b : Int} {Q : VK} (hr : HpR Γ ρ H h) (q : Fin1 Γ ρ h H Q (.int b) h) : Q (.int b) H := rep_data hr (.int b) q
theorem fin_str {b : Str} {Q : VK} (hr : HpR Γ ρ H h) (q : Fin1 Γ ρ h H Q (.str b) h) : Q (.str b) H := rep_data hr (.str b) q
theorem mkL_ok {m : Bool} {xs : List D} {vs : List V} {Q : VK} (hr : HpR Γ ρ H h) (r : RepsS Γ ρ h H xs vs) (o : okR (mkL m xs h) (Fin1 Γ ρ h H Q)) : vs.length ≤ sizeLine ∧ ∀ p, H p = none → Q (.ref p) (upd H p (.lst vs)) := by
  unfold mkL at o
  obtain ⟨l, o⟩ := o.guard
  have l := of_decide_eq_true l
  refine ⟨by rw [r.length]; exact l, fun p hp => ?_⟩
  cases m with
  | true => exact o _ _ _ (Nxt.newL hr hp r).1 (Nxt.newL hr hp r).2
  | false => exact o _ _ _ (Nxt.valL hr hp r).1 (Nxt.valL hr hp r).2
theorem tup_ok {xs : List D} {vs : List V} {Q : VK} (hr : HpR Γ ρ H h) (r : RepsS Γ ρ h H xs vs) (o : Fin1 Γ ρ h H Q (.tup xs) h) {p : Addr} (hp : H p = none) : Q (.ref p) (upd H p (.tup vs)) :=
  o _ _ _ (Nxt.valT hr hp r).1 (Nxt.valT hr hp r).2
theorem lst_ok {xs : List D} {vs : List V} {Q : VK} (hr : HpR Γ ρ H h) (r : RepsS Γ ρ h H xs vs) (o : Fin1 Γ ρ h H Q (.list xs) h) {p : Addr} (hp : H p = none) : Q (.ref p) (upd H p (.lst vs)) :=
  o _ _ _ (Nxt.valL hr hp r).1 (Nxt.valL hr hp r).2

section
variable {X : Cx} (eK : X.K = Γ.K)
theorem bin_ok {m : Bool} {op : Operator} (eK : X.K = Γ.K) : OpR X (binaryOp op) (RdOp Γ (binD m op)) := by
  intro pins s σ H x y v u Q I rx ry ⟨ρ, h, d, e, hr, r1, r2, o⟩
  unfold binD at o
  split at o
  · cases r1; cases r2; exact op_add pins s σ H _ _ v u Q I rx ry ⟨_, _, rfl, rfl, fin_int hr o⟩
  · cases r1; cases r2; exact op_sub pins s σ H _ _ v u Q I rx ry ⟨_, _, rfl, rfl, fin_int hr o⟩
  · cases r1; cases r2
    obtain ⟨g, o⟩ := o.guard
    simp only [fitsMul, Bool.or_eq_true, Bool.and_eq_true, decide_eq_true_eq] at g
    exact op_mul pins s σ H _ _ v u Q I rx ry ⟨_, _, rfl, rfl, g, fin_int hr o⟩
  · cases r1; cases r2
    obtain ⟨g, o⟩ := o.guard
    simp only [Bool.and_eq_true, decide_eq_true_eq] at g
    exact op_fdiv pins s σ H _ _ v u Q I rx ry ⟨_, _, rfl, rfl, g, fin_int hr o⟩
  · cases r1; cases r2
    obtain ⟨g, o⟩ := o.guard
    simp only [decide_eq_true_eq] at g
    exact op_mod pins s σ H _ _ v u Q I rx ry ⟨_, _, rfl, rfl, g, fin_int hr o⟩
  · cases r1; cases r2
    obtain ⟨g, o⟩ := o.guard
    simp only [Bool.and_eq_true, decide_eq_true_eq] at g
    exact op_pow pins s σ H _ _ v u Q I rx ry ⟨_, _, rfl, rfl, ⟨g.1.1, g.1.2, g.2⟩, fin_int hr o⟩
  · cases r1; cases r2
    obtain ⟨g, o⟩ := o.guard
    simp only [decide_eq_true_eq] at g
    exact op_add_str pins s σ H _ _ v u Q I rx ry ⟨_, _, rfl, rfl, g, fin_str hr o⟩
  · obtain ⟨a, vs, rfl, t1, q1⟩ := r1.tupV
    obtain ⟨b, ws, rfl, t2, q2⟩ := r2.tupV
    obtain ⟨g, o⟩ := o.guard
    simp only [decide_eq_true_eq] at g
    rw [← eK] at t1 t2
    refine op_catA pins s σ H _ _ v u Q I rx ry ⟨a, b, vs, ws, rfl, rfl, t1, t2, by rw [q1.length, q2.length]; exact g, fun z => ?_, fun z z2 => ?_, fun z z2 p hp => tup_ok hr (q1.append q2) o hp⟩
    · subst z; cases q1; simp only [List.nil_append] at o; exact rep_data hr r2 o
    · subst z2; cases q2; simp only [List.append_nil] at o; exact rep_data hr r1 o
  · split at o
    · rename_i xs ys e1 e2
      obtain ⟨a, vs, rfl, t1, q1⟩ := lstOf_ok hr r1 e1
      obtain ⟨b, ws, rfl, t2, q2⟩ := lstOf_ok hr r2 e2
      obtain ⟨l, k⟩ := mkL_ok hr (q1.append q2) o
      exact op_cat pins s σ H _ _ v u Q I rx ry ⟨a, b, vs, ws, rfl, rfl, t1, t2, by simpa using l, k⟩
    · exact o.elim
  · split at o
    · rename_i k xs e1
      obtain ⟨a, vs, rfl, t1, q1⟩ := lstOf_ok hr r1 e1
      cases r2
      obtain ⟨g, o⟩ := o.guard
      simp only [Bool.and_eq_true, decide_eq_true_eq] at g
      obtain ⟨l, k⟩ := mkL_ok hr (q1.rep _) o
      refine op_rep pins s σ H _ _ v u Q I rx ry ⟨a, _, vs, rfl, rfl, t1, g.1, g.2, ?_, k⟩
      have : ∀ (n : Nat), ((List.replicate n vs).flatten).length = vs.length * n := fun n => by
        induction n with
        | zero => simp
        | succ n ih => rw [List.replicate_succ, List.flatten_cons, List.length_append, ih, Nat.mul_succ]; omega
      rw [this] at l
      exact l
    · exact o.elim
  · exact o.elim
theorem un_ok {op : UnaryOp} (hn : op = .USub) : UnR X (unaryOp op) (RdU Γ (unD op)) := by
  subst hn
  intro pins s σ H x v Q I rx ⟨ρ, h, d, hr, r1, o⟩
  unfold unD at o
  split at o
  · cases r1; exact un_neg pins s σ H _ v Q I rx ⟨_, rfl, fin_int hr o⟩
  · rename_i z; cases z
  · exact o.elim
theorem dec_vstr {i j : Str} : decide (V.str i = V.str j) = decide (i = j) := by
  by_cases e : i = j
  · simp [e]
  · simp [e]
theorem cmp_ok {op : CmpOp} (eK : X.K = Γ.K) (hu : X.A.units + 64 < cLine) : OpR X (compareOp op) (RdOp Γ (cmpD op)) := by
  intro pins s σ H x y v u Q I rx ry ⟨ρ, h, d, e, hr, r1, r2, o⟩
  have inn : ∀ {b : Bool} {d e : D} {x y : V}, RepS Γ ρ h H d x → RepS Γ ρ h H e y → inD d e h = some b →
      (∃ i j, x = .str i ∧ y = .str j ∧ b = !(Builtin.Str.occurrences j i 0 j.length 1).isEmpty) ∨ (∃ p xs, y = .ref p ∧ (SqL X.K H p xs ∨ SqT X.K H p xs) ∧ flatV x = true ∧ xs.all flatV = true ∧ b = inV x xs) ∨ (∃ p o, y = .ref p ∧ DGet H p x o ∧ b = o.isSome) := by
    intro b d e x y r1 r2 z
    unfold inD at z
    split at z
    · cases r1; cases r2; cases z; exact .inl ⟨_, _, rfl, rfl, rfl⟩
    · split at z
      · rename_i ys e1
        split at z
        · rename_i g
          simp only [Bool.and_eq_true] at g
          obtain ⟨a, vs, rfl, t, q⟩ := seqOf_ok hr r2 e1
          cases z
          exact .inr (.inl ⟨a, vs, rfl, by rw [eK]; exact t, flat_ok r1 g.1, flats_ok q g.2, (in_ok r1 g.1 q g.2).symm⟩)
        · cases z
      · split at z
        · rename_i t k e3 e4
          cases z
          obtain ⟨a, vs, rfl, _, _, c1, c2⟩ := dctOf_ok hr r2 e3
          rw [keyOf_ok r1 e4]
          exact .inr (.inr ⟨a, _, rfl, DGet.k c1, (tz_find c2).1⟩)
        · cases z
  have eqq : ∀ {b : Bool}, eqD d e h = some b → ∃ p q, Dp X.K H x p ∧ Dp X.K H y q ∧ SeqAt.shaped p = true ∧ SeqAt.shaped q = true ∧ b = PyData.eqv p q := by
    intro b z
    unfold eqD at z
    split at z
    · rename_i p q e1 e2
      split at z
      · rename_i g
        simp only [Bool.and_eq_true] at g
        cases z
        exact ⟨p, q, by rw [eK]; exact dataOf_ok hr r1 e1, by rw [eK]; exact dataOf_ok hr r2 e2, g.1, g.2, rfl⟩
      · cases z
    · cases z
  unfold cmpD at o
  split at o
  · cases r1; cases r2; exact op_lt pins s σ H _ _ v u Q I rx ry ⟨_, _, rfl, rfl, fin_bool hr o⟩
  · cases r1; cases r2; exact op_le pins s σ H _ _ v u Q I rx ry ⟨_, _, rfl, rfl, fin_bool hr o⟩
  · cases r1; cases r2; exact op_gt pins s σ H _ _ v u Q I rx ry ⟨_, _, rfl, rfl, fin_bool hr o⟩
  · cases r1; cases r2; exact op_ge pins s σ H _ _ v u Q I rx ry ⟨_, _, rfl, rfl, fin_bool hr o⟩
  · cases r1; cases r2; exact op_lt_str pins s σ H _ _ v u Q I rx ry ⟨_, _, rfl, rfl, fin_bool hr o⟩
  · cases r2
    refine op_isN pins s σ H _ _ v u Q I rx ry ⟨rfl, ?_⟩
    rw [rep_non r1]
    revert o
    cases d <;> exact fun o => fin_bool hr o
  · cases r2
    refine op_notN pins s σ H _ _ v u Q I rx ry ⟨rfl, ?_⟩
    rw [rep_non r1]
    have z := fin_bool hr (show Fin1 Γ ρ h H Q _ h from o)
    revert z
    cases d <;> exact fun z => z
  · obtain ⟨w, q, o⟩ := o.opt
    obtain ⟨b, q', rfl⟩ := Option.map_eq_some_iff.mp q
    rcases inn r1 r2 q' with ⟨i, j, rfl, rfl, rfl⟩ | ⟨p, xs, rfl, t, f1, f2, rfl⟩ | ⟨p, w, rfl, g, rfl⟩
    · exact op_in_str pins s σ H _ _ v u Q I rx ry ⟨_, _, rfl, rfl, fin_bool hr o⟩
    · exact op_in_seq pins s σ H _ _ v u Q I rx ry ⟨p, xs, rfl, t, f1, f2, fin_bool hr o⟩
    · obtain rfl : u = Value.ref p := ry
      exact d_in (by omega) I g rx fun s' I' => ⟨.bl _, H, I', rfl, fin_bool hr o⟩
  · obtain ⟨w, q, o⟩ := o.opt
    obtain ⟨b, q', rfl⟩ := Option.map_eq_some_iff.mp q
    rcases inn r1 r2 q' with ⟨i, j, rfl, rfl, rfl⟩ | ⟨p, xs, rfl, t, f1, f2, rfl⟩ | ⟨p, w, rfl, g, rfl⟩
    · exact op_notin_str pins s σ H _ _ v u Q I rx ry ⟨_, _, rfl, rfl, fin_bool hr o⟩
    · exact op_notIn_seq pins s σ H _ _ v u Q I rx ry ⟨p, xs, rfl, t, f1, f2, fin_bool hr o⟩
    · obtain rfl : u = Value.ref p := ry
      exact d_notIn (by omega) I g rx fun s' I' => ⟨.bl _, H, I', rfl, fin_bool hr o⟩
  · cases r1; cases r2; exact op_eq pins s σ H _ _ v u Q I rx ry ⟨rfl, by rw [dec_vstr]; exact fin_bool hr o⟩
  · cases r1; cases r2; exact op_ne pins s σ H _ _ v u Q I rx ry ⟨rfl, by rw [dec_vstr]; exact fin_bool hr o⟩
  · obtain ⟨w, q, o⟩ := o.opt
    obtain ⟨b, q', rfl⟩ := Option.map_eq_some_iff.mp q
    obtain ⟨p, p', a1, a2, a3, a4, rfl⟩ := eqq q'
    exact op_eqD hu pins s σ H _ _ v u Q I rx ry ⟨p, p', a1, a2, a3, a4, fin_bool hr o⟩
  · obtain ⟨w, q, o⟩ := o.opt
    obtain ⟨b, q', rfl⟩ := Option.map_eq_some_iff.mp q
    obtain ⟨p, p', a1, a2, a3, a4, rfl⟩ := eqq q'
    exact op_neD hu pins s σ H _ _ v u Q I rx ry ⟨p, p', a1, a2, a3, a4, fin_bool hr o⟩
  · exact o.elim
theorem atI_rep {xs : List D} {vs : List V} {i : Int} {d : D} (r : Reps Γ ρ L H xs vs) (e : atI xs i = some d) : ∃ v, atI vs i = some v ∧ Rep Γ ρ L H d v := by
  unfold atI at e ⊢
  rw [r.length]
  cases q : ixN xs.length i with
  | none => rw [q] at e; cases e
  | some j => rw [q] at e; exact r.get (show xs[j]? = some d from e)
theorem ix_dict {ev es : Expr} {pins : List (Addr × Obj)} {σ : St} {H : Hp} {s : Shared} {a : Addr} {y z : V} {u : Value} {Q : VK} (hu : X.A.units + 1 < cLine)
    (hs : subscripted es false (.ref a) u = operate [.ref a, u] (getItem (.ref a) u)) (I : Inv X pins σ H s) (g : DGet H a y (some z)) (ry : RelV y u) (q : Q z H) : wpAny (model X.prog X.w) X.A (subscriptTail ev es (.ref a) u) (EP X pins σ Q) X.xe s := by
  have hT := dict_typeIs I g
  unfold subscriptTail
  refine wpAny_bind ?_
  rw [getitemInPython_of_ne hT.not_modules]
  refine wpAny_bind (wpAny_specialOf hT PySem.F.slot_dict_getitem.lookup ?_)
  have fin : wpAny (model X.prog X.w) X.A (subscripted es false (.ref a) u) (fun r s₃ => wpAny (model X.prog X.w) X.A (letTemporaryGo ev (.ref a) r >>= fun _ => pure r) (EP X pins σ Q) X.xe s₃) X.xe s := by
    rw [hs]
    exact wpAny_operating (d_getItem hu I g ry fun w' s3 I3 rw' => wpAny_bind (wpAny_letTemporaryGo (wpAny_pure ⟨z, H, I3, rw', q⟩)))
  first
    | exact wpAny_pure (wpAny_bind fin)
    | exact wpAny_bind (wpAny_pure (wpAny_bind fin))
    | exact wpAny_bind fin
theorem idx_ok (eK : X.K = Γ.K) (hu : X.A.units + 64 < cLine) : IxR X (RdOp Γ idxD) := by
  intro ev es pins s σ H x y v u Q I rx ry ⟨ρ, h, d, e, hr, r1, r2, o⟩ hs
  unfold idxD at o
  split at o
  · cases r1; cases r2
    obtain ⟨g, o⟩ := o.guard
    obtain ⟨w, q, o⟩ := o.opt
    obtain ⟨c, q', rfl⟩ := Option.map_eq_some_iff.mp q
    exact ix_str ev es pins s σ H _ _ v u Q I rx ry ⟨_, _, _, rfl, rfl, of_decide_eq_true g, q', fin_str hr o⟩ hs
  · split at o
    · rename_i t e1
      split at o
      · rename_i k e2
        obtain ⟨w, q, o⟩ := o.opt
        obtain ⟨a, vs, rfl, _, _, c1, c2⟩ := dctOf_ok hr r1 e1
        obtain ⟨z, q2, r3⟩ := (tz_find c2).2 w q
        obtain rfl := keyOf_ok r2 e2
        obtain rfl : v = Value.ref a := rx
        have g : DGet H a (kV k) (some z) := by
          have := DGet.k (k := k) c1
          rw [q2] at this
          exact this
        exact ix_dict (by omega) hs I g ry (rep_data hr r3 o)
      · exact o.elim
    · cases e1 : seqOf h d with
      | none => rw [e1] at o; cases e <;> exact o.elim
      | some xs =>
        rw [e1] at o
        obtain ⟨i, rfl⟩ : ∃ i, e = .int i := by cases e <;> first | exact ⟨_, rfl⟩ | exact o.elim
        cases r2
        obtain ⟨w, q, o⟩ := o.opt
        obtain ⟨a, vs, rfl, t, r⟩ := seqOf_ok hr r1 e1
        obtain ⟨z, q2, r3⟩ := atI_rep r q
        rw [← eK] at t
        rcases t with t | t
        · exact ix_list ev es pins s σ H _ _ v u Q I rx ry ⟨_, _, _, _, rfl, rfl, t, q2, rep_data hr r3 o⟩ hs
        · exact ix_tup ev es pins s σ H _ _ v u Q I rx ry ⟨_, _, _, _, rfl, rfl, t, q2, rep_data hr r3 o⟩ hs
def RdSl (Γ : Gm) : V → Option Int → Option Int → Hp → VK → Prop := fun x lo hi H Q => ∃ ρ h d, HpR Γ ρ H h ∧ RepS Γ ρ h H d x ∧ okR (slcD d lo hi h) (Fin1 Γ ρ h H Q)
theorem cut_rep {xs : List D} {vs : List V} (r : Reps Γ ρ L H xs vs) (lo hi : Option Int) : Reps Γ ρ L H (cutD xs lo hi) (cutV vs lo hi) := by
  unfold cutD cutV
  rw [r.length]
  exact (r.drop _).take _
theorem slc_ok (eK : X.K = Γ.K) : SlR X (RdSl Γ) := by
  intro pins s σ H x v vl vu lo hi sl Q I rx hs pl pu ⟨ρ, h, d, hr, r1, o⟩
  unfold slcD at o
  split at o
  · cases r1
    obtain ⟨g, o⟩ := o.guard
    exact sl_str pins s σ H _ v vl vu lo hi sl Q I rx hs pl pu ⟨_, rfl, of_decide_eq_true g, fin_str hr o⟩
  · obtain ⟨a, vs, rfl, t, q⟩ := r1.tupV
    rw [← eK] at t
    refine sl_tupA pins s σ H _ v vl vu lo hi sl Q I rx hs pl pu ⟨a, vs, rfl, t, fun z => ?_, fun z p hp => tup_ok hr (cut_rep q lo hi) o hp⟩
    have e : ∀ {xs : List D}, Reps Γ ρ (Lv Γ ρ h) H xs vs → cutD xs lo hi = xs := fun {xs} q => by
      unfold cutD
      rw [q.length] at z
      rw [z.1, z.2]
      simp
    rw [e q] at o
    exact rep_data hr r1 o
  · split at o
    · rename_i xs e1
      obtain ⟨a, vs, rfl, t, r⟩ := rlOf_ok hr r1 e1
      rw [← eK] at t
      exact sl_list pins s σ H _ v vl vu lo hi sl Q I rx hs pl pu ⟨a, vs, rfl, t, fun p hp => lst_ok hr (cut_rep r lo hi) o hp⟩
    · exact o.elim
end
end PY
end
section
set_option Elab.async false
set_option autoImplicit false
set_option linter.all false
set_option maxRecDepth 100000
/-! max of pairs of numbers, sound. -/
namespace PY
open PySem PySem.Spec PyProof.Rows L2
theorem pairs_eq : ∀ {xs : List D} {ps : List (Int × Int)}, pairs? xs = some ps → xs = ps.map pairI
  | [], _, e => by cases e; rfl
  | x :: xs, ps, e => by
    unfold pairs? at e
    split at e
    · rename_i h; cases h
    · rename_i a b r h
      cases h
      obtain ⟨qs, q, rfl⟩ := Option.map_eq_some_iff.mp e
      rw [List.map_cons, ← pairs_eq q]
      rfl
    · cases e
theorem maxP_eq (p : Int × Int) (ps : List (Int × Int)) : maxP p ps = PySem.W.maxOf p ps := rfl
theorem pairs_datas : ∀ {ps : List (Int × Int)}, D.datas (ps.map pairI) = some (ps.map PySem.W.Datum.toD)
  | [] => rfl
  | p :: ps => by
    rw [List.map_cons, D.datas, pairs_datas]
    rfl
variable {Γ : Gm} {ρ ρ' ρ'' : List Addr} {h h' h'' : Hh} {H H' H'' : Hp}
section
variable {fd : Nat → FuncData} {n : Nat} {N : List Str} {X : Cx}
theorem max_pairs {d : D} {v : V} {u : Value} {Q : VK} {pins : List (Addr × Obj)} {σ : St} {H : Hp} {s : Shared} {p : Int × Int} {ps : List (Int × Int)} (eK : X.K = Γ.K) (hc : X.calm = true) (hu : X.A.units + 64 < cLine) (I : Inv X pins σ H s) (rv : RelV v u)
    (hr : HpR Γ ρ H h) (r : RepS Γ ρ h H d v) (e : lstOf h d = some ((p :: ps).map pairI)) (o : Fin1 Γ ρ h H Q (pairI (maxP p ps)) h) : wpAny (model X.prog X.w) X.A (PySem.call (.builtin "max") [u]) (EP X pins σ Q) X.xe s := by
  obtain ⟨a, vs, rfl, t, rr⟩ := lstOf_ok hr r e
  obtain rfl : u = Value.ref a := rv
  have t' : SqL X.K H a vs := SqL.of t
  obtain ⟨its, rv, hl, hz⟩ := I.list t'
  have dp := dps_ok rr (pairs_datas (ps := p :: ps))
  rw [← eK] at dp
  obtain ⟨as, ra⟩ := Dp.readsAll I _ vs its dp rv
  refine PySem.W.max_list_datum (α := Int × Int) (x := p) (xs := ps) (I.ok.hd hc) hl.isList ⟨as, by simpa using ra⟩ ?_ fun i w h' tk hi hw hk => ?_
  · have : PySem.W.Datum.depth (Int × Int) ≤ 4 := by decide
    omega
  · have hi' : its[i]? = some w := by rw [← hi, List.getElem?_toArray]
    have il : i < its.length := (List.getElem?_eq_some_iff.mp hi').1
    have pl : i < (p :: ps).length := by
      have := rr.length
      rw [List.length_map] at this
      rw [← this, rv.length]
      exact il
    have eq : ((p :: ps).map pairI)[i]? = some (pairI (p :: ps)[i]) := by rw [List.getElem?_map, List.getElem?_eq_getElem pl]; rfl
    obtain ⟨vi, ev, rep⟩ := rr.get eq
    obtain ⟨w', ew, rw'⟩ := rv.get ev
    rw [hi'] at ew
    cases ew
    have dq : Dp X.K H vi (PySem.W.Datum.toD (p :: ps)[i]) := by
      rw [eK]
      exact dataOf_ok hr rep rfl
    obtain ⟨bs, rd⟩ := Dp.reads I _ vi w dq rw'
    obtain ⟨cs, rm⟩ := hw
    have un := (Reads.keeps hk rd).unique _ _ rm
    have em : (p :: ps)[i] = PySem.W.maxOf p ps := by
      have z := un.1
      have z2 : PyData.tuple [.int (p :: ps)[i].1, .int (p :: ps)[i].2] = PyData.tuple [.int (PySem.W.maxOf p ps).1, .int (PySem.W.maxOf p ps).2] := z
      injection z2 with z3
      injection z3 with z4 z5
      injection z4 with z6
      injection z5 with z7
      injection z7 with z8
      exact Prod.ext z6 z8
    have o' := o ρ vi H (Nxt.refl hr) (by rw [maxP_eq, ← em]; exact rep)
    exact ⟨vi, H, I.kept (t' := tk) hk, rw', o'⟩
end
end PY
namespace PY
open PySem PySem.Spec PyProof.Rows L2
/-! ### sorted -/
theorem sortP_perm (ps : List (Int × Int)) : (sortP ps).Perm ps := List.mergeSort_perm _ _
theorem sortP_srt (ps : List (Int × Int)) : SrtO.Srtd SrtO.lexB (sortP ps) := by
  have h : (sortP ps).Pairwise fun a b => (!SrtO.lexB b a) = true := List.pairwise_mergeSort (le := fun a b => !SrtO.lexB b a) (fun a b c h1 h2 => by
    simp only [Bool.not_eq_true'] at h1 h2 ⊢
    rw [SrtO.lexB_no] at h1 h2 ⊢
    omega) (fun a b => by
    cases e1 : SrtO.lexB b a with
    | false => simp
    | true =>
      have : SrtO.lexB a b = false := by
        rw [SrtO.lexB_iff] at e1
        rw [SrtO.lexB_no]
        omega
      simp [this]) ps
  refine List.Pairwise.imp ?_ h
  intro a b q
  simpa using q
theorem srt_uniq : ∀ {l m : List (Int × Int)}, SrtO.Srtd SrtO.lexB l → SrtO.Srtd SrtO.lexB m → l.Perm m → l = m
  | [], m, _, _, p => by rw [List.nil_perm.mp p]
  | x :: l, [], _, _, p => by have := p.length_eq; simp at this
  | x :: l, y :: m, hl, hm, p => by
    have hl' := List.pairwise_cons.mp hl
    have hm' := List.pairwise_cons.mp hm
    have e : x = y := by
      have mx : x ∈ y :: m := p.subset List.mem_cons_self
      have my : y ∈ x :: l := p.symm.subset List.mem_cons_self
      rcases List.mem_cons.mp mx with z | z
      · exact z
      · rcases List.mem_cons.mp my with z2 | z2
        · exact z2.symm
        · have a := hm'.1 x z
          have b := hl'.1 y z2
          rw [SrtO.lexB_no] at a b
          exact Prod.ext (by omega) (by omega)
    subst e
    rw [srt_uniq hl'.2 hm'.2 (List.Perm.cons_inv p)]
end PY
namespace PY
open PySem PySem.Spec PyProof.Rows L2
variable {Γ : Gm} {ρ ρ' ρ'' : List Addr} {h h' h'' : Hh} {H H' H'' : Hp}
/-- the two numbers of a pair in the heap -/
def kOf (h : Heap) (v : Value) : Int × Int := match v with
  | .ref t => (match h.get? t with
    | some o => (match o.data with
      | .seq its _ => (match its[0]?, its[1]? with
        | some (Value.int a _), some (Value.int b _) => (a, b)
        | _, _ => (0, 0))
      | _ => (0, 0))
    | none => (0, 0))
  | _ => (0, 0)
section
variable {fd : Nat → FuncData} {n : Nat} {N : List Str} {X : Cx}
theorem pair_at {v : V} {u : Value} {pins : List (Addr × Obj)} {σ : St} {H : Hp} {s : Shared} {p : Int × Int} {L : Addr → Prop} (eK : X.K = Γ.K) (I : Inv X pins σ H s) (rv : RelV v u) (hr : HpR Γ ρ H h) (r : RepS Γ ρ h H (pairI p) v) : Srt.IsPair s.heap u p.1 p.2 ∧ kOf s.heap u = p ∧ ∃ t, v = .ref t ∧ u = .ref t := by
  have dq : Dp X.K H v (PyData.tuple [.int p.1, .int p.2]) := by
    rw [eK]
    exact dataOf_ok hr r rfl
  obtain ⟨bs, rd⟩ := Dp.reads I _ v u dq rv
  cases rd with
  | tuple e c d ra =>
    rename_i a o vs n
    have ev : ∃ t1 t2, vs.toList = [.int p.1 t1, .int p.2 t2] := by
      cases hv : vs.toList with
      | nil => rw [hv] at ra; cases ra
      | cons x r1 =>
        rw [hv] at ra
        cases ra with
        | cons q1 q2 =>
          cases r1 with
          | nil => cases q2
          | cons y r2 =>
            cases q2 with
            | cons q3 q4 =>
              cases q4
              cases q1
              cases q3
              exact ⟨_, _, rfl⟩
    obtain ⟨t1, t2, ev⟩ := ev
    have ev2 : vs = #[.int p.1 t1, .int p.2 t2] := by
      apply Array.toList_inj.mp
      rw [ev]
    subst ev2
    refine ⟨⟨a, o, t1, t2, n, rfl, e, c, d⟩, ?_, ?_⟩
    · unfold kOf
      simp only [e, d]
      rfl
    · obtain ⟨b, vs, rfl, t, q⟩ := r.tupV
      exact ⟨b, rfl, rv⟩
end
end PY
namespace PY
open PySem PySem.Spec PyProof.Rows L2
variable {Γ : Gm} {ρ ρ' ρ'' : List Addr} {h h' h'' : Hh} {H H' H'' : Hp}
theorem Vals.mem {xs : List V} {us : List Value} (r : Vals xs us) {u : Value} (m : u ∈ us) : ∃ v ∈ xs, RelV v u := by
  induction r with
  | nil => cases m
  | cons a b ih =>
    rcases List.mem_cons.mp m with rfl | m
    · exact ⟨_, List.mem_cons_self, a⟩
    · obtain ⟨v, vm, q⟩ := ih m
      exact ⟨v, List.mem_cons_of_mem _ vm, q⟩
section
variable {fd : Nat → FuncData} {n : Nat} {N : List Str} {X : Cx}
theorem kOf_all {pins : List (Addr × Obj)} {σ : St} {H : Hp} {s : Shared} {L : Addr → Prop} (eK : X.K = Γ.K) (I : Inv X pins σ H s) (hr : HpR Γ ρ H h) : ∀ {ps : List (Int × Int)} {vs : List V} {its : List Value}, RepsS Γ ρ h H (ps.map pairI) vs → Vals vs its →
    its.map (kOf s.heap) = ps ∧ ∀ u ∈ its, Srt.IsPair s.heap u (kOf s.heap u).1 (kOf s.heap u).2 ∧ ∃ t, u = .ref t ∧ RepS Γ ρ h H (pairI (kOf s.heap u)) (.ref t)
  | [], _, _, .nil, .nil => ⟨rfl, fun _ m => by cases m⟩
  | p :: ps, _, _, .cons r0 rs, .cons v0 vs0 => by
    obtain ⟨a1, a2, t, rfl, e⟩ := pair_at (L := L) eK I v0 hr r0
    subst e
    obtain ⟨b1, b2⟩ := kOf_all (L := L) eK I hr rs vs0
    refine ⟨by rw [List.map_cons, a2, b1], fun u m => ?_⟩
    rcases List.mem_cons.mp m with rfl | m
    · rw [a2]
      exact ⟨a1, t, rfl, r0⟩
    · exact b2 u m
theorem sorted_pairs {m : Bool} {d : D} {v : V} {u : Value} {Q : VK} {pins : List (Addr × Obj)} {σ : St} {H : Hp} {s : Shared} {ps : List (Int × Int)} (eK : X.K = Γ.K) (I : Inv X pins σ H s) (rv : RelV v u)
    (hr : HpR Γ ρ H h) (r : RepS Γ ρ h H d v) (e : lstOf h d = some (ps.map pairI)) (o : okR (mkL m ((sortP ps).map pairI) h) (Fin1 Γ ρ h H Q)) : wpAny (model X.prog X.w) X.A (PySem.call (.builtin "sorted") [u]) (EP X pins σ Q) X.xe s := by
  obtain ⟨a, vs, rfl, t, rr⟩ := lstOf_ok hr r e
  obtain rfl : u = Value.ref a := rv
  obtain ⟨its, rv, hl, hz⟩ := I.list (SqL.of t)
  obtain ⟨k1, k2⟩ := kOf_all (L := fun _ => True) eK I hr rr rv
  refine SrtO.sorted_pairsO (k := kOf s.heap) hl.isList (by rw [← rv.length]; exact hz) (fun u hu => (k2 u hu).1) fun h' dd out h1 h2 kp hd hn => ?_
  have eo : out.map (kOf s.heap) = sortP ps := by
    refine srt_uniq ?_ (sortP_srt ps) ?_
    · exact List.pairwise_map.mpr h1
    · have := h2.perm.map (kOf s.heap)
      rw [k1] at this
      exact this.trans (sortP_perm ps).symm
  have hm : ∀ u ∈ out, ∃ t, u = .ref t ∧ RepS Γ ρ h H (pairI (kOf s.heap u)) (.ref t) := fun u hu => (k2 u (h2.perm.mem_iff.mp hu)).2
  have hv : ∃ ws : List V, Vals ws out ∧ RepsS Γ ρ h H ((out.map (kOf s.heap)).map pairI) ws := by
    clear h1 h2 hn eo
    induction out with
    | nil => exact ⟨[], .nil, .nil⟩
    | cons u out ih =>
      obtain ⟨t, rfl, q⟩ := hm _ List.mem_cons_self
      obtain ⟨ws, w1, w2⟩ := ih fun u hu => hm u (List.mem_cons_of_mem _ hu)
      exact ⟨.ref t :: ws, .cons rfl w1, .cons q w2⟩
  obtain ⟨ws, w1, w2⟩ := hv
  rw [eo] at w2
  obtain ⟨lz, fin⟩ := mkL_ok hr w2 o
  obtain ⟨nn, hn⟩ := hn
  exact ⟨.ref dd, upd H dd (.lst ws), I.laid (t' := s.toks) kp hd ⟨lz, out, nn, w1, hn⟩, rfl, fin dd (I.hok.fresh hd)⟩
end
end PY
end
section
set_option Elab.async false
set_option autoImplicit false
set_option linter.all false
set_option maxRecDepth 100000
/-! Built-ins by values. -/
namespace PY
open PySem PySem.Spec PyProof.Rows L2
variable {Γ : Gm} {ρ ρ' ρ'' : List Addr} {h h' h'' : Hh} {H H' H'' : Hp} {L : Addr → Prop}

/-! ### bool of an own object -/
section
open PySem.W PySem.Calls Builtin
theorem bool_own {prog : Program} {w : World} {A : Around} {E : Value → Shared → Prop} {s : Shared} {K : PySem.W.Frag} {x C f : Addr} {ox : Obj} {od : Option Obj} {Q : Value → Shared → Prop} (X : K.In s.heap) (I : PySem.W.InstAt s.heap x ox C od)
    (hs : findIn K (.ref C) "__bool__" = some (some (.ref f))) (hf : isFn K (.ref f) = true) (h : wpAny (model prog w) A.in1.in1 (PySem.call (.ref f) [.ref x]) (fun r s' => ∃ b, r = .bool b ∧ Q r s') E s) : wpAny (model prog w) A (PySem.call (.type "bool") [.ref x]) Q E s := by
  refine callType_codes (T := "bool") (Bi := Builtin.«object.__init__») (Q₁ := fun r s₁ => ∃ y, r = .bool y ∧ Q r s₁) PySem.F.called_bool (PySem.F.typeCall_bool_1 _) PySem.F.entry_object_init ?_ ?_
  · refine codeAny_of_tree ?_
    show wpAny _ A.in1.in1 (do checkBuiltinCall "bool.__new__" ⟨[.type "bool", .ref x], []⟩; again (.builtin "bool.__new__" ⟨[.type "bool", .ref x], []⟩)) _ _ s
    refine wpAny_bind (wpAny_of_eq (PySem.F.newCall_bool_1 _) (wpAny_pure ⟨plainId_quiet (by decide +kernel) _, codeAny_builtin PySem.F.entry_bool_new ?_⟩))
    rw [Around.under_plainId (by decide +kernel) _]
    have f1 := PySem.F.conv_sub_bool
    have tr : ∀ {Q' : Bool → Shared → Prop} {E' : Value → Shared → Prop}, (∀ b s', Q (.bool b) s' → Q' b s') → (∀ e s', E e s' → E' e s') → wpAny (model prog w) A.in1.in1 (truthy (.ref x)) Q' E' s := fun {Q' E'} hq he => by
      unfold truthy
      refine wpAny_bind (m := callSpecial? (.ref x) (Str.ofString "__bool__")) (special_fn X I hs (beq_iff_eq.mp hf) (wpAny_mono h (fun r s' hr => ?_) he))
      obtain ⟨b, rfl, hr⟩ := hr
      exact wpAny_pure (hq b s' hr)
    obtain ⟨hp, g, d, tk, os⟩ := s
    repeat (any_goals (first | assumption | (with_reducible refine tr ?_ ?_) | wp_step))
    all_goals first
      | exact fun e s' z => z
      | exact fun b s' z => ⟨_, rfl, z⟩
      | exact fun b s' z => wpAny_pure ⟨_, rfl, z⟩
      | skip
  · rintro obj s₁ ⟨y, rfl, hq⟩
    exact ⟨rfl, PySem.F.args_object_init_2 _ _, object_init_meets PySem.F.called_bool.init.lookup PySem.F.called_bool.made (by decide) prog w A.in1 _ s₁ ⟨rfl, rfl, hq⟩⟩
end

/-! ### what the head tells of the program -/
structure FnF (Γ : G0) (fd : Nat → FuncData) (i : Nat) (F : Fn) : Prop where
  glob : F.cl = none → Γ.mg F.name = some (.ref (Γ.fa i))
  keep : PySem.W.keepIn Γ.K (.ref (Γ.fa i)) = true
  bind : ∀ (s : Shared) (us : List Value), Γ.K.In s.heap → us.length = F.ps.length → BindsTo s (fd i) ⟨us, []⟩ (F.ps.zip us)
  bindK : ∀ (s : Shared) (us ws : List Value) (vs zs : List V) (ks : List Str) (ds : List D) (kd : List D) (ful : List D), Γ.K.In s.heap → us.length = ds.length → ws.length = ks.length → kd.length = ks.length → bindA F.ps F.dfl ds (ks.zip kd) = some ful →
    ∃ (g : {α : Type} → List α → List α → List α → List α) (dv : List Value) (dV : List V), Vals dV dv ∧ (∀ (ρ : List Addr) (L : Addr → Prop) (H : Hp), Reps Γ ρ L H F.dfl dV) ∧
      ful = g ds kd F.dfl ∧ BindsTo s (fd i) ⟨us, ks.zip ws⟩ (F.ps.zip (g us ws dv)) ∧ (Vals vs us → Vals zs ws → Vals (g vs zs dV) (g us ws dv)) ∧
      (∀ (ρ : List Addr) (L : Addr → Prop) (H : Hp), Reps Γ ρ L H ds vs → Reps Γ ρ L H kd zs → Reps Γ ρ L H ful (g vs zs dV))
structure IsF (K : PySem.W.Frag) (C : Addr) : Prop where
  ha : PySem.W.findIn K (.ref C) "__class__" = some (some (.builtin "object.__class__"))
  hn : PySem.W.specialIn K (.builtin "object.__class__") "__get__" = some (some (.builtin "getset_descriptor.__get__"))
  htk : PySem.W.takesIn K (.builtin "object.__class__") = some true
  hm : PySem.W.mroIn K C (.type "object") = some true
  kit : PySem.W.kitOne K (.ref C) (.ref C) = some true
structure ClsF (Γ : G0) (k : Nat) (C : Cl) : Prop where
  isi : IsF Γ.K (Γ.ca k)
  glob : Γ.mg C.name = some (.ref (Γ.ca k))
  cls : Cls Γ.K (Γ.ca k)
  mak : Mk Γ.K (Γ.ca k) (Γ.fa C.init)
  noat : ∀ a ∈ C.fields, NoAttr Γ.K (Γ.ca k) (Γ.an a)
  nd : (C.fields.map Γ.an).Nodup
  len : C.fields.length ≤ 900
  meth : ∀ a f, C.meths.lookup a = some f → Meth Γ.K (Γ.ca k) (Γ.an a) (Γ.fa f) ∧ Γ.an a ∉ C.fields.map Γ.an
  prop : ∀ a f, C.props.lookup a = some f → ∃ p, L2.PropOf Γ.K (Γ.ca k) (Γ.an a) p (Γ.fa f)
  neq : ∀ f, C.meths.lookup 3 = some f → PySem.W.findIn Γ.K (.ref (Γ.ca k)) "__ne__" = some (some (.builtin "object.__ne__")) ∧ PySem.W.subIn Γ.K (.ref (Γ.ca k)) (.type "object") = some true
  cm : ∀ a f, C.clsm.lookup a = some f → ∃ mc p, ClX.CRead Γ.K (Γ.ca k) mc ∧ ClX.CMet Γ.K (Γ.ca k) mc (Γ.an a) p (Γ.fa f)
structure Facts (Γ : G0) (fd : Nat → FuncData) : Prop where
  a0 : Γ.an 0 = "__len__"
  a1 : Γ.an 1 = "__str__"
  a2 : Γ.an 2 = "__bool__"
  a3 : Γ.an 3 = "__eq__"
  fn : ∀ i F, Γ.P.funs[i]? = some F → FnF Γ fd i F
  cls : ∀ k C, Γ.P.clss[k]? = some C → ClsF Γ k C
  con : ∀ (k : Nat) (c : Str × D), Γ.P.consts[k]? = some c → ∃ v u, Γ.mg c.1 = some u ∧ RelV v u ∧ ∀ (ρ : List Addr) (L : Addr → Prop) (H : Hp), Rep Γ ρ L H c.2 v
  free : ∀ x ∈ (["len", "int", "str", "repr", "all", "any", "max", "min", "abs", "divmod", "tuple", "list", "bool", "sum", "sorted", "dict", "isinstance", "range", "enumerate", "zip"] : List Str), Γ.mg x = none
  freeT : ∀ x ∈ (["int", "str", "bool", "tuple", "list"] : List Str), Γ.mg x = none

theorem insOf_ok {d : D} {v : V} {c : Nat} {fs : List D} (hr : HpR Γ ρ H h) (r : RepS Γ ρ h H d v) (e : insOf h d = some (c, fs)) :
    ∃ C a dx vs, v = .ref a ∧ Γ.P.clss[c]? = some C ∧ H a = some (.ins (Γ.ca c) dx ((C.fields.map Γ.an).zip vs)) ∧ fs.length ≤ C.fields.length ∧ RepsS Γ ρ h H fs vs := by
  cases r with
  | inst q t n l r => simp only [insOf] at e; cases e; exact ⟨_, _, _, _, rfl, q, t, l, r⟩
  | @ref i a q =>
    simp only [insOf] at e
    cases q2 : h[i]? with
    | none => rw [q2] at e; cases e
    | some o =>
      rw [q2] at e
      cases o with
      | ins c fs =>
        cases e
        obtain ⟨C, dx, vs, c1, c2, c3, c4⟩ := hr.ins q q2
        exact ⟨C, _, dx, vs, rfl, c1, c2, c3, c4⟩
      | _ => cases e
  | _ => simp [insOf] at e
theorem run_len {P : Prg} {n i : Nat} {ds : List D} {h : Hh} {Q : D → Hh → Prop} (o : okR (run P n i ds h) Q) : ∃ F, P.funs[i]? = some F ∧ ds.length = F.ps.length := by
  cases n with
  | zero => exact o.elim
  | succ n =>
    unfold run at o
    split at o
    · rename_i F e
      exact ⟨F, e, by simpa using o.guard.1⟩
    · exact o.elim
theorem vals1 {v : V} {us : List Value} (r : Vals [v] us) : ∃ u, us = [u] ∧ RelV v u := by
  cases r with
  | cons a b => cases b; exact ⟨_, rfl, a⟩
section
variable {fd : Nat → FuncData} {n : Nat} {N : List Str} {X : Cx}
/-- a method of one's own that a built-in calls -/
theorem run_own {A' : Around} {pins : List (Addr × Obj)} {σ : St} {H : Hp} {s : Shared} {f : Nat} {d : D} {v : V} {u : Value} {Q : VK} {E : Value → Shared → Prop} (c : Cxt Γ fd n N X) (fx : Facts Γ fd) (hf : A'.frames = X.A.frames) (g : A'.guards = some []) (hr : Room (3 * n) A')
    (I : Inv X pins σ H s) (rv : RelV v u) (hp : HpR Γ ρ H h) (r : RepS Γ ρ h H d v) (o : okR (run Γ.P n f [d] h) (Fin1 Γ ρ h H Q)) : wpAny (model X.prog X.w) A' (PySem.call (.ref (Γ.fa f)) [u]) (EP X pins σ Q) E s := by
  obtain ⟨F, e, l⟩ := run_len o
  have G := c.fns Γ.hid f F e
  rw [← c.eK, ← c.eMg] at G
  have KI : Γ.K.In s.heap := by rw [← c.eK]; exact I.kIn
  exact run_fnA (us := [u]) (ful := [u]) (vs := [v]) G hf g hr ((fx.fn f F e).bind s [u] KI (by simpa using l)) (by simpa using l) I (.cons rv .nil) ⟨ρ, h, [d], hp, .cons r .nil, o⟩
theorem own_meth {d : D} {v : V} {c : Nat} {fs : List D} {pins : List (Addr × Obj)} {σ : St} {H : Hp} {s : Shared} (fx : Facts Γ fd) (eK : X.K = Γ.K) (I : Inv X pins σ H s) (hr : HpR Γ ρ H h) (r : RepS Γ ρ h H d v) (e : insOf h d = some (c, fs)) {C : Cl} (ec : Γ.P.clss[c]? = some C) {m f : Nat} (em : C.meths.lookup m = some f) :
    ∃ a ox od, v = .ref a ∧ PySem.W.InstAt s.heap a ox (Γ.ca c) od ∧ PySem.W.findIn X.K (.ref (Γ.ca c)) (Γ.an m) = some (some (.ref (Γ.fa f))) ∧ PySem.W.isFn X.K (.ref (Γ.fa f)) = true := by
  obtain ⟨C', a, dx, vs, rfl, e1, e2, e3, e4⟩ := insOf_ok hr r e
  obtain ⟨ox, od, J, _⟩ := StX.insC_at I (.inr ⟨dx, _, e2⟩)
  have k := ((fx.cls c C ec).meth m f em).1
  exact ⟨a, ox, od, rfl, J, by rw [eK]; exact k.at_, by rw [eK]; exact k.fn⟩
def bfV : BF → Value
  | .len => .builtin "len" | .int => .type "int" | .str => .type "str" | .repr => .builtin "repr" | .all => .builtin "all" | .any => .builtin "any" | .max => .builtin "max" | .min => .builtin "min"
  | .abs => .builtin "abs" | .divmod => .builtin "divmod" | .tuple => .type "tuple" | .list => .type "list" | .bool => .type "bool" | .sum => .builtin "sum" | .sorted => .builtin "sorted" | .dict => .type "dict"
def bfN : BF → Str
  | .len => "len" | .int => "int" | .str => "str" | .repr => "repr" | .all => "all" | .any => "any" | .max => "max" | .min => "min"
  | .abs => "abs" | .divmod => "divmod" | .tuple => "tuple" | .list => "list" | .bool => "bool" | .sum => "sum" | .sorted => "sorted" | .dict => "dict"
theorem bools_ok : ∀ {ds : List D} {vs : List V} {bs : List Bool} {L : Addr → Prop}, Reps Γ ρ L H ds vs → bools? ds = some bs → vs = bs.map V.bl
  | _, _, _, _, .nil, e => by simp only [bools?] at e; cases e; rfl
  | _, _, _, _, .cons a r, e => by
    cases a <;> simp only [bools?] at e <;> first | (cases e; done) | skip
    obtain ⟨ys, q, rfl⟩ := Option.map_eq_some_iff.mp e
    rw [List.map_cons, ← bools_ok r q]
theorem ints_ok : ∀ {ds : List D} {vs : List V} {bs : List Int} {L : Addr → Prop}, Reps Γ ρ L H ds vs → ints? ds = some bs → vs = bs.map V.int
  | _, _, _, _, .nil, e => by simp only [ints?] at e; cases e; rfl
  | _, _, _, _, .cons a r, e => by
    cases a <;> simp only [ints?] at e <;> first | (cases e; done) | skip
    obtain ⟨ys, q, rfl⟩ := Option.map_eq_some_iff.mp e
    rw [List.map_cons, ← ints_ok r q]
theorem strs_ok : ∀ {ds : List D} {vs : List V} {bs : List Str} {L : Addr → Prop}, Reps Γ ρ L H ds vs → strs? ds = some bs → vs = bs.map V.str
  | _, _, _, _, .nil, e => by simp only [strs?] at e; cases e; rfl
  | _, _, _, _, .cons a r, e => by
    cases a <;> simp only [strs?] at e <;> first | (cases e; done) | skip
    obtain ⟨ys, q, rfl⟩ := Option.map_eq_some_iff.mp e
    rw [List.map_cons, ← strs_ok r q]
theorem kvs_ok : ∀ {ds : List D} {vs : List V} {kvs : List (Key × D)} {L : Addr → Prop}, Reps Γ ρ L H ds vs → kvs? ds = some kvs →
    ∃ (ps : List Addr) (ws : List V), vs = ps.map V.ref ∧ Paired (fun p kv => SqT Γ.K H p [kV kv.1, kv.2]) ps ((kvs.map (·.1)).zip ws) ∧ Reps Γ ρ L H (kvs.map (·.2)) ws
  | _, _, _, _, .nil, e => by
    simp only [kvs?] at e; cases e
    exact ⟨[], [], rfl, .nil, .nil⟩
  | _, _, kvs, _, .cons a r, e => by
    unfold kvs? at e
    split at e
    · rename_i z; cases z
    · rename_i x y t z
      cases z
      split at e
      · rename_i k l ek el
        cases e
        obtain ⟨b, vs, rfl, sq, q⟩ := a.tupV
        obtain ⟨v, w, rfl, q1, q2⟩ := (show ∃ v w, vs = [v, w] ∧ Rep Γ ρ _ H x v ∧ Rep Γ ρ _ H y w by
          cases q with
          | cons a b => cases b with
            | cons c d => cases d; exact ⟨_, _, rfl, a, c⟩)
        obtain rfl := keyOf_ok q1 ek
        obtain ⟨ps, ws, rfl, p, s⟩ := kvs_ok r el
        exact ⟨b :: ps, w :: ws, rfl, .cons sq p, .cons q2 s⟩
      · cases e
    · cases e
theorem foldl_max (ns : List Int) : ∀ (i : Int), (i ≤ ns.foldl max i ∧ (∀ y ∈ ns, y ≤ ns.foldl max i)) ∧ (ns.foldl max i = i ∨ ns.foldl max i ∈ ns) := by
  induction ns with
  | nil => intro i; simp
  | cons x r ih =>
    intro i
    obtain ⟨⟨h1, h2⟩, h3⟩ := ih (max i x)
    simp only [List.foldl_cons]
    refine ⟨⟨by omega, fun y hy => ?_⟩, ?_⟩
    · rcases List.mem_cons.mp hy with rfl | hy
      · omega
      · exact h2 y hy
    · rcases h3 with h3 | h3
      · rw [h3]
        rcases Int.max_def i x with q
        by_cases hx : i ≤ x
        · rw [Int.max_eq_right hx]; exact .inr List.mem_cons_self
        · rw [Int.max_eq_left (by omega)]; exact .inl rfl
      · exact .inr (List.mem_cons_of_mem _ h3)
theorem foldl_min (ns : List Int) : ∀ (i : Int), (ns.foldl min i ≤ i ∧ (∀ y ∈ ns, ns.foldl min i ≤ y)) ∧ (ns.foldl min i = i ∨ ns.foldl min i ∈ ns) := by
  induction ns with
  | nil => intro i; simp
  | cons x r ih =>
    intro i
    obtain ⟨⟨h1, h2⟩, h3⟩ := ih (min i x)
    simp only [List.foldl_cons]
    refine ⟨⟨by omega, fun y hy => ?_⟩, ?_⟩
    · rcases List.mem_cons.mp hy with rfl | hy
      · omega
      · exact h2 y hy
    · rcases h3 with h3 | h3
      · rw [h3]
        by_cases hx : i ≤ x
        · rw [Int.min_eq_left hx]; exact .inl rfl
        · rw [Int.min_eq_right (by omega)]; exact .inr List.mem_cons_self
      · exact .inr (List.mem_cons_of_mem _ h3)
theorem maxI_ok {ns : List Int} {m : Int} (e : maxI ns = some m) : 0 < ns.length ∧ ∀ k, k ∈ ns → (∀ y, y ∈ ns → y ≤ k) → k = m := by
  cases ns with
  | nil => cases e
  | cons i r =>
    simp only [maxI] at e
    cases e
    obtain ⟨⟨h1, h2⟩, h3⟩ := foldl_max r i
    refine ⟨by simp, fun k hk hy => Int.le_antisymm ?_ ?_⟩
    · rcases List.mem_cons.mp hk with rfl | hk
      · exact h1
      · exact h2 k hk
    · exact hy _ (by rcases h3 with h3 | h3; rw [h3]; exact List.mem_cons_self; exact List.mem_cons_of_mem _ h3)
theorem minI_ok {ns : List Int} {m : Int} (e : minI ns = some m) : 0 < ns.length ∧ ∀ k, k ∈ ns → (∀ y, y ∈ ns → k ≤ y) → k = m := by
  cases ns with
  | nil => cases e
  | cons i r =>
    simp only [minI] at e
    cases e
    obtain ⟨⟨h1, h2⟩, h3⟩ := foldl_min r i
    refine ⟨by simp, fun k hk hy => Int.le_antisymm ?_ ?_⟩
    · exact hy _ (by rcases h3 with h3 | h3; rw [h3]; exact List.mem_cons_self; exact List.mem_cons_of_mem _ h3)
    · rcases List.mem_cons.mp hk with rfl | hk
      · exact h1
      · exact h2 k hk
theorem Reps.one {d : D} {xs : List V} {L : Addr → Prop} (r : Reps Γ ρ L H [d] xs) : ∃ v, xs = [v] ∧ Rep Γ ρ L H d v := by
  cases r with
  | cons a b => cases b; exact ⟨_, rfl, a⟩
theorem Reps.two {d e : D} {xs : List V} {L : Addr → Prop} (r : Reps Γ ρ L H [d, e] xs) : ∃ v w, xs = [v, w] ∧ Rep Γ ρ L H d v ∧ Rep Γ ρ L H e w := by
  cases r with
  | cons a b =>
    obtain ⟨w, rfl, q⟩ := Reps.one b
    exact ⟨_, w, rfl, a, q⟩
/-- a list's truths, numbers -/
theorem lst_via {α : Type} {d : D} {v : V} {f : List D → Option α} {g : α → List V} (hr : HpR Γ ρ H h) (r : RepS Γ ρ h H d v) {x : α} (e : (lstOf h d).bind f = some x) (ok : ∀ {ds : List D} {vs : List V}, RepsS Γ ρ h H ds vs → f ds = some x → vs = g x) : ∃ a, v = .ref a ∧ SqL Γ.K H a (g x) := by
  cases q : lstOf h d with
  | none => rw [q] at e; cases e
  | some xs =>
    rw [q] at e
    obtain ⟨a, vs, rfl, t, rr⟩ := lstOf_ok hr r q
    exact ⟨a, rfl, SqL.of (by rw [← ok rr e]; exact t)⟩
end
end PY
end
section
set_option Elab.async false
set_option autoImplicit false
set_option linter.all false
set_option maxRecDepth 100000
/-! The built-ins' rule. -/
namespace PY
open PySem PySem.Spec PyProof.Rows L2
variable {Γ : Gm} {ρ ρ' ρ'' : List Addr} {h h' h'' : Hh} {H H' H'' : Hp}
section
variable {fd : Nat → FuncData} {n : Nat} {N : List Str} {X : Cx}
/-- a built-in that asks an own method of an object -/
theorem blt_own {id : Nat} {d : D} {v : V} {u : Value} {Q : VK} {pins : List (Addr × Obj)} {σ : St} {H : Hp} {s : Shared} (c : Cxt Γ fd n N X) (fx : Facts Γ fd) (I : Inv X pins σ H s) (rv : RelV v u) (hr : HpR Γ ρ H h) (r : RepS Γ ρ h H d v)
    {k : Nat} {fs : List D} (e : insOf h d = some (k, fs)) {back : D → Hh → Res D}
    (o : okR (match Γ.P.clss[k]? with
      | some C => (match C.meths.lookup id with
        | some f => (run Γ.P n f [d] h).bind back
        | none => .stuck)
      | none => .stuck) (Fin1 Γ ρ h H Q)) {A' : Around} (hf : A'.frames = X.A.frames) (g : A'.guards = some []) (hrm : Room (3 * n) A') {E : Value → Shared → Prop} :
    ∃ a f ox od, u = .ref a ∧ PySem.W.InstAt s.heap a ox (Γ.ca k) od ∧ PySem.W.findIn X.K (.ref (Γ.ca k)) (Γ.an id) = some (some (.ref (Γ.fa f))) ∧ PySem.W.isFn X.K (.ref (Γ.fa f)) = true ∧
      wpAny (model X.prog X.w) A' (PySem.call (.ref (Γ.fa f)) [.ref a]) (EP X pins σ fun w H1 => ∃ ρ1 h1 d1, Nxt Γ ρ h H ρ1 h1 H1 ∧ RepS Γ ρ1 h1 H1 d1 w ∧ okR (back d1 h1) (Fin1 Γ ρ1 h1 H1 Q)) E s := by
  split at o
  · rename_i C ec
    split at o
    · rename_i f em
      obtain ⟨a, ox, od, rfl, J, h1, h2⟩ := own_meth fx c.eK I hr r e ec em
      obtain rfl : u = .ref a := rv
      refine ⟨a, f, ox, od, rfl, J, h1, h2, run_own (v := .ref a) c fx hf g hrm I rfl hr r (o.bind.mono fun d1 h1 o1 ρ1 w H1 nx rw' => ⟨ρ1, h1, d1, nx, rw', o1.mono fun _ _ q => q.pre nx⟩)⟩
    · exact o.elim
  · exact o.elim
theorem blt_ok {m : Bool} {f : BF} (c : Cxt Γ fd n N X) (fx : Facts Γ fd) : CallR X (bfV f) (RdC Γ (bcM Γ.P (run Γ.P n) m f)) := by
  intro pins s σ H xs us Q I rv ⟨ρ, h, ds, hr, r, o⟩
  have r1 : Room (3 * n) X.A.in1 := (c.room.mono (by omega : 3 * n + 1 ≤ 3 * n + 2)).in1
  unfold bcM at o
  split at o
  · obtain ⟨v, rfl, q⟩ := r.one
    cases q
    obtain ⟨g, o⟩ := o.guard
    exact call_len_str pins s σ H _ us Q I rv ⟨_, rfl, of_decide_eq_true g, fin_int hr o⟩
  · obtain ⟨v, rfl, q⟩ := r.one
    split at o
    · rename_i k fs e
      obtain ⟨u, rfl, ru⟩ := vals1 rv
      obtain ⟨a, f, ox, od, rfl, J, h1, h2, wp⟩ := blt_own (id := 0) (A' := X.A.in1) (E := X.xe) c fx I ru hr q e o rfl c.g r1
      obtain ⟨mm, F⟩ := I.fr
      rw [fx.a0] at h1
      refine PySem.W.len_K F I.ok.mod.kin J h1 h2 (thn wp fun w s1 hw => ?_)
      obtain ⟨x, H1, I1, rx, ρ1, hh1, d1, nx, rr, ob⟩ := hw
      split at ob
      · cases rr
        obtain ⟨t, rfl⟩ := rx
        obtain ⟨g, ob⟩ := ob.guard
        simp only [Bool.and_eq_true, decide_eq_true_eq] at g
        exact ⟨g, .int _, H1, I1.tok _, ⟨_, rfl⟩, fin_int nx.hr ob⟩
      · exact ob.elim
    · split at o
      · rename_i ys e
        obtain ⟨a, vs, rfl, t, rr⟩ := seqOf_ok hr q e
        rw [← c.eK] at t
        refine call_len_seq pins s σ H _ us Q I rv ⟨a, vs, rfl, t, ?_⟩
        rw [rr.length]
        exact fin_int hr o
      · exact o.elim
  · obtain ⟨v, rfl, q⟩ := r.one
    cases q
    exact call_int1 pins s σ H _ us Q I rv (.inl ⟨_, rfl, fin_int hr o⟩)
  · obtain ⟨v, rfl, q⟩ := r.one
    cases q
    exact call_int1 pins s σ H _ us Q I rv (.inr ⟨_, rfl, fin_int hr o⟩)
  · obtain ⟨v, rfl, q⟩ := r.one
    cases q
    obtain ⟨g, o⟩ := o.guard
    obtain ⟨w, e, o⟩ := o.opt
    obtain ⟨z, e3, rfl⟩ := Option.map_eq_some_iff.mp e
    exact call_int_str pins s σ H _ us Q I rv ⟨_, _, rfl, e3, of_decide_eq_true g, fin_int hr o⟩
  · obtain ⟨v, rfl, q⟩ := r.one
    cases q
    obtain ⟨g, o⟩ := o.guard
    exact call_str_int pins s σ H _ us Q I rv ⟨_, rfl, of_decide_eq_true g, fin_str hr o⟩
  · obtain ⟨v, rfl, q⟩ := r.one
    cases q
    exact SkE.call_str_str pins s σ H _ us Q I rv ⟨_, rfl, fin_str hr o⟩
  · obtain ⟨v, rfl, q⟩ := r.one
    split at o
    · rename_i k fs e
      obtain ⟨u, rfl, ru⟩ := vals1 rv
      have r2 : Room (3 * n) X.A.in1.in1 := c.room.in1.in1
      obtain ⟨a, f, ox, od, rfl, J, h1, h2, wp⟩ := blt_own (id := 1) (A' := X.A.in1.in1) (E := X.xe) c fx I ru hr q e o rfl c.g r2
      rw [fx.a1] at h1
      refine PySem.W.kso_call r2.units0 I.kIn J h1 h2 (thn wp fun w s1 hw => ?_)
      obtain ⟨x, H1, I1, rx, ρ1, hh1, d1, nx, rr, ob⟩ := hw
      split at ob
      · cases rr
        obtain ⟨t, rfl⟩ := rx
        exact ⟨.str _, H1, I1, ⟨_, rfl⟩, fin_str nx.hr ob⟩
      · exact ob.elim
    · exact o.elim
  · obtain ⟨v, rfl, q⟩ := r.one
    cases q
    exact call_bool1 pins s σ H _ us Q I rv (.inr ⟨_, rfl, fin_bool hr o⟩)
  · obtain ⟨v, rfl, q⟩ := r.one
    split at o
    · rename_i k fs e
      obtain ⟨u, rfl, ru⟩ := vals1 rv
      have r2 : Room (3 * n) X.A.in1.in1 := c.room.in1.in1
      obtain ⟨a, f, ox, od, rfl, J, h1, h2, wp⟩ := blt_own (id := 2) (A' := X.A.in1.in1) (E := X.xe) c fx I ru hr q e o rfl c.g r2
      rw [fx.a2] at h1
      refine bool_own I.kIn J h1 h2 (thn wp fun w s1 hw => ?_)
      obtain ⟨x, H1, I1, rx, ρ1, hh1, d1, nx, rr, ob⟩ := hw
      split at ob
      · cases rr
        obtain rfl := rx
        exact ⟨_, rfl, .bl _, H1, I1, rfl, fin_bool nx.hr ob⟩
      · exact ob.elim
    · exact o.elim
  · obtain ⟨v, rfl, q⟩ := r.one
    split at o
    · rename_i p e
      obtain ⟨g, o⟩ := o.guard
      simp only [Bool.and_eq_true, decide_eq_true_eq, Bool.not_eq_true'] at g
      obtain ⟨⟨⟨g1, g2⟩, g3⟩, g4⟩ := g
      have dp := dataOf_ok hr q e
      rw [← c.eK] at dp
      obtain ⟨u, rfl, ru⟩ := vals1 rv
      obtain ⟨as, rd⟩ := Dp.reads I p v u dp ru
      have hq : ∀ {t : Tok} {s' : Shared}, Inv X pins σ H s' → EP X pins σ Q (.str p.shown t) s' := fun I' => ⟨.str _, H, I', ⟨_, rfl⟩, fin_str hr o⟩
      cases dp with
      | non => cases ru; exact PySem.P.repr_of_none (hq (I.tok _))
      | bl b => cases ru; exact PySem.P.repr_of_bool (hq (I.tok _))
      | int i => obtain ⟨t, rfl⟩ := ru; exact PySem.P.repr_of_int (by simpa [PyData.showable] using g1) (hq (I.tok _))
      | str x => obtain ⟨t, rfl⟩ := ru; exact PySem.P.repr_of_str (hq (I.tok _)) g4
      | lst z1 z2 =>
        obtain rfl := ru
        exact PySem.repr_of_reads' rd g1 (fun z => by rw [g3] at z; cases z) c.g (by have := c.room.un; omega) (fun _ _ e => e) (fun h' u tk k => hq (I.kept k)) g4
      | tup z1 z2 =>
        obtain rfl := ru
        exact PySem.repr_of_reads' rd g1 (fun z => by rw [g3] at z; cases z) c.g (by have := c.room.un; omega) (fun _ _ e => e) (fun h' u tk k => hq (I.kept k)) g4
    · exact o.elim
  · obtain ⟨v, rfl, q⟩ := r.one
    split at o
    · rename_i bs e
      obtain ⟨a, rfl, t⟩ := lst_via hr q e bools_ok
      rw [← c.eK] at t
      exact cr_all c.calm pins s σ H _ us Q I rv ⟨a, bs, rfl, t, fin_bool hr o⟩
    · exact o.elim
  · obtain ⟨v, rfl, q⟩ := r.one
    split at o
    · rename_i bs e
      obtain ⟨a, rfl, t⟩ := lst_via hr q e bools_ok
      rw [← c.eK] at t
      exact cr_any c.calm pins s σ H _ us Q I rv ⟨a, bs, rfl, t, fin_bool hr o⟩
    · exact o.elim
  · obtain ⟨v, w, rfl, q1, q2⟩ := r.two
    cases q1; cases q2
    exact call_max2 c.calm pins s σ H _ us Q I rv ⟨_, _, rfl, fin_int hr o⟩
  · obtain ⟨v, w, rfl, q1, q2⟩ := r.two
    cases q1; cases q2
    exact call_min2 c.calm pins s σ H _ us Q I rv ⟨_, _, rfl, fin_int hr o⟩
  · obtain ⟨v, rfl, q⟩ := r.one
    split at o
    · rename_i bs e
      obtain ⟨a, rfl, t⟩ := lst_via hr q e ints_ok
      obtain ⟨w, e2, o⟩ := o.opt
      obtain ⟨z, e3, rfl⟩ := Option.map_eq_some_iff.mp e2
      rw [← c.eK] at t
      exact cr_max c.calm pins s σ H _ us Q I rv ⟨a, bs, rfl, t, (maxI_ok e3).1, fun k k1 k2 => by rw [(maxI_ok e3).2 k k1 k2]; exact fin_int hr o⟩
    · split at o
      · rename_i p ps e
        obtain ⟨xs, e1, e2⟩ := Option.bind_eq_some_iff.mp e
        obtain ⟨u, rfl, ru⟩ := vals1 rv
        exact max_pairs c.eK c.calm c.room.units I ru hr q (by rw [e1, pairs_eq e2]) o
      · exact o.elim
  · obtain ⟨v, rfl, q⟩ := r.one
    split at o
    · rename_i ps e
      obtain ⟨xs, e1, e2⟩ := Option.bind_eq_some_iff.mp e
      obtain ⟨u, rfl, ru⟩ := vals1 rv
      exact sorted_pairs c.eK I ru hr q (by rw [e1, pairs_eq e2]) o
    · exact o.elim
  · obtain ⟨v, rfl, q⟩ := r.one
    split at o
    · rename_i kvs e
      obtain ⟨xs, e1, e2⟩ := Option.bind_eq_some_iff.mp e
      obtain ⟨a, vs, rfl, t, rr⟩ := lstOf_ok hr q e1
      obtain ⟨ps, ws, rfl, pr, rw'⟩ := kvs_ok rr e2
      rw [← c.eK] at pr
      obtain ⟨vs', z1, z2⟩ := tz_merge (kvs := []) (vs := []) rw' .nil
      refine call_dictP c.calm pins s σ H _ us Q I rv ⟨a, ps, _, rfl, SqL.of t, pr, fun p hp => ?_⟩
      have nw := Nxt.newD hr hp z2
      rw [← z1] at nw
      exact o _ _ _ nw.1 nw.2
    · exact o.elim
  · obtain ⟨v, rfl, q⟩ := r.one
    split at o
    · rename_i bs e
      obtain ⟨a, rfl, t⟩ := lst_via hr q e ints_ok
      obtain ⟨w, e2, o⟩ := o.opt
      obtain ⟨z, e3, rfl⟩ := Option.map_eq_some_iff.mp e2
      rw [← c.eK] at t
      exact cr_min c.calm pins s σ H _ us Q I rv ⟨a, bs, rfl, t, (minI_ok e3).1, fun k k1 k2 => by rw [(minI_ok e3).2 k k1 k2]; exact fin_int hr o⟩
    · exact o.elim
  · obtain ⟨v, rfl, q⟩ := r.one
    cases q
    exact call_abs pins s σ H _ us Q I rv ⟨_, rfl, fin_int hr o⟩
  · obtain ⟨v, w, rfl, q1, q2⟩ := r.two
    cases q1; cases q2
    obtain ⟨g, o⟩ := o.guard
    simp only [Bool.and_eq_true, decide_eq_true_eq] at g
    exact call_divmod pins s σ H _ us Q I rv ⟨_, _, rfl, g, fun p hp => tup_ok hr (.cons (.int _) (.cons (.int _) .nil)) o hp⟩
  · obtain ⟨v, rfl, q⟩ := r.one
    obtain ⟨a, vs, rfl, t, qq⟩ := q.tupV
    rw [← c.eK] at t
    exact call_tuple_of pins s σ H _ us Q I rv ⟨a, vs, rfl, .inr ⟨t, rep_data hr q o⟩⟩
  · obtain ⟨v, rfl, q⟩ := r.one
    split at o
    · rename_i ys e
      obtain ⟨a, vs, rfl, t, rr⟩ := rlOf_ok hr q e
      rw [← c.eK] at t
      exact call_tuple_of pins s σ H _ us Q I rv ⟨a, vs, rfl, .inl ⟨t, fun p hp => tup_ok hr rr o hp⟩⟩
    · exact o.elim
  · obtain ⟨v, rfl, q⟩ := r.one
    split at o
    · rename_i ys e
      obtain ⟨a, vs, rfl, t, rr⟩ := seqOf_ok hr q e
      rw [← c.eK] at t
      exact call_list_of pins s σ H _ us Q I rv ⟨a, vs, rfl, t, (mkL_ok hr rr o).2⟩
    · exact o.elim
  · obtain ⟨v, rfl, q⟩ := r.one
    split at o
    · rename_i bs e
      obtain ⟨a, rfl, t⟩ := lst_via hr q e ints_ok
      rw [← c.eK] at t
      exact cr_sum c.calm pins s σ H _ us Q I rv ⟨a, bs, rfl, t, fin_int hr o⟩
    · exact o.elim
  · exact o.elim
end
end PY
end
section
set_option Elab.async false
set_option autoImplicit false
set_option linter.all false
set_option maxRecDepth 100000
/-! == and != of own objects, sound. -/
namespace PY
open PySem PySem.Spec PyProof.Rows L2
variable {Γ : Gm} {ρ ρ' ρ'' : List Addr} {h h' h'' : Hh} {H H' H'' : Hp}
section
variable {fd : Nat → FuncData} {n : Nat} {N : List Str} {X : Cx}
theorem run_own2 {A' : Around} {pins : List (Addr × Obj)} {σ : St} {H : Hp} {s : Shared} {f : Nat} {d e : D} {v v' : V} {u u' : Value} {Q : VK} {E : Value → Shared → Prop} (c : Cxt Γ fd n N X) (fx : Facts Γ fd) (hf : A'.frames = X.A.frames) (g : A'.guards = some []) (hr : Room (3 * n) A')
    (I : Inv X pins σ H s) (rv : RelV v u) (rv' : RelV v' u') (hp : HpR Γ ρ H h) (r : RepS Γ ρ h H d v) (r' : RepS Γ ρ h H e v') (o : okR (run Γ.P n f [d, e] h) (Fin1 Γ ρ h H Q)) : wpAny (model X.prog X.w) A' (PySem.call (.ref (Γ.fa f)) [u, u']) (EP X pins σ Q) E s := by
  obtain ⟨F, ef, l⟩ := run_len o
  have G := c.fns Γ.hid f F ef
  rw [← c.eK, ← c.eMg] at G
  have KI : Γ.K.In s.heap := by rw [← c.eK]; exact I.kIn
  exact run_fnA (us := [u, u']) (ful := [u, u']) (vs := [v, v']) G hf g hr ((fx.fn f F ef).bind s [u, u'] KI (by simpa using l)) (by simpa using l) I (.cons rv (.cons rv' .nil)) ⟨ρ, h, [d, e], hp, .cons r (.cons r' .nil), o⟩
theorem ownEq_ok {d e : D} {x y : V} {f : Nat} {pins : List (Addr × Obj)} {σ : St} {H : Hp} {s : Shared} (fx : Facts Γ fd) (eK : X.K = Γ.K) (I : Inv X pins σ H s) (hr : HpR Γ ρ H h) (r1 : RepS Γ ρ h H d x) (r2 : RepS Γ ρ h H e y) (q : ownEq Γ.P d e h = some f) :
    ∃ k a b ox od oy oe, x = .ref a ∧ y = .ref b ∧ PySem.W.InstAt s.heap a ox (Γ.ca k) od ∧ PySem.W.InstAt s.heap b oy (Γ.ca k) oe ∧ PySem.W.findIn X.K (.ref (Γ.ca k)) "__eq__" = some (some (.ref (Γ.fa f))) ∧ PySem.W.isFn X.K (.ref (Γ.fa f)) = true ∧
      PySem.W.findIn X.K (.ref (Γ.ca k)) "__ne__" = some (some (.builtin "object.__ne__")) ∧ PySem.W.subIn X.K (.ref (Γ.ca k)) (.type "object") = some true := by
  unfold ownEq at q
  split at q
  · rename_i k fs k' fs' e1 e2
    split at q
    · rename_i ek
      subst ek
      split at q
      · rename_i C ec
        obtain ⟨a, ox, od, rfl, J, m1, m2⟩ := own_meth fx eK I hr r1 e1 ec q
        rw [fx.a3] at m1
        obtain ⟨C', b, dx, vs, rfl, c1, c2, c3, c4⟩ := insOf_ok hr r2 e2
        obtain ⟨oy, oe, J', _⟩ := StX.insC_at I (.inr ⟨dx, _, c2⟩)
        obtain ⟨n1, n2⟩ := (fx.cls k C ec).neq f q
        exact ⟨k, a, b, ox, od, oy, oe, rfl, rfl, J, J', m1, m2, by rw [eK]; exact n1, by rw [eK]; exact n2⟩
      · cases q
    · cases q
  · cases q
theorem cmpM_ok {op : CmpOp} (c : Cxt Γ fd n N X) (fx : Facts Γ fd) : OpR X (compareOp op) (RdOp Γ (cmpM Γ.P (run Γ.P n) op)) := by
  intro pins s σ H x y v u Q I rx ry ⟨ρ, h, d, e, hr, r1, r2, o⟩
  unfold cmpM at o
  have bk : ∀ {f : Nat} {g : Bool → Bool}, okR ((eqM (run Γ.P n) f d e h).bind fun b h' => .ok (.bool (g b)) h') (Fin1 Γ ρ h H Q) → okR (run Γ.P n f [d, e] h) (Fin1 Γ ρ h H fun v H' => ∃ b, v = .bl b ∧ Q (.bl (g b)) H') := fun {f g} o => by
    unfold eqM at o
    refine o.bind.bind.mono fun r h1 o1 ρ1 v1 H1 nx rr => ?_
    cases r with
    | bool b =>
      cases rr
      exact ⟨b, rfl, o1 ρ1 _ H1 nx (.bool _)⟩
    | _ => exact (show False from o1).elim
  split at o
  · rename_i f q
    obtain ⟨k, a, b, ox, od, oy, oe, rfl, rfl, J, J', m1, m2, m3, m4⟩ := ownEq_ok fx c.eK I hr r1 r2 q
    obtain rfl : v = Value.ref a := rx
    obtain rfl : u = Value.ref b := ry
    have o' := bk (g := id) o
    have z := run_own2 (A' := X.A) (E := X.xe) c fx rfl c.g (c.room.mono (by omega)) I (v := .ref a) (v' := .ref b) (u := .ref a) (u' := .ref b) rfl rfl hr r1 r2 o'
    show wpAny _ _ (richCompare .Eq (.ref a) (.ref b)) _ _ _
    refine eq_own (Nat.lt_of_lt_of_le (Nat.lt_add_of_pos_right (by decide)) (Nat.le_of_lt c.room.units)) I.kIn J J'.type (by simp [PySem.W.notFirst]) m1 m2 (thn z fun w s1 hw => ?_)
    obtain ⟨x, H1, I1, rx, b, rfl, q⟩ := hw
    obtain rfl := rx
    exact ⟨b, rfl, .bl b, H1, I1, rfl, q⟩
  · rename_i f q
    obtain ⟨k, a, b, ox, od, oy, oe, rfl, rfl, J, J', m1, m2, m3, m4⟩ := ownEq_ok fx c.eK I hr r1 r2 q
    obtain rfl : v = Value.ref a := rx
    obtain rfl : u = Value.ref b := ry
    have o' := bk (g := not) o
    have z := run_own2 (A' := X.A.in1) (E := X.xe) c fx rfl c.g (c.room.mono (by omega : 3 * n + 1 ≤ 3 * n + 2)).in1 I (v := .ref a) (v' := .ref b) (u := .ref a) (u' := .ref b) rfl rfl hr r1 r2 o'
    show wpAny _ _ (richCompare .NotEq (.ref a) (.ref b)) _ _ _
    refine ne_own (Nat.lt_of_le_of_lt (Nat.add_le_add_left (by decide) _) c.room.units) I.kIn J J'.type (by simp [PySem.W.notFirst]) m4 m3 m1 m2 (thn z fun w s1 hw => ?_)
    obtain ⟨x, H1, I1, rx, b, rfl, q⟩ := hw
    obtain rfl := rx
    exact ⟨b, rfl, .bl _, H1, I1, rfl, q⟩
  · exact cmp_ok c.eK c.room.units pins s σ H x y v u Q I rx ry ⟨ρ, h, d, e, hr, r1, r2, o⟩
end
end PY
end
section
set_option Elab.async false
set_option autoImplicit false
set_option linter.all false
set_option maxRecDepth 100000
/-! Does a tree say a piece of the program's text? -/
namespace PY
open PySem

def Prg.an (P : Prg) (a : Nat) : Str := P.attrs.getD a ⟨#[]⟩
def visB (sc : Scope) (x : Str) : Bool := match sc.names.lookup x with
  | some .local => true | some .cell => true | some .free => true | _ => false
def locB (sc : Scope) (x : Str) : Bool := match sc.names.lookup x with
  | some .local => true | some .cell => true | _ => false
def globB (sc : Scope) (x : Str) : Bool := sc.names.lookup x == some .globalImplicit && x != "__debug__"
def isStar : Expr → Bool
  | .Starred _ _ => true
  | _ => false
def isSet : Expr → Bool
  | .Set _ _ _ => true
  | _ => false
def isLst : Expr → Bool
  | .List _ _ => true
  | _ => false
def isTupE : Expr → Bool
  | .Tuple _ _ _ => true
  | _ => false
def isComp : Expr → Bool
  | .ListComp _ _ _ _ => true | .SetComp _ _ _ _ => true | .DictComp _ _ _ _ _ => true
  | _ => false
def isSl : Expr → Bool
  | .Slice _ _ _ _ => true
  | _ => false
def okBase : Expr → Bool
  | .Call (.Name _ _) [] [] _ => false
  | _ => true
def testy : Expr → Bool
  | .UnaryOp .Not _ _ => true | .BoolOp _ _ _ => true | .IfExp _ _ _ _ => true | .Compare _ _ _ _ => true
  | _ => false
def constB : D → Const → Bool
  | .none, .none => true
  | .bool a, .bool b => a == b
  | .int a, .int b => decide (a = b)
  | .str a, .str b => decide (a = b)
  | _, _ => false
def bmN : BM → Str
  | .split => "split" | .join => "join" | .append => "append" | .extend => "extend" | .index => "index" | .count => "count"
mutual
def chkT (N : List Str) (loc : Str → Bool) : IT → Expr → Bool
  | .n i, e => match e with
    | .Name x _ => N[i]? == some x && loc x
    | _ => false
  | .tup ts, e => match e with
    | .Tuple es _ _ => chkTs N loc ts es
    | _ => false
  | .star _ _, _ => false
def chkTs (N : List Str) (loc : Str → Bool) : List IT → List Expr → Bool
  | [], es => es.isEmpty
  | t :: ts, es => match es with
    | e :: es => chkT N loc t e && (!isStar e && chkTs N loc ts es)
    | [] => false
end
mutual
def slots : IT → List Nat
  | .n i => [i]
  | .tup ts => slotss ts
  | .star ts r => r :: slotss ts
def slotss : List IT → List Nat
  | [] => []
  | t :: ts => slots t ++ slotss ts
end
section
variable (P : Prg) (N : List Str)
mutual
def chkE (sc : Scope) : IE → Expr → Bool
  | .v i, e => match e with
    | .Name x _ => N[i]? == some x && (visB sc x && (x != "__debug__" && x != "__classdict__"))
    | _ => false
  | .c d, e => match e with
    | .Constant k _ _ => constB d k
    | _ => false
  | .g k, e => match e with
    | .Name x _ => globB sc x && (match P.consts[k]? with
      | some c => c.1 == x
      | Option.none => false)
    | _ => false
  | .cl k, e => match e with
    | .Name x _ => globB sc x && (match P.clss[k]? with
      | some c => c.name == x
      | Option.none => false)
    | _ => false
  | .bin _ op a b, e => match e with
    | .BinOp l o r _ => op == o && (chkE sc a l && chkE sc b r)
    | _ => false
  | .un op a, e => match e with
    | .UnaryOp o x _ => op == o && chkE sc a x
    | _ => false
  | .cmp op a b, e => match e with
    | .Compare l [o] [r] _ => op == o && (!isSet r && (chkE sc a l && chkE sc b r))
    | _ => false
  | .chain p q a b c, e => match e with
    | .Compare l [o, o'] [r, r'] _ => p == o && (q == o' && (!isSet r' && (chkE sc a l && (chkE sc b r && chkE sc c r'))))
    | _ => false
  | .and es, e => match e with
    | .BoolOp .And xs _ => !xs.isEmpty && chkPs sc es xs
    | _ => false
  | .or es, e => match e with
    | .BoolOp .Or xs _ => !xs.isEmpty && chkPs sc es xs
    | _ => false
  | .ite c a b, e => match e with
    | .IfExp t x y _ => chkE sc c t && (chkE sc a x && chkE sc b y)
    | _ => false
  | .tup es, e => match e with
    | .Tuple xs _ _ => chkEs sc es xs
    | _ => false
  | .lst _ es, e => match e with
    | .List xs _ => chkEs sc es xs
    | _ => false
  | .star _, _ => false
  | .idx a b, e => match e with
    | .Subscript x y _ => !isSl y && (chkE sc a x && chkE sc b y)
    | _ => false
  | .slc a lo hi, e => match e with
    | .Subscript x (.Slice l u st _) _ => st.isNone && (chkE sc a x && (chkO sc lo l && chkO sc hi u))
    | _ => false
  | .rev a, e => match e with
    | .Subscript x (.Slice Option.none Option.none (some (.UnaryOp .USub (.Constant (.int i) _ _) _)) _) _ => decide (i = 1) && chkE sc a x
    | _ => false
  | .call f es ks, e => match e with
    | .Call (.Name x _) xs kws _ => globB sc x && ((match P.funs[f]? with
      | some F => F.cl.isNone && F.name == x
      | Option.none => false) && (xs.all (!isStar ·) && (chkEs sc es xs && chkKs sc ks kws)))
    | _ => false
  | .make k es ks, e => match e with
    | .Call (.Name x _) xs kws _ => globB sc x && ((match P.clss[k]? with
      | some C => C.name == x
      | Option.none => false) && (xs.all (!isStar ·) && (chkEs sc es xs && chkKs sc ks kws)))
    | _ => false
  | .mkv i es ks, e => match e with
    | .Call (.Name x _) xs kws _ => (N[i]? == some x && (visB sc x && (x != "__debug__" && x != "__classdict__"))) && (xs.all (!isStar ·) && (chkEs sc es xs && chkKs sc ks kws))
    | _ => false
  | .bc _ f es, e => match e with
    | .Call (.Name x _) xs kws _ => kws.isEmpty && (globB sc x && (bfN f == x && (!xs.isEmpty && (xs.all (!isStar ·) && chkEs sc es xs))))
    | _ => false
  | .bm _ f o es, e => match e with
    | .Call (.Attribute y name apos) xs kws pos => kws.isEmpty && (bmN f == name && (okBase y && ((apos.endLine == pos.line) && (decide (xs.length < 29) && (!xs.isEmpty && (xs.all (!isStar ·) && (chkE sc o y && chkEs sc es xs)))))))
    | _ => false
  | .meth a o es ks, e => match e with
    | .Call (.Attribute y name apos) xs kws pos => P.an a == name && (okBase y && ((apos.endLine == pos.line) && (decide (xs.length + kws.length < 29) && (xs.all (!isStar ·) && (chkE sc o y && (chkEs sc es xs && chkKs sc ks kws))))))
    | _ => false
  | .attr a o, e => match e with
    | .Attribute y name _ => P.an a == name && (okBase y && chkE sc o y)
    | _ => false
  | .isi a t, e => match e with
    | .Call (.Name f _) [x, .Name n _] kws _ => kws.isEmpty && (f == "isinstance" && (globB sc f && (!isStar x && (globB sc n && ((match t with
      | .b m => Str.ofString m == n && (["int", "bool", "str", "tuple", "list"] : List String).contains m
      | .c k => (match P.clss[k]? with
        | some C => C.name == n
        | Option.none => false)) && chkE sc a x)))))
    | _ => false
  | .comp _ own t src cs a, e => match e with
    | .ListComp elt gs scope _ => (match gs with
      | [⟨tg, it, ifs, asy⟩] => asy == 0 && (L2.blkC N sc scope own && (chkT N (locB scope) t tg && ((slots t).all (fun i => (own.map (·.2)).contains i) && (chkI sc (isTupE tg) src it && (decide (cs.length ≤ 1) && (chkPs (L2.relS scope sc) cs ifs && chkE (L2.relS scope sc) a elt))))))
      | _ => false)
    | _ => false
  | .frz a, e => chkE sc a e
def chkO (sc : Scope) : Option IE → Option Expr → Bool
  | Option.none, e => e.isNone
  | some a, e => match e with
    | some e => chkE sc a e
    | Option.none => false
def chkPs (sc : Scope) : List IE → List Expr → Bool
  | [], es => es.isEmpty
  | c :: cs, es => match es with
    | e :: es => chkE sc c e && chkPs sc cs es
    | [] => false
def chkEs (sc : Scope) : List IE → List Expr → Bool
  | [], es => es.isEmpty
  | .star c :: cs, es => match es with
    | .Starred e _ :: es => chkE sc c e && chkEs sc cs es
    | _ => false
  | c :: cs, es => match es with
    | e :: es => !isStar e && (chkE sc c e && chkEs sc cs es)
    | [] => false
def chkKs (sc : Scope) : List (Str × IE) → List Keyword → Bool
  | [], ks => ks.isEmpty
  | (n, c) :: cs, ks => match ks with
    | ⟨x, e, _⟩ :: ks => x == some n && (chkE sc c e && chkKs sc cs ks)
    | [] => false
def chkI (sc : Scope) (tp : Bool) : II → Expr → Bool
  | .e x, e => !isSet e && chkE sc x e
  | .range es, e => match e with
    | .Call (.Name f _) xs kws _ => kws.isEmpty && (f == "range" && (globB sc f && (decide (es.length = 1 ∨ es.length = 2) && (xs.all (!isStar ·) && chkEs sc es xs))))
    | _ => false
  | .enum x, e => match e with
    | .Call (.Name f _) [a] kws _ => tp && (kws.isEmpty && (f == "enumerate" && (globB sc f && (!isStar a && chkE sc x a))))
    | _ => false
  | .zip x y, e => match e with
    | .Call (.Name f _) [a, b] kws _ => tp && (kws.isEmpty && (f == "zip" && (globB sc f && (!isStar a && (!isStar b && (chkE sc x a && chkE sc y b))))))
    | _ => false
end
end
end PY
end
section
set_option Elab.async false
set_option autoImplicit false
set_option linter.all false
set_option maxRecDepth 100000
/-! Each construct's rule. -/
namespace PY
open PySem PySem.Spec PyProof.Rows L2
variable {Γ : Gm} {ρ ρ' ρ'' : List Addr} {h h' h'' : Hh} {H H' H'' : Hp}

/-! ### the text's forms -/
theorem vis_of {X : Cx} {x : Str} (e : visB X.env.scope x = true) : Vis X.env.scope x := by
  unfold visB at e
  unfold Vis
  split at e <;> first | (rename_i q; simp [q]; done) | cases e
theorem glob_of {X : Cx} {x : Str} (e : globB X.env.scope x = true) : Gl X x ∧ (x == ("__debug__" : Str)) = false := by
  unfold globB at e
  simp only [Bool.and_eq_true, beq_iff_eq, bne_iff_ne, ne_eq] at e
  exact ⟨e.1, by simpa using e.2⟩
theorem star_each {e : Expr} {es : List Expr} {env : Env} (h : isStar e = false) : starEach (e :: es) env = (false, eval e env) :: starEach es env := by
  cases e <;> first | rfl | (simp [isStar] at h; done)
theorem star_any {pos : Pos} {env : Env} : ∀ {es : List Expr}, es.all (!isStar ·) = true → (backTo pos (starEach es env)).any (·.1) = false
  | [], _ => rfl
  | e :: es, h => by
    simp only [List.all_cons, Bool.and_eq_true, Bool.not_eq_true'] at h
    rw [star_each h.1]
    have ih := star_any (pos := pos) (env := env) h.2
    unfold backTo at ih ⊢
    simp only [List.map_cons, List.any_cons, ih, Bool.or_false]
theorem star_len {pos : Pos} {env : Env} : ∀ (es : List Expr), (backTo pos (starEach es env)).length = es.length
  | [] => rfl
  | e :: es => by
    have ih := star_len (pos := pos) (env := env) es
    unfold backTo at ih ⊢
    cases e <;> simpa [starEach] using ih
theorem star_all {pos : Pos} {env : Env} {es : List Expr} (h : es.all (!isStar ·) = true) : (backTo pos (starEach es env)).all (fun x => !x.1) = true := by
  have q := star_any (pos := pos) (env := env) h
  rw [List.any_eq_false] at q
  rw [List.all_eq_true]
  intro x hx
  have := q x hx
  simpa using this
theorem kw_some {pos : Pos} {env : Env} : ∀ {ks : List Keyword} {ns : List Str}, ks.map (·.arg) = ns.map some → (backToKw pos (keywordEach ks env)).all (·.1.isSome) = true ∧ (backToKw pos (keywordEach ks env)).filterMap (·.1) = ns ∧ (backToKw pos (keywordEach ks env)).any (·.1.isNone) = false ∧ (backToKw pos (keywordEach ks env)).isEmpty = ks.isEmpty
  | [], ns, h => by
    cases ns with
    | nil => refine ⟨?_, ?_, ?_, ?_⟩ <;> simp [backToKw, keywordEach]
    | cons _ _ => simp at h
  | ⟨x, e, p⟩ :: ks, ns, h => by
    cases ns with
    | nil => simp at h
    | cons n ns =>
      simp only [List.map_cons, List.cons.injEq] at h
      obtain ⟨rfl, h⟩ := h
      obtain ⟨h1, h2, h3, _⟩ := kw_some (pos := pos) (env := env) h
      unfold backToKw at h1 h2 h3 ⊢
      simp only [keywordEach, List.map_cons, List.all_cons, List.filterMap_cons, List.any_cons, h1, h2, h3]
      refine ⟨?_, ?_, ?_, ?_⟩ <;> simp
theorem base_of {o : Expr} {m : Str} {env : Env} {w : Sem Value} (h : okBase o = true) : attributeBase o m env w = w := by
  unfold attributeBase
  split
  · rename_i hq; simp [okBase] at h
  · rfl
theorem plain_test {e : Expr} {env : Env} (h : testy e = false) : ∀ whole, isTrue e env whole = (do let v ← whole; standAt e.pos; holding [v] (truthy v)) := by
  intro w
  cases e with
  | UnaryOp op x p => cases op <;> first | rfl | (simp [testy] at h; done)
  | BoolOp _ _ _ => simp [testy] at h
  | IfExp _ _ _ _ => simp [testy] at h
  | Compare _ _ _ _ => simp [testy] at h
  | _ => rfl
theorem behind {op : CmpOp} {e : Expr} (h : isSet e = false) : behindInMarks op e = false := by
  cases e <;> first | rfl | (simp [isSet] at h; done)
theorem plain_ix {e : Expr} (h : isSl e = false) : PlainIx e := by
  intro o i
  cases e <;> first | rfl | (simp [isSl] at h; done)

section
variable {fd : Nat → FuncData} {n : Nat} {N : List Str} {X : Cx} {e : Expr} {pos : Pos}
abbrev ev (Γ : Gm) (n : Nat) : IE → En → Hh → Res D := evE Γ.P (run Γ.P n)
abbrev SE (Γ : Gm) (n : Nat) (X : Cx) (c : IE) (e : Expr) : Prop := PE X e (RdE Γ (ev Γ n c))
abbrev ST (Γ : Gm) (n : Nat) (X : Cx) (c : IE) (e : Expr) : Prop := PT X e (RdT Γ (ev Γ n c))
theorem sv (c : Cxt Γ fd n N X) {i : Nat} {x : Str} (h1 : N[i]? = some x) (h2 : visB X.env.scope x = true) (h3 : x ≠ "__debug__") (h4 : x ≠ "__classdict__") : SE Γ n X (.v i) (.Name x pos) := by
  refine PE.mono (pe_var (i := i) (by rw [c.eN]; exact h1) (vis_of h2) (by simpa using h3) (by simpa using h4)) fun σ H Q ⟨ρ, h, env, S, o⟩ => ?_
  unfold ev evE at o
  obtain ⟨d, e, o⟩ := o.opt
  obtain ⟨v, e1, r⟩ := S.get i d (getV_of e)
  exact ⟨v, e1, rep_data S.hr r o⟩
theorem sc {d : D} {k : Const} {j : Nat} (h : constB d k = true) : SE Γ n X (.c d) (.Constant k j pos) := by
  unfold constB at h
  split at h
  · exact PE.mono pe_non fun σ H Q ⟨ρ, h, env, S, o⟩ => by unfold ev evE at o; exact rep_data S.hr .none o
  · rw [beq_iff_eq.mp h]
    exact PE.mono pe_bl fun σ H Q ⟨ρ, h, env, S, o⟩ => by unfold ev evE at o; exact fin_bool S.hr o
  · rw [of_decide_eq_true h]
    exact PE.mono pe_int fun σ H Q ⟨ρ, h, env, S, o⟩ => by unfold ev evE at o; exact fin_int S.hr o
  · rw [of_decide_eq_true h]
    exact PE.mono pe_str fun σ H Q ⟨ρ, h, env, S, o⟩ => by unfold ev evE at o; exact fin_str S.hr o
  · cases h
theorem sg (c : Cxt Γ fd n N X) (fx : Facts Γ fd) {k : Nat} {x : Str} {p : Str × D} (h1 : globB X.env.scope x = true) (h2 : Γ.P.consts[k]? = some p) (h3 : p.1 = x) : SE Γ n X (.g k) (.Name x pos) := by
  subst h3
  obtain ⟨v, u, e1, r, q⟩ := fx.con k p h2
  obtain ⟨g1, g2⟩ := glob_of h1
  refine PE.mono (pe_glob g1 (by rw [c.eMg]; exact e1) r g2) fun σ H Q ⟨ρ, h, env, S, o⟩ => ?_
  unfold ev evE at o
  rw [h2] at o
  exact rep_data S.hr (q _ _ _) o
theorem scl (c : Cxt Γ fd n N X) (fx : Facts Γ fd) {k : Nat} {x : Str} {C : Cl} (h1 : globB X.env.scope x = true) (h2 : Γ.P.clss[k]? = some C) (h3 : C.name = x) : SE Γ n X (.cl k) (.Name x pos) := by
  subst h3
  obtain ⟨g1, g2⟩ := glob_of h1
  refine PE.mono (pe_glob (v := .ref (Γ.ca k)) g1 (by rw [c.eMg]; exact (fx.cls k C h2).glob) rfl g2) fun σ H Q ⟨ρ, h, env, S, o⟩ => ?_
  unfold ev evE at o
  exact rep_data S.hr (.cls k) o
theorem sbin (c : Cxt Γ fd n N X) {m : Bool} {op : Operator} {a b : IE} {x y : Expr} (ha : SE Γ n X a x) (hb : SE Γ n X b y) : SE Γ n X (.bin m op a b) (.BinOp x op y pos) :=
  PE.mono (pe_op (bin_ok c.eK) ha hb) fun σ H Q q => RdE.seq2 (by simpa only [ev, evE] using q)
theorem sneg (c : Cxt Γ fd n N X) {a : IE} {x : Expr} (ha : SE Γ n X a x) : SE Γ n X (.un .USub a) (.UnaryOp .USub x pos) :=
  PE.mono (pe_un (un_ok rfl) ha) fun σ H Q q => RdE.seq (by simpa only [ev, evE] using q)
theorem RdU.unf {op : D → Hh → Res D} {v : V} {Q : VK} (q : RdU Γ op v H Q) : ∃ ρ h d, HpR Γ ρ H h ∧ RepS Γ ρ h H d v ∧ okR (op d h) (Fin1 Γ ρ h H Q) := q
theorem snot (c : Cxt Γ fd n N X) {a : IE} {x : Expr} (ha : SE Γ n X a x) : SE Γ n X (.un .Not a) (.UnaryOp .Not x pos) := by
  refine PE.mono (pe_not ha) fun σ H Q q => ?_
  have z := RdE.seq (g := fun x h1 => unD .Not x h1) (by simpa only [ev, evE] using q)
  obtain ⟨ρ, h, env, S, o⟩ := z
  refine ⟨ρ, h, env, S, o.mono fun d h1 k ρ1 v H1 nx r => ?_⟩
  obtain ⟨ρ2, h2, d2, hr2, r2, o2⟩ := k ρ1 v H1 nx r
  cases d2 with
  | bool b => cases r2; exact ⟨_, rfl, fin_bool hr2 o2⟩
  | _ => exact (show False from o2).elim
theorem sidx (c : Cxt Γ fd n N X) {a b : IE} {x y : Expr} (hy : isSl y = false) (ha : SE Γ n X a x) (hb : SE Γ n X b y) : SE Γ n X (.idx a b) (.Subscript x y pos) :=
  PE.mono (pe_ix (idx_ok c.eK c.room.units) ha hb (plain_ix hy)) fun σ H Q q => RdE.seq2 (by simpa only [ev, evE] using q)
theorem scmp (c : Cxt Γ fd n N X) (fx : Facts Γ fd) {op : CmpOp} {a b : IE} {x y : Expr} (hy : isSet y = false) (ha : SE Γ n X a x) (hb : SE Γ n X b y) : SE Γ n X (.cmp op a b) (.Compare x [op] [y] pos) :=
  PE.mono (pe_cmpR (cmpM_ok c fx) ha hb (behind hy)) fun σ H Q q => RdE.seq2 (by simpa only [ev, evE] using q)
/-- a value that is a truth, as a test -/
theorem tst_of {f : En → Hh → Res D} {σ : St} {H : Hp} {Q : Bool → Hp → Prop} (q : RdT Γ f σ H Q) : RdE Γ f σ H fun x H1 => ∃ k, x = .bl k ∧ Q k H1 := by
  obtain ⟨ρ, h, env, S, o⟩ := q
  exact ⟨ρ, h, env, S, o.mono fun d h1 ⟨b, e, k⟩ ρ1 v H1 nx r => by subst e; cases r; exact ⟨b, rfl, k ρ1 H1 nx⟩⟩
theorem tplain (ht : testy e = false) {a : IE} (ha : SE Γ n X a e) : ST Γ n X a e :=
  PT.mono (pt_val ha (plain_test ht)) fun σ H Q q => tst_of q
theorem tcmp (c : Cxt Γ fd n N X) (fx : Facts Γ fd) {op : CmpOp} {a b : IE} {x y : Expr} (hy : isSet y = false) (ha : SE Γ n X a x) (hb : SE Γ n X b y) : ST Γ n X (.cmp op a b) (.Compare x [op] [y] pos) :=
  PT.mono (pt_cmpR (cmpM_ok c fx) ha hb (behind hy)) fun σ H Q q => RdE.seq2 (by simpa only [ev, evE] using tst_of q)
theorem tnot {a : IE} {x : Expr} (ha : ST Γ n X a x) : ST Γ n X (.un .Not a) (.UnaryOp .Not x pos) := by
  refine PT.mono (pt_not ha) fun σ H Q ⟨ρ, h, env, S, o⟩ => ?_
  unfold ev evE at o
  refine ⟨ρ, h, env, S, o.bind.mono fun d h1 o1 => ?_⟩
  cases d with
  | bool b =>
    obtain ⟨b', e, k⟩ := (show ∃ b', D.bool (!b) = .bool b' ∧ _ from o1)
    cases e
    exact ⟨_, rfl, k⟩
  | _ => exact (show False from o1).elim
/-- two comparisons in a row: the reading -/
theorem chain_rd {p q : CmpOp} {a b c : IE} {σ : St} {H : Hp} {Q : VK} (z : RdE Γ (ev Γ n (.chain p q a b c)) σ H Q) : tChain (RdOp Γ (cmpD p)) (RdOp Γ (cmpD q)) (RdE Γ (ev Γ n a)) (RdE Γ (ev Γ n b)) (RdE Γ (ev Γ n c)) σ H Q := by
  obtain ⟨ρ, h, env, S, o⟩ := z
  unfold ev evE at o
  refine ⟨ρ, h, env, S, o.bind.mono fun d h1 o1 ρ1 v H1 n1 r1 => ⟨ρ1, h1, env, S.next n1, o1.bind.mono fun e h2 o2 ρ2 w H2 n2 r2 => ⟨ρ2, h2, d, e, n2.hr, n2.rep r1, r2, o2.bind.mono fun t h3 o3 ρ3 u H3 n3 r3 => ?_⟩⟩⟩
  split at o3
  · cases r3
    refine ⟨true, rfl, ?_⟩
    rw [if_pos rfl]
    exact ⟨ρ3, h3, env, (S.next n1).next n2 |>.next n3, o3.bind.mono fun g h4 o4 ρ4 u H4 n4 r4 => ⟨ρ4, h4, e, g, n4.hr, n4.rep (n3.rep r2), r4, o4.mono fun _ _ k => k.pre (n1.trans (n2.trans (n3.trans n4)))⟩⟩
  · cases r3
    refine ⟨false, rfl, ?_⟩
    rw [if_neg (by decide)]
    exact fin_bool n3.hr (Fin1.pre (n1.trans (n2.trans n3)) o3)
  · exact o3.elim
theorem schain (c : Cxt Γ fd n N X) {p q : CmpOp} {a b d : IE} {x y z : Expr} (hz : isSet z = false) (ha : SE Γ n X a x) (hb : SE Γ n X b y) (hd : SE Γ n X d z) : SE Γ n X (.chain p q a b d) (.Compare x [p, q] [y, z] pos) :=
  PE.mono (pe_chain (cmp_ok c.eK c.room.units) (cmp_ok c.eK c.room.units) ha hb hd (by show behindInMarks q z = false; exact behind hz)) fun σ H Q k => chain_rd k
theorem tchain (c : Cxt Γ fd n N X) {p q : CmpOp} {a b d : IE} {x y z : Expr} (hz : isSet z = false) (ha : SE Γ n X a x) (hb : SE Γ n X b y) (hd : SE Γ n X d z) : ST Γ n X (.chain p q a b d) (.Compare x [p, q] [y, z] pos) :=
  PT.mono (pt_chain (cmp_ok c.eK c.room.units) (cmp_ok c.eK c.room.units) ha hb hd (by show behindInMarks q z = false; exact behind hz)) fun σ H Q k => chain_rd (tst_of k)
theorem site {a b d : IE} {x y z : Expr} (ha : ST Γ n X a x) (hb : SE Γ n X b y) (hd : SE Γ n X d z) : SE Γ n X (.ite a b d) (.IfExp x y z pos) := by
  refine PE.mono (pe_ifExp ha hb hd) fun σ H Q ⟨ρ, h, env, S, o⟩ => ?_
  unfold ev evE at o
  refine ⟨ρ, h, env, S, o.bind.mono fun t h1 o1 => ?_⟩
  split at o1
  · exact ⟨true, rfl, fun ρ1 H1 n1 => iteT ⟨ρ1, h1, env, S.next n1, o1.mono fun _ _ k => k.pre n1⟩⟩
  · exact ⟨false, rfl, fun ρ1 H1 n1 => iteF ⟨ρ1, h1, env, S.next n1, o1.mono fun _ _ k => k.pre n1⟩⟩
  · exact o1.elim
/-! and, or -/
abbrev SAnd (Γ : Gm) (n : Nat) (X : Cx) (cs : List IE) (es : List Expr) : Prop := ∀ pos, PE X (.BoolOp .And es pos) (RdE Γ (evAnd Γ.P (run Γ.P n) cs)) ∧ PW X (.BoolOp .And es pos) (RdT Γ (evAnd Γ.P (run Γ.P n) cs))
abbrev SOr (Γ : Gm) (n : Nat) (X : Cx) (cs : List IE) (es : List Expr) : Prop := ∀ pos, PE X (.BoolOp .Or es pos) (RdE Γ (evOr Γ.P (run Γ.P n) cs)) ∧ PW X (.BoolOp .Or es pos) (RdT Γ (evOr Γ.P (run Γ.P n) cs))
theorem sand1 {a : IE} {x : Expr} (ha : SE Γ n X a x) (ta : ST Γ n X a x) : SAnd Γ n X [a] [x] := fun pos =>
  ⟨PE.mono (pe_one ha) fun σ H Q q => by simpa only [evAnd] using q, PW.mono (pw_and1 ta) fun σ H Q q => by simpa only [evAnd] using q⟩
theorem sor1 {a : IE} {x : Expr} (ha : SE Γ n X a x) (ta : ST Γ n X a x) : SOr Γ n X [a] [x] := fun pos =>
  ⟨PE.mono (pe_one ha) fun σ H Q q => by simpa only [evOr] using q, PW.mono (pw_or1 ta) fun σ H Q q => by simpa only [evOr] using q⟩
theorem sand2 {a b : IE} {cs : List IE} {x y : Expr} {es : List Expr} (ha : SE Γ n X a x) (ta : ST Γ n X a x) (r : SAnd Γ n X (b :: cs) (y :: es)) : SAnd Γ n X (a :: b :: cs) (x :: y :: es) := fun pos => by
  refine ⟨PE.mono (pe_and ha (r pos).1) fun σ H Q ⟨ρ, h, env, S, o⟩ => ?_, PW.mono (pw_and ta (r pos).2) fun σ H Q ⟨ρ, h, env, S, o⟩ => ?_⟩
  · rw [evAnd] at o
    refine ⟨ρ, h, env, S, o.bind.mono fun t h1 o1 ρ1 v H1 n1 r1 => ?_⟩
    split at o1
    · cases r1; exact ⟨true, rfl, iteT ⟨ρ1, h1, env, S.next n1, o1.mono fun _ _ k => k.pre n1⟩⟩
    · cases r1; exact ⟨false, rfl, iteF (fin_bool n1.hr (Fin1.pre n1 o1))⟩
    · exact o1.elim
  · rw [evAnd] at o
    refine ⟨ρ, h, env, S, o.bind.mono fun t h1 o1 => ?_⟩
    split at o1
    · exact ⟨true, rfl, fun ρ1 H1 n1 => iteT ⟨ρ1, h1, env, S.next n1, o1.mono fun _ _ ⟨b, e, k⟩ => ⟨b, e, fun ρ2 H2 n2 => k ρ2 H2 (n1.trans n2)⟩⟩⟩
    · exact ⟨false, rfl, fun ρ1 H1 n1 => by
        refine iteF ?_
        obtain ⟨b, e, k⟩ := o1
        cases e
        exact k ρ1 H1 n1⟩
    · exact o1.elim
theorem sor2 {a b : IE} {cs : List IE} {x y : Expr} {es : List Expr} (ha : SE Γ n X a x) (ta : ST Γ n X a x) (r : SOr Γ n X (b :: cs) (y :: es)) : SOr Γ n X (a :: b :: cs) (x :: y :: es) := fun pos => by
  refine ⟨PE.mono (pe_or ha (r pos).1) fun σ H Q ⟨ρ, h, env, S, o⟩ => ?_, PW.mono (pw_or ta (r pos).2) fun σ H Q ⟨ρ, h, env, S, o⟩ => ?_⟩
  · rw [evOr] at o
    refine ⟨ρ, h, env, S, o.bind.mono fun t h1 o1 ρ1 v H1 n1 r1 => ?_⟩
    split at o1
    · cases r1; exact ⟨false, rfl, iteF ⟨ρ1, h1, env, S.next n1, o1.mono fun _ _ k => k.pre n1⟩⟩
    · cases r1; exact ⟨true, rfl, iteT (fin_bool n1.hr (Fin1.pre n1 o1))⟩
    · exact o1.elim
  · rw [evOr] at o
    refine ⟨ρ, h, env, S, o.bind.mono fun t h1 o1 => ?_⟩
    split at o1
    · exact ⟨false, rfl, fun ρ1 H1 n1 => iteF ⟨ρ1, h1, env, S.next n1, o1.mono fun _ _ ⟨b, e, k⟩ => ⟨b, e, fun ρ2 H2 n2 => k ρ2 H2 (n1.trans n2)⟩⟩⟩
    · exact ⟨true, rfl, fun ρ1 H1 n1 => by
        refine iteT ?_
        obtain ⟨b, e, k⟩ := o1
        cases e
        exact k ρ1 H1 n1⟩
    · exact o1.elim
/-! ### rows of expressions -/
abbrev SA (Γ : Gm) (n : Nat) (X : Cx) (cs : List IE) (es : List Expr) : Prop := PA X es (RdA Γ (evEs Γ.P (run Γ.P n) cs))
theorem sa_nil : SA Γ n X [] [] := PA.mono pa_nil fun σ H Q ⟨ρ, h, env, S, o⟩ => by rw [evEs] at o; exact o ρ [] H (Nxt.refl S.hr) .nil
theorem evEs_cons {a : IE} {cs : List IE} (ha : ∀ b, a ≠ .star b) : evEs Γ.P (run Γ.P n) (a :: cs) = fun env h => (ev Γ n a env h).bind fun d h1 => (evEs Γ.P (run Γ.P n) cs env h1).bind fun ds h2 => .ok (d :: ds) h2 := by
  funext env h
  cases a <;> first | rfl | (exact absurd rfl (ha _))
theorem sa_cons {a : IE} {x : Expr} {cs : List IE} {es : List Expr} (hn : ∀ b, a ≠ .star b) (hx : isStar x = false) (ha : SE Γ n X a x) (r : SA Γ n X cs es) : SA Γ n X (a :: cs) (x :: es) := by
  refine PA.mono (pa_cons ha r (star_each hx)) fun σ H Q ⟨ρ, h, env, S, o⟩ => ?_
  rw [evEs_cons hn] at o
  exact ⟨ρ, h, env, S, o.bind.mono fun d h1 o1 ρ1 v H1 n1 r1 => ⟨ρ1, h1, env, S.next n1, o1.bind.mono fun ds h2 o2 ρ2 vs H2 n2 r2 => o2 ρ2 _ H2 (n1.trans n2) (.cons (n2.rep r1) r2)⟩⟩
theorem sa_star (c : Cxt Γ fd n N X) {a : IE} {x : Expr} {p : Pos} {cs : List IE} {es : List Expr} (ha : SE Γ n X a x) (r : SA Γ n X cs es) : SA Γ n X (.star a :: cs) (.Starred x p :: es) := by
  refine PA.mono (StX.pa_star ha r) fun σ H Q ⟨ρ, h, env, S, o⟩ => ?_
  rw [evEs] at o
  refine ⟨ρ, h, env, S, o.bind.mono fun d h1 o1 ρ1 v H1 n1 r1 => ?_⟩
  split at o1
  · rename_i xs e
    obtain ⟨a, vs, rfl, t, rr⟩ := seqOf_ok n1.hr r1 e
    rw [← c.eK] at t
    exact ⟨a, vs, rfl, t.symm, ρ1, h1, env, S.next n1, o1.bind.mono fun ds h2 o2 ρ2 ws H2 n2 r2 => o2 ρ2 _ H2 (n1.trans n2) ((n2.reps rr).append r2)⟩
  · exact o1.elim
theorem stup {cs : List IE} {es : List Expr} {k : Nat} (r : SA Γ n X cs es) : SE Γ n X (.tup cs) (.Tuple es k pos) := by
  refine PE.mono (pe_tup r) fun σ H Q ⟨ρ, h, env, S, o⟩ => ?_
  unfold ev evE at o
  refine ⟨ρ, h, env, S, o.bind.mono fun ds h1 o1 ρ1 vs H1 n1 r1 => ?_⟩
  obtain ⟨g, o1⟩ := o1.guard
  exact ⟨by rw [r1.length]; exact of_decide_eq_true g, fun p hp => tup_ok n1.hr r1 (Fin1.pre n1 o1) hp⟩
theorem slst {m : Bool} {cs : List IE} {es : List Expr} (r : SA Γ n X cs es) : SE Γ n X (.lst m cs) (.List es pos) := by
  refine PE.mono (pe_lst r) fun σ H Q ⟨ρ, h, env, S, o⟩ => ?_
  unfold ev evE at o
  exact ⟨ρ, h, env, S, o.bind.mono fun ds h1 o1 ρ1 vs H1 n1 r1 => mkL_ok n1.hr r1 (o1.mono fun _ _ k => k.pre n1)⟩
/-! ### slices -/
abbrev SO (Γ : Gm) (n : Nat) (X : Cx) (c : Option IE) (e : Option Expr) : Prop := PO X e fun σ H Q => ∃ ρ h env, StR Γ ρ h H env σ ∧ okR (evO Γ.P (run Γ.P n) c env h) fun i h' => ∀ ρ' H', Nxt Γ ρ h H ρ' h' H' → Q i H'
theorem PO.mono {e : Option Expr} {t t' : TO} (p : PO X e t) (m : ∀ σ H Q, t' σ H Q → t σ H Q) : PO X e t' := ⟨fun pins s σ H Q I q => p.run pins s σ H Q I (m σ H Q q)⟩
theorem so_none : SO Γ n X none none := PO.mono po_none fun σ H Q ⟨ρ, h, env, S, o⟩ => by rw [evO] at o; exact o ρ H (Nxt.refl S.hr)
theorem so_some {a : IE} {x : Expr} (ha : SE Γ n X a x) : SO Γ n X (some a) (some x) := by
  refine PO.mono (po_some ha) fun σ H Q ⟨ρ, h, env, S, o⟩ => ?_
  rw [evO] at o
  refine ⟨ρ, h, env, S, o.bind.mono fun d h1 o1 ρ1 v H1 n1 r1 => ?_⟩
  split at o1
  · cases r1; exact ⟨_, rfl, o1 ρ1 H1 n1⟩
  · exact o1.elim
theorem sslc (c : Cxt Γ fd n N X) {a : IE} {x : Expr} {lo hi : Option IE} {l u : Option Expr} {p2 : Pos} (ha : SE Γ n X a x) (hl : SO Γ n X lo l) (hu : SO Γ n X hi u) : SE Γ n X (.slc a lo hi) (.Subscript x (.Slice l u none p2) pos) := by
  refine PE.mono (pe_slice (slc_ok c.eK) ha hl hu) fun σ H Q ⟨ρ, h, env, S, o⟩ => ?_
  unfold ev evE at o
  exact ⟨ρ, h, env, S, o.bind.mono fun d h1 o1 ρ1 v H1 n1 r1 => ⟨ρ1, h1, env, S.next n1, o1.bind.mono fun i h2 o2 ρ2 H2 n2 => ⟨ρ2, h2, env, (S.next n1).next n2, o2.bind.mono fun j h3 o3 ρ3 H3 n3 =>
    ⟨ρ3, h3, d, n3.hr, n3.rep (n2.rep r1), o3.mono fun _ _ k => k.pre (n1.trans (n2.trans n3))⟩⟩⟩⟩
theorem srev (c : Cxt Γ fd n N X) {a : IE} {x : Expr} {k : Nat} {p1 p2 p3 : Pos} (ha : SE Γ n X a x) : SE Γ n X (.rev a) (.Subscript x (.Slice none none (some (.UnaryOp .USub (.Constant (.int 1) k p1) p2)) p3) pos) := by
  refine PE.mono (pe_revL ha) fun σ H Q ⟨ρ, h, env, S, o⟩ => ?_
  unfold ev evE at o
  refine ⟨ρ, h, env, S, o.bind.mono fun d h1 o1 ρ1 v H1 n1 r1 => ?_⟩
  split at o1
  · rename_i xs e
    obtain ⟨a, vs, rfl, t, rr⟩ := lstOf_ok n1.hr r1 e
    exact ⟨a, vs, rfl, SqL.of t, fun p hp => lst_ok n1.hr rr.reverse (Fin1.pre n1 o1) hp⟩
  · exact o1.elim
end
end PY
end
section
set_option Elab.async false
set_option autoImplicit false
set_option linter.all false
set_option maxRecDepth 100000
/-! Calls of one's own defs, of classes. -/
namespace PY
open PySem PySem.Spec PyProof.Rows L2
variable {Γ : Gm} {ρ ρ' ρ'' : List Addr} {h h' h'' : Hh} {H H' H'' : Hp}
section
variable {fd : Nat → FuncData} {n : Nat} {N : List Str} {X : Cx}
theorem code_callM {A' : Around} {σ : St} {H : Hp} {s : Shared} {f : Nat} {ds kd : List D} {ks : List Str} {vs zs : List V} {us ws : List Value} {Q : VK} (c : Cxt Γ fd n N X) (fx : Facts Γ fd) (e0 : Env0 X.prog X.w X.K X.mg X.base A' X.stack s H) (g : A'.guards = some []) (hr : Room (3 * n) A')
    (KX : X.K.In s.heap) (rv : Vals vs us) (rz : Vals zs ws) (hp : HpR Γ ρ H h) (r : RepsS Γ ρ h H ds vs) (r2 : RepsS Γ ρ h H kd zs) (lk : kd.length = ks.length)
    (o : okR (callM Γ.P (run Γ.P n) f ds (ks.zip kd) h) (Fin1 Γ ρ h H Q)) : codeAny (model X.prog X.w) A' (.call (.ref (Γ.fa f)) ⟨us, ks.zip ws⟩) (CR CX0 X.stack X.prog X.w H s Q E0) s := by
  unfold callM at o
  split at o
  · rename_i F e
    split at o
    · rename_i ful eb
      obtain ⟨F', e', l⟩ := run_len o
      rw [e] at e'; cases e'
      have G := c.fns Γ.hid f F e
      rw [← c.eK, ← c.eMg] at G
      have KI : Γ.K.In s.heap := by rw [← c.eK]; exact KX
      obtain ⟨gg, dv, dV, hd, hD, e1, hb, hv, hR⟩ := (fx.fn f F e).bindK s us ws vs zs ks ds kd ful KI (by rw [← rv.length, r.length]) (by rw [← rz.length, r2.length, lk]) lk eb
      have rr := hR ρ (Lv Γ ρ h) H r r2
      exact G.run A' X.stack s H ⟨us, ks.zip ws⟩ _ _ Q g hr e0 hb (by rw [rr.length, l]) (hv rv rz) ⟨ρ, h, ful, hp, rr, o⟩
    · exact o.elim
  · exact o.elim
theorem run_callM {A' : Around} {pins : List (Addr × Obj)} {σ : St} {H : Hp} {s : Shared} {f : Nat} {ds kd : List D} {ks : List Str} {vs zs : List V} {us ws : List Value} {Q : VK} {E : Value → Shared → Prop} (c : Cxt Γ fd n N X) (fx : Facts Γ fd) (hf : A'.frames = X.A.frames) (g : A'.guards = some []) (hr : Room (3 * n) A')
    (I : Inv X pins σ H s) (rv : Vals vs us) (rz : Vals zs ws) (hp : HpR Γ ρ H h) (r : RepsS Γ ρ h H ds vs) (r2 : RepsS Γ ρ h H kd zs) (lk : kd.length = ks.length)
    (o : okR (callM Γ.P (run Γ.P n) f ds (ks.zip kd) h) (Fin1 Γ ρ h H Q)) : wpAny (model X.prog X.w) A' (PySem.call (.ref (Γ.fa f)) us (ks.zip ws)) (EP X pins σ Q) E s := by
  have e := I.env0
  have e0 : Env0 X.prog X.w X.K X.mg X.base A' X.stack s H := ⟨hf.trans e.frames, e.mod, e.bs, e.bsz, e.funs, e.frf, e.hok, e.bare⟩
  refine wpAny_call (codeAny_mono (code_callM (σ := σ) c fx e0 g hr I.kIn rv rz hp r r2 lk o) fun res s' z => ?_)
  match res, z with
  | .ok (.ret u), z => exact I.after z
  | .ok .next, z => exact z.elim
  | .ok .brk, z => exact z.elim
  | .ok .cont, z => exact z.elim
  | .error e, z => exact z.elim
theorem run_makeM {pins : List (Addr × Obj)} {σ : St} {H : Hp} {s : Shared} {k : Nat} {ds kd : List D} {ks : List Str} {vs zs : List V} {us ws : List Value} {Q : VK} {E : Value → Shared → Prop} (c : Cxt Γ fd n N X) (fx : Facts Γ fd)
    (I : Inv X pins σ H s) (rv : Vals vs us) (rz : Vals zs ws) (hp : HpR Γ ρ H h) (r : RepsS Γ ρ h H ds vs) (r2 : RepsS Γ ρ h H kd zs) (lk : kd.length = ks.length)
    (o : okR (makeM Γ.P (run Γ.P n) k ds (ks.zip kd) h) (Fin1 Γ ρ h H Q)) : wpAny (model X.prog X.w) X.A (PySem.call (.ref (Γ.ca k)) us (ks.zip ws)) (EP X pins σ Q) E s := by
  unfold makeM at o
  split at o
  · rename_i C ec
    have M := (fx.cls k C ec).mak
    rw [← c.eK] at M
    have hx : H (s.heap.objs.size + 1) = none := I.hok.fresh (Nat.le_succ _)
    have hdx : H s.heap.objs.size = none := I.hok.fresh (Nat.le_refl _)
    have ne : s.heap.objs.size ≠ s.heap.objs.size + 1 := Nat.ne_of_lt (Nat.lt_succ_self _)
    have n1 := Nxt.lay (o := .own (s.heap.objs.size + 1)) hp hdx
    have hx1 : (upd H s.heap.objs.size (.own (s.heap.objs.size + 1))) (s.heap.objs.size + 1) = none := by rw [upd_ne ne.symm]; exact hx
    have n2 := Nxt.newC (o := .ins k []) (u := .ins (Γ.ca k) s.heap.objs.size []) n1.hr hx1 ⟨C, s.heap.objs.size, [], ec, by rw [upd_same, List.zip_nil_right], Nat.zero_le _, .nil⟩
    have nn := n1.trans n2
    have rs : RepS Γ (ρ ++ [s.heap.objs.size + 1]) (h ++ [.ins k []]) (upd (upd H s.heap.objs.size (.own (s.heap.objs.size + 1))) (s.heap.objs.size + 1) (.ins (Γ.ca k) s.heap.objs.size [])) (.ref h.length) (.ref (s.heap.objs.size + 1)) := .ref (by rw [← hp.len]; simp)
    have I2 := Inv.made (C := Γ.ca k) I
    have rm : Room (3 * n + 1) X.A := c.room.mono (by omega)
    refine wpAny_call (make_map (f := Γ.fa C.init) I.kIn M.makes M.init (beq_iff_eq.mp M.fn) (codeAny_mono (code_callM (σ := σ) (Q := fun v H3 => v = .non ∧ Q (.ref (s.heap.objs.size + 1)) H3) c fx (I2.env0.make (Γ.ca k) us (ks.zip ws)) c.g (rm.make _ _ _)
      I2.kIn (.cons (show RelV (V.ref (s.heap.objs.size + 1)) (Value.ref (s.heap.objs.size + 1)) from rfl) rv) rz nn.hr (.cons rs (nn.reps r)) (nn.reps r2) lk (o.bind.mono fun r1 h1 o1 ρ3 v H3 n3 rv3 => ?_)) fun r s' hq' => ?_))
    · split at o1
      · rename_i k' fs e
        cases rv3
        refine ⟨rfl, ?_⟩
        have ex : ρ3[h.length]? = some (s.heap.objs.size + 1) := by
          obtain ⟨t, et⟩ := n3.pre
          rw [et, ← hp.len]; simp
        split at o1
        · obtain ⟨g, o5⟩ := o1.guard
          simp only [Bool.and_eq_true, beq_iff_eq] at g
          obtain ⟨⟨⟨ek, l1⟩, kp⟩, _⟩ := g
          subst ek
          refine o5 ρ (.ref (s.heap.objs.size + 1)) H3 (Nxt.trim hp (nn.trans n3) kp) ?_
          obtain ⟨C', dx', vs', c1, c2, c3, c4⟩ := n3.hr.ins ex e
          obtain ⟨t, et⟩ := (nn.trans n3).pre
          have etk : ρ3.take h.length = ρ := by rw [et, ← hp.len]; simp
          have lv : ∀ a, Lv Γ ρ (h1.take h.length) a → Lv Γ ρ3 h1 a := fun a z => by
            have z' : Lv Γ (ρ3.take h.length) (h1.take h.length) a := by rw [etk]; exact z
            exact z'.take
          refine .inst c1 c2 (fun z => ?_) c3 ?_
          · rcases z with z | ⟨i, w, q1, q2, q3⟩
            · obtain ⟨w, q⟩ := hp.hid _ z
              rw [hx] at q; cases q
            obtain ⟨w, q⟩ := hp.trk i _ q1
            rw [hx] at q; cases q
          · have := Reps.cut (n := h.length) (H' := H3) (L' := Lv Γ ρ (h1.take h.length)) (fun b w e nl => ⟨e, fun z => nl (lv b z)⟩) c4 l1
            rw [etk] at this; exact this
        · exact o1 ρ3 (.ref (s.heap.objs.size + 1)) H3 (nn.trans n3) (.ref ex)
      · exact o1.elim
    · cases r with
      | error e => exact hq'.elim
      | ok fl =>
        cases fl with
        | ret u =>
          obtain ⟨v, H', I3, rv, ev, q3⟩ := I2.after hq'
          subst ev
          exact ⟨rv, ⟨V.ref (s.heap.objs.size + 1), H', I3, rfl, q3⟩⟩
        | next => exact False.elim hq'
        | brk => exact False.elim hq'
        | cont => exact False.elim hq'
  · exact o.elim

/-! ### keywords -/
def kv (Γ : Gm) (n : Nat) (ks : List (Str × IE)) : En → Hh → Res (List D) := fun env h => (evKs Γ.P (run Γ.P n) ks env h).bind fun kd h1 => .ok (kd.map (·.2)) h1
theorem evKs_keys {P : Prg} {T : Tab} : ∀ {ks : List (Str × IE)} {env : En} {h h' : Hh} {kd : List (Str × D)}, evKs P T ks env h = .ok kd h' → kd.map (·.1) = ks.map (·.1)
  | [], env, h, h', kd, e => by rw [evKs] at e; cases e; rfl
  | (k, a) :: r, env, h, h', kd, e => by
    rw [evKs] at e
    cases e1 : evE P T a env h with
    | ok d h1 =>
      rw [e1] at e
      simp only [Res.bind] at e
      cases e2 : evKs P T r env h1 with
      | ok ds h2 =>
        rw [e2] at e
        simp only at e
        cases e
        simp [evKs_keys e2]
      | ex _ _ => rw [e2] at e; cases e
      | stuck => rw [e2] at e; cases e
    | ex _ _ => rw [e1] at e; cases e
    | stuck => rw [e1] at e; cases e
theorem zip_back : ∀ (kd : List (Str × D)), (kd.map (·.1)).zip (kd.map (·.2)) = kd
  | [] => rfl
  | _ :: r => by simp only [List.map_cons, List.zip_cons_cons, zip_back r]
structure SK (Γ : Gm) (n : Nat) (X : Cx) (ks : List (Str × IE)) (kws : List Keyword) : Prop where
  run : PK X kws (RdA Γ (kv Γ n ks))
  nm : kws.map (·.arg) = (ks.map (·.1)).map some
theorem PK.mono {X : Cx} {e : List Keyword} {t t' : TA} (p : PK X e t) (m : ∀ σ H Q, t' σ H Q → t σ H Q) : PK X e t' := ⟨fun pos pins s σ H Q I q => p.run pos pins s σ H Q I (m σ H Q q)⟩
theorem sk_nil : SK Γ n X [] [] := ⟨PK.mono pk_nil fun σ H Q ⟨ρ, h, env, S, o⟩ => by unfold kv at o; rw [evKs] at o; exact o ρ [] H (Nxt.refl S.hr) .nil, rfl⟩
theorem sk_cons {m : Str} {a : IE} {x : Expr} {p : Pos} {ks : List (Str × IE)} {kws : List Keyword} (ha : SE Γ n X a x) (r : SK Γ n X ks kws) : SK Γ n X ((m, a) :: ks) (⟨some m, x, p⟩ :: kws) := by
  refine ⟨PK.mono (pk_cons ha r.run) fun σ H Q ⟨ρ, h, env, S, o⟩ => ?_, by simp [r.nm]⟩
  unfold kv at o
  rw [evKs] at o
  exact ⟨ρ, h, env, S, o.bind.bind.mono fun d h1 o1 ρ1 v H1 n1 r1 => ⟨ρ1, h1, env, S.next n1, by
    unfold kv
    cases e : evKs Γ.P (run Γ.P n) ks env h1 with
    | ok ds h2 =>
      rw [e] at o1
      exact fun ρ2 vs H2 n2 r2 => o1 ρ2 _ H2 (n1.trans n2) (.cons (n2.rep r1) r2)
    | ex _ _ => rw [e] at o1; exact o1
    | stuck => rw [e] at o1; exact o1⟩⟩
/-- the values of a call: the reading -/
theorem RdA.call {cs : List IE} {ks : List (Str × IE)} {f : List D → List (Str × D) → Hh → Res D} {ρ : List Addr} {h : Hh} {env : En} {σ : St} {H : Hp} {Q : VK} (S : StR Γ ρ h H env σ)
    (o : okR ((evEs Γ.P (run Γ.P n) cs env h).bind fun ds h1 => (evKs Γ.P (run Γ.P n) ks env h1).bind fun kd h2 => f ds kd h2) (Fin1 Γ ρ h H Q)) :
    RdA Γ (evEs Γ.P (run Γ.P n) cs) σ H fun vs H1 => RdA Γ (kv Γ n ks) σ H1 fun zs H2 => ∃ ρ2 h2 ds kd, Nxt Γ ρ h H ρ2 h2 H2 ∧ RepsS Γ ρ2 h2 H2 ds vs ∧ RepsS Γ ρ2 h2 H2 kd zs ∧ kd.length = (ks.map (·.1)).length ∧ okR (f ds ((ks.map (·.1)).zip kd) h2) (Fin1 Γ ρ2 h2 H2 Q) := by
  refine ⟨ρ, h, env, S, o.bind.mono fun ds h1 o1 ρ1 vs H1 n1 r1 => ⟨ρ1, h1, env, S.next n1, ?_⟩⟩
  unfold kv
  cases e : evKs Γ.P (run Γ.P n) ks env h1 with
  | ok kd h2 =>
    rw [e] at o1
    intro ρ2 zs H2 n2 r2
    refine ⟨ρ2, h2, ds, kd.map (·.2), n1.trans n2, n2.reps r1, r2, by rw [← evKs_keys e]; simp, ?_⟩
    rw [← evKs_keys e, zip_back]
    exact (show okR (f ds kd h2) _ from o1).mono fun _ _ q => q.pre (n1.trans n2)
  | ex _ _ => rw [e] at o1; exact o1
  | stuck => rw [e] at o1; exact o1
/-- a call whose callee is at hand -/
theorem call_w {fv : Value} {first : List Value} {es : List Expr} {kws : List Keyword} {cs : List IE} {ks : List (Str × IE)} {pins : List (Addr × Obj)} {σ : St} {H : Hp} {s : Shared} {Q : Value → Shared → Prop} {pos : Pos} {R : List V → List V → Hp → Prop}
    (hs : es.all (!isStar ·) = true) (h0 : es = [] → cs = []) (he : SA Γ n X cs es) (hk : SK Γ n X ks kws) (kp : PySem.W.keepIn X.K fv = true) (I : Inv X pins σ H s) (o : RdA Γ (evEs Γ.P (run Γ.P n) cs) σ H fun vs H1 => RdA Γ (kv Γ n ks) σ H1 fun zs H2 => R vs zs H2)
    (fin : ∀ (us ws : List Value) (vs zs : List V) (s2 : Shared) (H2 : Hp), Inv X pins σ H2 s2 → Vals vs us → Vals zs ws → R vs zs H2 → wpAny (model X.prog X.w) X.A (PySem.call fv (first ++ us) ((ks.map (·.1)).zip ws)) Q X.xe s2) :
    wpAny (model X.prog X.w) X.A (callWith pos fv first (backTo pos (starEach es X.env)) (backToKw pos (keywordEach kws X.env))) Q X.xe s := by
  obtain ⟨k1, k2, k3, k4⟩ := kw_some (pos := pos) (env := X.env) hk.nm
  cases es with
  | nil =>
    cases h0 rfl
    have o2 : RdA Γ (kv Γ n ks) σ H fun zs H2 => R [] zs H2 := by
      obtain ⟨ρ, h, env, S, o⟩ := o
      rw [evEs] at o
      exact o ρ [] H (Nxt.refl S.hr) .nil
    cases kws with
    | nil =>
      cases ks with
      | nil =>
        have o3 : R [] [] H := by
          obtain ⟨ρ, h, env, S, o⟩ := o2
          unfold kv at o
          rw [evKs] at o
          exact o ρ [] H (Nxt.refl S.hr) .nil
        exact PySem.W.callWith_K0 I.kIn kp (fin [] [] [] [] s H I .nil .nil o3)
      | cons _ _ => have := hk.nm; simp at this
    | cons q r =>
      refine PySem.W.callWith_KW0 (h₀ := X.base) I.ok.mod.kin kp k1 (thn (hk.run.run pos pins s σ H _ I o2) fun ws s2 ⟨zs, H2, I2, rz, q2⟩ => ⟨I2.kIn, ?_⟩) (by rw [k3, Bool.or_false]; rfl)
      rw [k2]
      exact fin [] ws [] zs s2 H2 I2 .nil rz q2
  | cons e es =>
    have hs' := hs
    simp only [List.all_cons, Bool.and_eq_true, Bool.not_eq_true'] at hs'
    have he0 := star_each (env := X.env) (es := es) hs'.1
    have ha := he.run pos pins s σ H _ I o
    cases kws with
    | nil =>
      cases ks with
      | nil =>
        refine PySem.W.callWith_K (h₀ := X.base) I.ok.mod.kin kp (thn ha fun us s1 ⟨vs, H1, I1, r, q⟩ => ⟨I1.kIn, ?_⟩) he0 (star_any hs'.2)
        have o3 : R vs [] H1 := by
          obtain ⟨ρ, h, env, S, o⟩ := q
          unfold kv at o
          rw [evKs] at o
          exact o ρ [] H1 (Nxt.refl S.hr) .nil
        exact fin us [] vs [] s1 H1 I1 r .nil o3
      | cons _ _ => have := hk.nm; simp at this
    | cons q0 r0 =>
      refine PySem.W.callWith_KW (h₀ := X.base) I.ok.mod.kin kp k1 (thn ha fun us s1 ⟨vs, H1, I1, r, q⟩ => ?_) (by rw [k3, Bool.or_false]; exact star_any hs) he0
      refine thn (hk.run.run pos pins s1 σ H1 _ I1 q) fun ws s2 ⟨zs, H2, I2, rz, q2⟩ => ⟨I2.kIn, ?_⟩
      rw [k2]
      exact fin us ws vs zs s2 H2 I2 r rz q2
/-! ### the rules -/
variable {pos p apos : Pos} {es : List Expr} {kws : List Keyword} {cs : List IE} {ks : List (Str × IE)} {x : Str}
theorem scall (c : Cxt Γ fd n N X) (fx : Facts Γ fd) {f : Nat} {F : Fn} (h1 : globB X.env.scope x = true) (h2 : Γ.P.funs[f]? = some F) (h3 : F.cl = none) (h4 : F.name = x) (hs : es.all (!isStar ·) = true) (h0 : es = [] → cs = []) (he : SA Γ n X cs es) (hk : SK Γ n X ks kws) :
    SE Γ n X (.call f cs ks) (.Call (.Name x p) es kws pos) := by
  subst h4
  refine ⟨fun pins s σ H Q I ⟨ρ, h, env, S, o⟩ => ?_⟩
  unfold ev evE at o
  obtain ⟨g1, g2⟩ := glob_of h1
  have F0 := fx.fn f F h2
  refine wpAny_Call_Name_kw (ld_glob I g1 (by rw [c.eMg]; exact F0.glob h3) ?_ g2)
  refine call_w hs h0 he hk (by rw [c.eK]; exact F0.keep) I (RdA.call S o) fun us ws vs zs s2 H2 I2 rv rz ⟨ρ2, h2, ds, kd, n2, r1, r2, l, o2⟩ => ?_
  exact run_callM c fx rfl c.g (c.room.mono (by omega)) I2 rv rz n2.hr r1 r2 l o2
theorem smake (c : Cxt Γ fd n N X) (fx : Facts Γ fd) {k : Nat} {C : Cl} (h1 : globB X.env.scope x = true) (h2 : Γ.P.clss[k]? = some C) (h4 : C.name = x) (hs : es.all (!isStar ·) = true) (h0 : es = [] → cs = []) (he : SA Γ n X cs es) (hk : SK Γ n X ks kws) :
    SE Γ n X (.make k cs ks) (.Call (.Name x p) es kws pos) := by
  subst h4
  refine ⟨fun pins s σ H Q I ⟨ρ, h, env, S, o⟩ => ?_⟩
  unfold ev evE at o
  obtain ⟨g1, g2⟩ := glob_of h1
  have F0 := fx.cls k C h2
  refine wpAny_Call_Name_kw (ld_glob I g1 (by rw [c.eMg]; exact F0.glob) ?_ g2)
  refine call_w hs h0 he hk (by rw [c.eK]; exact F0.mak.kp) I (RdA.call S o) fun us ws vs zs s2 H2 I2 rv rz ⟨ρ2, h2, ds, kd, n2, r1, r2, l, o2⟩ => ?_
  exact run_makeM c fx I2 rv rz n2.hr r1 r2 l o2
theorem smkv (c : Cxt Γ fd n N X) (fx : Facts Γ fd) {i : Nat} (h1 : N[i]? = some x) (h2 : visB X.env.scope x = true) (h3 : x ≠ "__debug__") (h4 : x ≠ "__classdict__") (hs : es.all (!isStar ·) = true) (h0 : es = [] → cs = []) (he : SA Γ n X cs es) (hk : SK Γ n X ks kws) :
    SE Γ n X (.mkv i cs ks) (.Call (.Name x p) es kws pos) := by
  refine ⟨fun pins s σ H Q I ⟨ρ, h, env, S, o⟩ => ?_⟩
  unfold ev evE at o
  split at o
  · rename_i k e
    obtain ⟨v, e1, r⟩ := S.get i _ (getV_of e)
    cases r
    have sv : PE X (.Name x p) (RdE Γ (ev Γ n (.v i))) := sv c h1 h2 h3 h4
    refine wpAny_Call_Name_kw (thn ((pe_var (pos := p) (i := i) (by rw [c.eN]; exact h1) (vis_of h2) (by simpa using h3) (by simpa using h4)).run pins s σ H (fun v H1 => v = .ref (Γ.ca k) ∧ H1 = H) I ⟨_, e1, rfl, rfl⟩) fun u s1 ⟨v, H1, I1, r1, q1⟩ => ?_)
    obtain ⟨rfl, rfl⟩ := q1
    cases r1
    cases ec : Γ.P.clss[k]? with
    | none =>
      refine (?_ : False).elim
      have := o.bind
      obtain ⟨ds, h1, _, o1⟩ := this.of
      obtain ⟨kd, h2, _, o2⟩ := o1.bind.of
      unfold makeM at o2
      rw [ec] at o2
      exact o2
    | some C =>
      refine call_w hs h0 he hk (by rw [c.eK]; exact (fx.cls k C ec).mak.kp) I1 (RdA.call S o) fun us ws vs zs s2 H2 I2 rv rz ⟨ρ2, h2, ds, kd, n2, r1, r2, l, o2⟩ => ?_
      exact run_makeM c fx I2 rv rz n2.hr r1 r2 l o2
  · exact o.elim
end
end PY
end
section
set_option Elab.async false
set_option autoImplicit false
set_option linter.all false
set_option maxRecDepth 100000
/-! Attributes, methods, the rest of the calls. -/
namespace PY
open PySem PySem.Spec PyProof.Rows L2
variable {Γ : Gm} {ρ ρ' ρ'' : List Addr} {h h' h'' : Hh} {H H' H'' : Hp}

/-! ### fields as rows -/
theorem idxOf_get {a : Nat} : ∀ {l : List Nat} {p : Nat}, l.idxOf? a = some p → l[p]? = some a
  | [], p, e => by simp [List.idxOf?] at e
  | x :: r, p, e => by
    rw [List.idxOf?_cons] at e
    split at e
    · rename_i q
      cases e
      simp at q
      simp [q]
    · obtain ⟨k, e1, rfl⟩ := Option.map_eq_some_iff.mp e
      simpa using idxOf_get e1
theorem idxOf_not {a : Nat} : ∀ {l : List Nat}, l.idxOf? a = none → a ∉ l
  | [], e => by simp
  | x :: r, e => by
    rw [List.idxOf?_cons] at e
    split at e
    · cases e
    · rename_i q
      have := idxOf_not (Option.map_eq_none_iff.mp e)
      simp at q
      simp [this]
      exact fun z => q z.symm
theorem zip_look {x : Str} {v : V} : ∀ {ns : List Str} {vs : List V} {p : Nat}, ns.Nodup → ns[p]? = some x → vs[p]? = some v → (ns.zip vs).lookup x = some v
  | [], _, _, _, e, _ => by simp at e
  | n :: ns, [], _, _, _, e => by simp at e
  | n :: ns, w :: vs, 0, _, e, e2 => by
    simp at e e2
    subst e e2
    simp [List.lookup]
  | n :: ns, w :: vs, p + 1, d, e, e2 => by
    have ne : x ≠ n := fun z => by
      subst z
      exact (List.nodup_cons.mp d).1 (List.mem_of_getElem? (by simpa using e))
    have hb : (x == n) = false := beq_eq_false_iff_ne.mpr ne
    simp only [List.zip_cons_cons, List.lookup, hb]
    exact zip_look (List.nodup_cons.mp d).2 (by simpa using e) (by simpa using e2)
theorem zip_none {x : Str} : ∀ {ns : List Str} {vs : List V}, x ∉ ns → (ns.zip vs).lookup x = none
  | [], _, _ => rfl
  | n :: ns, [], _ => rfl
  | n :: ns, w :: vs, d => by
    simp only [List.mem_cons, not_or] at d
    have hb : (x == n) = false := beq_eq_false_iff_ne.mpr d.1
    simp only [List.zip_cons_cons, List.lookup, hb]
    exact zip_none d.2
theorem zip_put {x : Str} {v : V} : ∀ {ns : List Str} {vs : List V} {p : Nat}, ns.Nodup → ns[p]? = some x → p < vs.length → putF x v (ns.zip vs) = ns.zip (vs.set p v)
  | [], _, _, _, e, _ => by simp at e
  | n :: ns, [], _, _, _, e => by simp at e
  | n :: ns, w :: vs, 0, _, e, _ => by
    simp at e
    subst e
    simp [putF]
  | n :: ns, w :: vs, p + 1, d, e, l => by
    have ne : n ≠ x := fun z => by
      subst z
      exact (List.nodup_cons.mp d).1 (List.mem_of_getElem? (by simpa using e))
    simp only [List.zip_cons_cons, putF, if_neg ne, List.set_cons_succ]
    rw [zip_put (List.nodup_cons.mp d).2 (by simpa using e) (by simpa using l)]
theorem zip_new {x : Str} {v : V} : ∀ {ns : List Str} {vs : List V}, ns.Nodup → ns[vs.length]? = some x → putF x v (ns.zip vs) = ns.zip (vs ++ [v])
  | [], _, _, e => by simp at e
  | n :: ns, [], _, e => by
    simp at e
    subst e
    simp [putF]
  | n :: ns, w :: vs, d, e => by
    have ne : n ≠ x := fun z => by
      subst z
      exact (List.nodup_cons.mp d).1 (List.mem_of_getElem? (by simpa using e))
    simp only [List.zip_cons_cons, putF, if_neg ne, List.cons_append]
    rw [zip_new (List.nodup_cons.mp d).2 (by simpa using e)]
section
variable {fd : Nat → FuncData} {n : Nat} {N : List Str} {X : Cx}
theorem prop_ok {a C dx p : Addr} {fs : List (Str × V)} {m : Str} {f : Nat} {d : D} {pins : List (Addr × Obj)} {σ : St} {H : Hp} {s : Shared} {Q : VK} {b : Bool} {E' : Value → Shared → Prop} (c : Cxt Γ fd n N X) (fx : Facts Γ fd) (I : Inv X pins σ H s) (ea : H a = some (.ins C dx fs)) (k : Cls X.K C) (hp : PropOf X.K C m p (Γ.fa f))
    (hr : HpR Γ ρ H h) (r : RepS Γ ρ h H d (.ref a)) (o : okR (run Γ.P n f [d] h) (Fin1 Γ ρ h H Q)) : wpAny (model X.prog X.w) X.A (getAttr (.ref a) m b) (EP X pins σ Q) E' s := by
  obtain ⟨mA, O, _, _, _, _⟩ := ins_get I.hok ea
  obtain ⟨od, J, _⟩ := O.look
  obtain ⟨rest, hrec⟩ := hp.rec_
  have I1 := I.tok (s.toks + 1)
  have hc : (PySem.W.clsIn X.K C).isSome = true := by
    obtain ⟨cd, hc, _⟩ := PySem.W.any_some k.hd
    rw [hc]; rfl
  obtain ⟨F, e, l⟩ := run_len o
  have G := c.fns Γ.hid f F e
  rw [← c.eK, ← c.eMg] at G
  have KI : Γ.K.In s.heap := by rw [← c.eK]; exact I.kIn
  refine PySem.W.get_bind I.kIn J (PySem.W.plainGet_of (k.get m)).1 (PySem.W.findObj_data hc hp.at_ hp.get hp.tak) (PySem.W.plainGet_of (k.get m)).2 (wpAny_call (PySem.W.prop_get (s := { s with toks := s.toks + 1 }) I.kIn hrec ?_))
  have rm : Room (3 * n + 1) X.A := c.room.mono (by omega)
  refine codeAny_mono (G.run X.A.in1 X.stack { s with toks := s.toks + 1 } H ⟨[.ref a], []⟩ [.ref a] [.ref a] Q c.g rm.in1 I1.env0.in1 ((fx.fn f F e).bind _ [.ref a] KI (by simpa using l)) (by simpa using l) (.cons rfl .nil) ⟨ρ, h, [d], hr, .cons r .nil, o⟩) fun r s' hq => ?_
  cases r with
  | error er => exact hq.elim
  | ok fl =>
    cases fl with
    | ret u =>
      obtain ⟨v, H', I3, rv, q3⟩ := I1.after hq
      show wpAny _ _ (handedOut u) _ _ _
      rw [PySem.W.handedOut_of (handed_of rv)]
      exact wpAny_pure ⟨v, H', I3, rv, q3⟩
    | next => exact False.elim hq
    | brk => exact False.elim hq
    | cont => exact False.elim hq
variable {pos p apos : Pos} {es : List Expr} {kws : List Keyword} {cs : List IE} {ks : List (Str × IE)} {y : Expr} {w : IE}
theorem sattr (c : Cxt Γ fd n N X) (fx : Facts Γ fd) {a : Nat} (hb : okBase y = true) (ho : SE Γ n X w y) : SE Γ n X (.attr a w) (.Attribute y (Γ.an a) pos) := by
  refine ⟨fun pins s σ H Q I q => ?_⟩
  have z : RdE Γ (ev Γ n w) σ H fun v H1 => RdU Γ (fun d h1 => attrM Γ.P (run Γ.P n) a d h1) v H1 Q := RdE.seq (by simpa only [ev, evE] using q)
  refine attr_of (base_of hb) (thn (ho.run pins s σ H _ I z) fun u s1 ⟨v, H1, I1, rv, ρ1, h1, d, hr, r, o⟩ => ?_)
  replace o : okR (attrM Γ.P (run Γ.P n) a d h1) (Fin1 Γ ρ1 h1 H1 Q) := o
  unfold attrM at o
  split at o
  · rename_i k fs e
    obtain ⟨C, b, dx, vs, rfl, ec, e2, l, rr⟩ := insOf_ok hr r e
    obtain rfl : u = Value.ref b := rv
    rw [ec] at o
    simp only at o
    have F := fx.cls k C ec
    split at o
    · rename_i j ej
      obtain ⟨d', e3, q'⟩ := o.opt
      obtain ⟨v', e4, r'⟩ := rr.get e3
      have ha := idxOf_get ej
      refine getattr_ok I1 e2 (by rw [c.eK]; exact F.cls) (by rw [c.eK]; exact F.noat a (List.mem_of_getElem? ha)) (zip_look F.nd (by rw [List.getElem?_map, ha]; rfl) e4) fun u s' I' ru => ⟨v', H1, I', ru, q' ρ1 v' H1 (Nxt.refl hr) r'⟩
    · split at o
      · rename_i f ef
        obtain ⟨pp, hp⟩ := F.prop a f ef
        rw [← c.eK] at hp
        exact prop_ok c fx I1 e2 (by rw [c.eK]; exact F.cls) hp hr r o
      · exact o.elim
  · exact o.elim
theorem call_form (hs : es.all (!isStar ·) = true) (hk : SK Γ n X ks kws) (hn : es.length + kws.length < 29) : methodCallForm (es.length + kws.length) (backTo pos (starEach es X.env)) (backToKw pos (keywordEach kws X.env)) = true := by
  obtain ⟨k1, k2, k3, k4⟩ := kw_some (pos := pos) (env := X.env) hk.nm
  unfold methodCallForm
  rw [k1, k4, star_all hs]
  simp only [Bool.true_and]
  refine decide_eq_true ?_
  split <;> omega
theorem call_wM {qa g : Addr} {C : Addr} {es : List Expr} {kws : List Keyword} {cs : List IE} {ks : List (Str × IE)} {pins : List (Addr × Obj)} {σ : St} {H : Hp} {s : Shared} {Q : Value → Shared → Prop} {pos : Pos} {R : List V → List V → Hp → Prop}
    (hs : es.all (!isStar ·) = true) (h0 : es = [] → cs = []) (he : SA Γ n X cs es) (hk : SK Γ n X ks kws) (hf : PySem.W.fnIn X.K g = true) (hb : X.base.get? qa = none) (I : Inv X ((qa, PySem.W.methodObj (.ref g) (.ref C)) :: pins) σ H s) (o : RdA Γ (evEs Γ.P (run Γ.P n) cs) σ H fun vs H1 => RdA Γ (kv Γ n ks) σ H1 fun zs H2 => R vs zs H2)
    (fin : ∀ (us ws : List Value) (vs zs : List V) (s2 : Shared) (H2 : Hp), Inv X ((qa, PySem.W.methodObj (.ref g) (.ref C)) :: pins) σ H2 s2 → Vals vs us → Vals zs ws → R vs zs H2 → wpAny (model X.prog X.w) X.A (PySem.call (.ref qa) us ((ks.map (·.1)).zip ws)) Q X.xe s2) :
    wpAny (model X.prog X.w) X.A (callWith pos (.ref qa) [] (backTo pos (starEach es X.env)) (backToKw pos (keywordEach kws X.env))) Q X.xe s := by
  obtain ⟨k1, k2, k3, k4⟩ := kw_some (pos := pos) (env := X.env) hk.nm
  cases es with
  | nil =>
    cases h0 rfl
    have o2 : RdA Γ (kv Γ n ks) σ H fun zs H2 => R [] zs H2 := by
      obtain ⟨ρ, h, env, S, o⟩ := o
      rw [evEs] at o
      exact o ρ [] H (Nxt.refl S.hr) .nil
    cases kws with
    | nil =>
      cases ks with
      | nil =>
        have o3 : R [] [] H := by
          obtain ⟨ρ, h, env, S, o⟩ := o2
          unfold kv at o
          rw [evKs] at o
          exact o ρ [] H (Nxt.refl S.hr) .nil
        exact PySem.W.callWith_M0 (K := X.K) (self := .ref C) ⟨ClX.pin_at I, I.kIn⟩ hf (fin [] [] [] [] s H I .nil .nil o3)
      | cons _ _ => have := hk.nm; simp at this
    | cons q r =>
      refine PySem.W.callWith_of (P := PySem.W.MethP X.K qa g (.ref C)) (by rw [k3, Bool.or_false]; rfl) (PySem.W.keeps_M hf) (PyProof.Rows.evalArgs_kw2_nil k1 (thn (hk.run.run pos _ s σ H _ I o2) fun ws s2 ⟨zs, H2, I2, rz, q2⟩ => ⟨⟨ClX.pin_at I2, I2.kIn⟩, ?_⟩))
      rw [k2]
      exact fin [] ws [] zs s2 H2 I2 .nil rz q2
  | cons e es =>
    have hs' := hs
    simp only [List.all_cons, Bool.and_eq_true, Bool.not_eq_true'] at hs'
    have he0 := star_each (env := X.env) (es := es) hs'.1
    have ha := he.run pos _ s σ H _ I o
    cases kws with
    | nil =>
      cases ks with
      | nil =>
        refine ClX.callwith_cm I hb hf (thn ha fun us s1 ⟨vs, H1, I1, r, q⟩ => ⟨⟨ClX.pin_at I1, I1.kIn⟩, ?_⟩) he0 (star_any hs'.2)
        have o3 : R vs [] H1 := by
          obtain ⟨ρ, h, env, S, o⟩ := q
          unfold kv at o
          rw [evKs] at o
          exact o ρ [] H1 (Nxt.refl S.hr) .nil
        exact fin us [] vs [] s1 H1 I1 r .nil o3
      | cons _ _ => have := hk.nm; simp at this
    | cons q0 r0 =>
      refine PySem.W.callWith_of (P := PySem.W.MethP X.K qa g (.ref C)) (by rw [k3, Bool.or_false]; exact star_any hs) (PySem.W.keeps_M hf) (PyProof.Rows.evalArgs_kw2 k1 (thn ha fun us s1 ⟨vs, H1, I1, r, q⟩ => ?_) he0)
      refine thn (hk.run.run pos _ s1 σ H1 _ I1 q) fun ws s2 ⟨zs, H2, I2, rz, q2⟩ => ⟨⟨ClX.pin_at I2, I2.kIn⟩, ?_⟩
      rw [k2]
      exact fin us ws vs zs s2 H2 I2 r rz q2
theorem smeth (c : Cxt Γ fd n N X) (fx : Facts Γ fd) {a : Nat} (hb : okBase y = true) (hl : (apos.endLine == pos.line) = true) (hn : es.length + kws.length < 29) (hs : es.all (!isStar ·) = true) (h0 : es = [] → cs = []) (ho : SE Γ n X w y) (he : SA Γ n X cs es) (hk : SK Γ n X ks kws) :
    SE Γ n X (.meth a w cs ks) (.Call (.Attribute y (Γ.an a) apos) es kws pos) := by
  refine ⟨fun pins s σ H Q I ⟨ρ, h, env, S, o⟩ => ?_⟩
  unfold ev evE at o
  have hf := call_form (pos := pos) (es := es) (kws := kws) hs hk hn
  refine PySem.W.methodCall_KW (pl := plainOf y X.env) (thn (ho.run pins s σ H (fun v H1 => ∃ ρ1 h1 d b f, Nxt Γ ρ h H ρ1 h1 H1 ∧ RepS Γ ρ1 h1 H1 d v ∧ methK Γ.P a d h1 = some (b, f) ∧
    okR ((evEs Γ.P (run Γ.P n) cs env h1).bind fun ds h2 => (evKs Γ.P (run Γ.P n) ks env h2).bind fun kd h3 => callM Γ.P (run Γ.P n) f (d :: ds) kd h3) (Fin1 Γ ρ1 h1 H1 Q)) I
    ⟨ρ, h, env, S, o.bind.mono fun d h1 o1 ρ1 v H1 n1 r1 => ?_⟩) fun u s1 ⟨v, H1, I1, rv, ρ1, h1, d, b, f, n1, r1, em, o1⟩ => ?_) (by rw [arm_eval_Call, base_of hb]; simp only [mcall_line hf hl])
  · split at o1
    · rename_i b f em
      exact ⟨ρ1, h1, d, b, f, n1, r1, em, o1.mono fun _ _ q => q.pre n1⟩
    · exact o1.elim
  have S1 := S.next n1
  have z := RdA.call S1 o1
  have shut := o1
  obtain ⟨ds0, hh2, es0, oo2⟩ := shut.bind.of
  obtain ⟨kd0, hh3, ks0, oo3⟩ := oo2.bind.of
  unfold methK at em
  split at em
  · rename_i k
    split at em
    · rename_i C ec
      obtain ⟨f', ef, e2⟩ := Option.map_eq_some_iff.mp em
      cases e2
      cases r1
      obtain rfl : u = Value.ref (Γ.ca k) := rv
      obtain ⟨mc, p, cr, cm⟩ := (fx.cls k C ec).cm a f ef
      rw [← c.eK] at cr cm
      refine ClX.getmethcm_ok I1 cr cm fun s2 I2 => ?_
      refine call_wM hs h0 he hk cm.fi (ClX.base_none I1 (Nat.le_refl _)) I2 z fun us ws vs zs s3 H3 I3 rv3 rz3 ⟨ρ2, h2, ds, kd, n2, ra, rb, lk, o3⟩ => ?_
      have rc : RepS Γ ρ2 h2 H3 (.cls k) (.ref (Γ.ca k)) := .cls k
      have e0 := I3.env0
      have rm : Room (3 * n) X.A := c.room.mono (by omega)
      have zz : wpAny (model X.prog X.w) X.A (PySem.call (.ref s1.heap.objs.size) us ((ks.map (·.1)).zip ws)) (EP X ((s1.heap.objs.size, PySem.W.methodObj (.ref (Γ.fa f)) (.ref (Γ.ca k))) :: pins) σ Q) X.xe s3 := by
        refine wpAny_call (PySem.W.method_call (ClX.pin_at I3) (codeAny_mono (code_callM (σ := σ) (us := .ref (Γ.ca k) :: us) (vs := .ref (Γ.ca k) :: vs) c fx e0 c.g rm I3.kIn (.cons rfl rv3) rz3 n2.hr (.cons rc ra) rb lk o3) fun res s' z => ?_))
        match res, z with
        | .ok (.ret u), z => exact I3.after z
        | .ok .next, z => exact z.elim
        | .ok .brk, z => exact z.elim
        | .ok .cont, z => exact z.elim
        | .error e, z => exact z.elim
      exact thn zz fun _ _ y => ClX.unpinE y
    · cases em
  · split at em
    · rename_i k fs e
      split at em
      · rename_i C ec
        obtain ⟨f', ef, e2⟩ := Option.map_eq_some_iff.mp em
        cases e2
        obtain ⟨C', b, dx, vs0, rfl, ec', e3, l, rr⟩ := insOf_ok n1.hr r1 e
        rw [ec] at ec'; cases ec'
        obtain rfl : u = Value.ref b := rv
        have F := fx.cls k C ec
        obtain ⟨m1, m2⟩ := F.meth a f ef
        rw [← c.eK] at m1
        refine getmeth_ok I1 e3 (by rw [c.eK]; exact F.cls) m1 (zip_none m2) ?_
        refine call_w hs h0 he hk m1.kp I1 z fun us ws vs zs s2 H2 I2 rv rz ⟨ρ2, h2, ds, kd, n2, ra, rb, lk, o2⟩ => ?_
        have o3 := o2
        exact run_callM (us := .ref b :: us) (vs := .ref b :: vs) c fx rfl c.g (c.room.mono (by omega)) I2 (.cons rfl rv) rz n2.hr (.cons (n2.rep r1) ra) rb lk o3
      · cases em
    · cases em
end
end PY
end
section
set_option Elab.async false
set_option autoImplicit false
set_option linter.all false
set_option maxRecDepth 100000
/-! Built-ins' calls, methods of texts and lists, isinstance, freezing. -/
namespace PY
open PySem PySem.Spec PyProof.Rows L2
variable {Γ : Gm} {ρ ρ' ρ'' : List Addr} {h h' h'' : Hh} {H H' H'' : Hp}
section
variable {fd : Nat → FuncData} {n : Nat} {N : List Str} {X : Cx} {pos p apos : Pos} {es : List Expr} {cs : List IE} {w : IE} {x y : Expr}
theorem bc_rd {m : Bool} {f : BF} {σ : St} {H : Hp} {Q : VK} (q : RdE Γ (ev Γ n (.bc m f cs)) σ H Q) : tCB (RdC Γ (bcM Γ.P (run Γ.P n) m f)) (RdA Γ (evEs Γ.P (run Γ.P n) cs)) σ H Q := RdA.seq (by simpa only [ev, evE] using q)
theorem sbc (c : Cxt Γ fd n N X) (fx : Facts Γ fd) {m : Bool} {f : BF} (h1 : globB X.env.scope (bfN f) = true) (hne : es ≠ []) (hs : es.all (!isStar ·) = true) (he : SA Γ n X cs es) : SE Γ n X (.bc m f cs) (.Call (.Name (bfN f) p) es [] pos) := by
  obtain ⟨g1, g2⟩ := glob_of h1
  obtain ⟨e, r, rfl⟩ := List.exists_cons_of_ne_nil hne
  have hs' := hs
  simp only [List.all_cons, Bool.and_eq_true, Bool.not_eq_true'] at hs'
  have he0 := star_each (env := X.env) (es := r) hs'.1
  have hm : X.mg (bfN f) = none := by rw [c.eMg]; exact fx.free _ (by cases f <;> decide)
  have hc := blt_ok (m := m) (f := f) c fx
  cases f <;> first
    | exact PE.mono (pe_callB hc g1 hm (by decide +kernel) he (by decide) g2 he0 (star_any hs'.2)) fun σ H Q q => bc_rd q
    | exact PE.mono (pe_callTy hc g1 hm (by decide +kernel) he (by decide) g2 he0 (star_any hs'.2)) fun σ H Q q => bc_rd q

/-! ### methods -/
def RdM (Γ : Gm) (m : Bool) (f : BM) : V → List V → Hp → VK → Prop := fun x xs H Q => ∃ ρ h d ds, HpR Γ ρ H h ∧ RepS Γ ρ h H d x ∧ RepsS Γ ρ h H ds xs ∧ okR (bmM m f d ds h) (Fin1 Γ ρ h H Q)
theorem sbm_of (c : Cxt Γ fd n N X) {m : Bool} {f : BM} {T id : String} (pa : PlainAttrs T) (slot : Slot T (bmN f) id) (hty : typeOf (.builtin id) = pure (.type "method_descriptor")) (hm : MtR X id (RdM Γ m f))
    (hv : ∀ (ρ : List Addr) (h : Hh) (H : Hp) (d : D) (v : V), HpR Γ ρ H h → RepS Γ ρ h H d v → recv f d h = true → tyV X.K T v H)
    (hb : okBase y = true) (hl : (apos.endLine == pos.line) = true) (hn : es.length < 29) (hne : es ≠ []) (hs : es.all (!isStar ·) = true) (ho : SE Γ n X w y) (he : SA Γ n X cs es) : SE Γ n X (.bm m f w cs) (.Call (.Attribute y (bmN f) apos) es [] pos) := by
  obtain ⟨e, r, rfl⟩ := List.exists_cons_of_ne_nil hne
  have hs' := hs
  simp only [List.all_cons, Bool.and_eq_true, Bool.not_eq_true'] at hs'
  have he0 := star_each (env := X.env) (es := r) hs'.1
  refine PE.mono (pe_bm pa slot hty hm ho he (base_of hb) ?_ hl he0 (star_any hs'.2)) fun σ H Q ⟨ρ, h, env, S, o⟩ => ?_
  · rw [star_all hs]
    simp only [Bool.true_and]
    refine Bool.and_eq_true_iff.mpr ⟨rfl, decide_eq_true ?_⟩
    simp at hn ⊢
    omega
  · unfold ev evE at o
    exact ⟨ρ, h, env, S, o.bind.mono fun d h1 o1 ρ1 v H1 n1 r1 => ⟨hv _ _ _ _ _ n1.hr r1 o1.guard.1, ρ1, h1, env, S.next n1, o1.guard.2.bind.mono fun ds h2 o2 ρ2 vs H2 n2 r2 =>
      ⟨ρ2, h2, d, ds, n2.hr, n2.rep r1, r2, o2.mono fun _ _ k => k.pre (n1.trans n2)⟩⟩⟩
theorem MtR.mono {id : String} {r r' : V → List V → Hp → VK → Prop} (h : MtR X id r) (m : ∀ x xs H Q, r' x xs H Q → r x xs H Q) : MtR X id r' := fun pins s σ H x xs v us Q I rx rs q => h pins s σ H x xs v us Q I rx rs (m _ _ _ _ q)
theorem reps_strs : ∀ (ys : List Str) {L : Addr → Prop}, Reps Γ ρ L H (ys.map D.str) (ys.map V.str)
  | [], _ => .nil
  | y :: ys, _ => .cons (.str y) (reps_strs ys)
theorem m_split {m : Bool} : MtR X "str.split" (RdM Γ m .split) := MtR.mono mt_split fun x xs H Q ⟨ρ, h, d, ds, hr, r, rs, o⟩ => by
  unfold bmM at o
  split at o
  · cases ‹BM.split = .split›
    obtain ⟨v, rfl, q⟩ := rs.one
    cases r; cases q
    obtain ⟨g, o⟩ := o.guard
    simp only [Bool.and_eq_true, bne_iff_ne, ne_eq, decide_eq_true_eq] at g
    exact ⟨_, _, rfl, rfl, by simpa using g.1, g.2, (mkL_ok hr (reps_strs _) o).2⟩
  all_goals first
    | (exact o.elim)
    | (cases ‹BM.split = _›)
theorem m_join (c : Cxt Γ fd n N X) {m : Bool} : MtR X "str.join" (RdM Γ m .join) := MtR.mono mt_join fun x xs H Q ⟨ρ, h, d, ds, hr, r, rs, o⟩ => by
  unfold bmM at o
  split at o
  · cases ‹BM.join = .split›
  · obtain ⟨v, rfl, q⟩ := rs.one
    cases r
    split at o
    · rename_i ys e
      obtain ⟨g, o⟩ := o.guard
      obtain ⟨zs, e1, e2⟩ := Option.bind_eq_some_iff.mp e
      obtain ⟨a, vs, rfl, t, rr⟩ := seqOf_ok hr q e1
      rw [strs_ok rr e2, ← c.eK] at t
      exact ⟨_, a, ys, rfl, rfl, t, of_decide_eq_true g, fin_str hr o⟩
    · exact o.elim
  all_goals first
    | (exact o.elim)
    | (cases ‹BM.join = _›)
theorem m_append {m : Bool} : MtR X "list.append" (RdM Γ m .append) := MtR.mono mt_append fun x xs H Q ⟨ρ, h, d, ds, hr, r, rs, o⟩ => by
  unfold bmM at o
  split at o
  · cases ‹BM.append = _›
  · cases ‹BM.append = _›
  · obtain ⟨v, rfl, q⟩ := rs.one
    cases r with
    | ref e1 =>
      split at o
      · rename_i ys e2
        obtain ⟨g, o⟩ := o.guard
        obtain ⟨vs, t, rr⟩ := hr.lst e1 e2
        refine ⟨_, vs, v, rfl, rfl, t, by rw [rr.length]; exact of_decide_eq_true g, ?_⟩
        have nx := Nxt.setL hr e1 e2 (by simp) (rr.append (.cons q .nil))
        exact o _ _ _ nx .none
      · exact o.elim
  all_goals first
    | (exact o.elim)
    | (cases ‹BM.append = _›)
theorem m_extend {m : Bool} : MtR X "list.extend" (RdM Γ m .extend) := MtR.mono mt_extend fun x xs H Q ⟨ρ, h, d, ds, hr, r, rs, o⟩ => by
  unfold bmM at o
  split at o
  · cases ‹BM.extend = _›
  · cases ‹BM.extend = _›
  · cases ‹BM.extend = _›
  · obtain ⟨v, rfl, q⟩ := rs.one
    cases r with
    | ref e1 =>
      split at o
      · rename_i ys zs e2 e3
        obtain ⟨g, o⟩ := o.guard
        obtain ⟨vs, t, rr⟩ := hr.lst e1 e2
        obtain ⟨b, ws, rfl, t2, rr2⟩ := lstOf_ok hr q e3
        refine ⟨_, b, vs, ws, rfl, rfl, t, t2, by rw [rr.length, rr2.length]; exact of_decide_eq_true g, ?_⟩
        have nx := Nxt.setL hr e1 e2 (by simp) (rr.append rr2)
        exact o _ _ _ nx .none
      · exact o.elim
  all_goals first
    | (exact o.elim)
    | (cases ‹BM.extend = _›)
theorem recv_str {f : BM} (hf : f = .split ∨ f = .join) (ρ : List Addr) (h : Hh) (H : Hp) (d : D) (v : V) (hr : HpR Γ ρ H h) (r : RepS Γ ρ h H d v) (e : recv f d h = true) : tyV X.K "str" v H := by
  rcases hf with rfl | rfl
  all_goals
    unfold recv at e
    cases r <;> first | (simp at e; done) | exact rfl
theorem recv_lst {f : BM} (hf : f = .append ∨ f = .extend) (ρ : List Addr) (h : Hh) (H : Hp) (d : D) (v : V) (hr : HpR Γ ρ H h) (r : RepS Γ ρ h H d v) (e : recv f d h = true) : tyV X.K "list" v H := by
  rcases hf with rfl | rfl
  all_goals
    unfold recv at e
    split at e
    all_goals first | (simp at e; done) | (cases ‹BM.append = _›; done) | (cases ‹BM.extend = _›; done) | skip
    all_goals
      split at e
      · rename_i e2
        cases r
        rename_i e1
        obtain ⟨vs, t, rr⟩ := hr.lst e1 e2
        exact .inl ⟨rfl, vs, SqL.of t⟩
      · cases e
theorem sbm (c : Cxt Γ fd n N X) {m : Bool} {f : BM} (hb : okBase y = true) (hl : (apos.endLine == pos.line) = true) (hn : es.length < 29) (hne : es ≠ []) (hs : es.all (!isStar ·) = true) (ho : SE Γ n X w y) (he : SA Γ n X cs es) : SE Γ n X (.bm m f w cs) (.Call (.Attribute y (bmN f) apos) es [] pos) := by
  cases f with
  | split => exact sbm_of c F.plainAttrs_str F.slot_str_split F.type_str_split m_split (recv_str (.inl rfl)) hb hl hn hne hs ho he
  | join => exact sbm_of c F.plainAttrs_str F.slot_str_join F.type_str_join (m_join c) (recv_str (.inr rfl)) hb hl hn hne hs ho he
  | append => exact sbm_of c F.plainAttrs_list F.slot_list_append F.type_list_append m_append (recv_lst (.inl rfl)) hb hl hn hne hs ho he
  | extend => exact sbm_of c F.plainAttrs_list F.slot_list_extend F.type_list_extend m_extend (recv_lst (.inr rfl)) hb hl hn hne hs ho he
  | index =>
    refine ⟨fun pins s σ H Q I ⟨ρ, h, env, S, o⟩ => ?_⟩
    unfold ev evE at o
    obtain ⟨d, h1, _, o1⟩ := o.bind.of
    have := o1.guard.1
    simp [recv] at this
  | count =>
    refine ⟨fun pins s σ H Q I ⟨ρ, h, env, S, o⟩ => ?_⟩
    unfold ev evE at o
    obtain ⟨d, h1, _, o1⟩ := o.bind.of
    have := o1.guard.1
    simp [recv] at this

/-! ### isinstance -/
def tyW (Γ : Gm) : Ty → Value
  | .b m => .type m
  | .c k => .ref (Γ.ca k)
theorem isi_ok (c : Cxt Γ fd n N X) (fx : Facts Γ fd) {t : Ty} {d : D} {v : V} {b : Bool} (hr : HpR Γ ρ H h) (r : RepS Γ ρ h H d v) (e : isiM t d = some b) : ∃ ty, TyX X.K H v ty ∧ PySem.W.kitOne X.K ty (tyW Γ t) = some b := by
  cases t with
  | b m =>
    cases r with
    | none => exact ⟨_, .base .non, kit_ty e⟩
    | bool x => exact ⟨_, .base (.bl x), kit_ty e⟩
    | int x => exact ⟨_, .base (.int x), kit_ty e⟩
    | str x => exact ⟨_, .base (.str x), kit_ty e⟩
    | tup t r =>
      rcases t with ⟨t | ⟨o, t⟩, _⟩ | ⟨o, its, k, t, t2, _⟩
      · exact ⟨_, .base (.tup t), kit_ty e⟩
      · exact ⟨_, .fTuple t, kit_ty e⟩
      · exact ⟨_, .kTuple (by rw [c.eK]; exact t) t2, kit_ty e⟩
    | list t _ r => exact ⟨_, .base (.lst t), kit_ty e⟩
    | scr t r =>
      rcases t with ⟨t | ⟨o, t⟩, _⟩ | ⟨o, its, k, t, t2, _⟩
      · exact ⟨_, .base (.lst t), kit_ty e⟩
      · exact ⟨_, .base (.frz t), kit_ty e⟩
      · exact ⟨_, .kList (by rw [c.eK]; exact t) t2, kit_ty e⟩
    | inst _ _ _ _ _ => simp [isiM] at e
    | ref _ => simp [isiM] at e
    | cls _ => simp [isiM] at e
  | c k =>
    cases r with
    | inst ec t nl l r =>
      simp only [isiM, Option.ite_none_right_eq_some, Option.some.injEq] at e
      obtain ⟨rfl, rfl⟩ := e
      have F := fx.cls _ _ ec
      have J := F.isi
      have cl := F.cls
      rw [← c.eK] at J cl
      exact ⟨_, .base (.ins t cl J.ha J.hn J.htk J.hm), J.kit⟩
    | _ => simp [isiM] at e
theorem sisi {nm : Str} {p1 p2 : Pos} (c : Cxt Γ fd n N X) (fx : Facts Γ fd) {t : Ty} (h1 : globB X.env.scope "isinstance" = true) (h2 : globB X.env.scope nm = true) (hs : isStar x = false)
    (ht : match t with
      | .b m => Str.ofString m = nm ∧ (["int", "bool", "str", "tuple", "list"] : List String).contains m = true
      | .c k => ∃ C, Γ.P.clss[k]? = some C ∧ C.name = nm) (ha : SE Γ n X w x) : SE Γ n X (.isi w t) (.Call (.Name "isinstance" p1) [x, .Name nm p2] [] pos) := by
  obtain ⟨g1, g2⟩ := glob_of h1
  obtain ⟨g3, g4⟩ := glob_of h2
  have hm : X.mg "isinstance" = none := by rw [c.eMg]; exact fx.free _ (by decide)
  have he0 := star_each (env := X.env) (es := [.Name nm p2]) hs
  have fin : ∀ (cv : V) (u : Value), ClsV cv u → (u = tyW Γ t) → PE X (.Name nm p2) (tC cv) → SE Γ n X (.isi w t) (.Call (.Name "isinstance" p1) [x, .Name nm p2] [] pos) := fun cv u k eu hn => by
    refine PE.mono (pe_callB call_isi g1 hm (by decide +kernel) (pa_cons ha (pa_cons hn pa_nil) he0) (by decide) g2 he0 rfl) fun σ H Q ⟨ρ, h, env, S, o⟩ => ?_
    unfold ev evE at o
    refine ⟨ρ, h, env, S, o.bind.mono fun d h1 o1 ρ1 v H1 n1 r1 => ?_⟩
    obtain ⟨b0, e0, q⟩ := o1.opt
    obtain ⟨b, e2, rfl⟩ := Option.map_eq_some_iff.mp e0
    obtain ⟨ty, h3, h4⟩ := isi_ok c fx n1.hr r1 e2
    exact ⟨v, cv, ty, u, b, rfl, k, h3, by rw [eu]; exact h4, fin_bool n1.hr (Fin1.pre n1 q)⟩
  cases t with
  | b m =>
    obtain ⟨rfl, h3⟩ := ht
    have hmm : m = "int" ∨ m = "bool" ∨ m = "str" ∨ m = "tuple" ∨ m = "list" := by simpa using h3
    have free : X.mg (Str.ofString m) = none := by
      rw [c.eMg]
      refine fx.freeT _ ?_
      rcases hmm with rfl | rfl | rfl | rfl | rfl <;> decide
    rcases hmm with rfl | rfl | rfl | rfl | rfl
    · exact fin (.ty "int") _ (.ty _) rfl (pe_bltn g3 free (by decide +kernel) rfl (by decide) g4)
    · exact fin (.ty "bool") _ (.ty _) rfl (pe_bltn g3 free (by decide +kernel) rfl (by decide) g4)
    · exact fin (.ty "str") _ (.ty _) rfl (pe_bltn g3 free (by decide +kernel) rfl (by decide) g4)
    · exact fin (.ty "tuple") _ (.ty _) rfl (pe_bltn g3 free (by decide +kernel) rfl (by decide) g4)
    · exact fin (.ty "list") _ (.ty _) rfl (pe_bltn g3 free (by decide +kernel) rfl (by decide) g4)
  | c k =>
    obtain ⟨C, ec, rfl⟩ := ht
    exact fin (.ref (Γ.ca k)) _ (.own _) rfl (pe_glob g3 (by rw [c.eMg]; exact (fx.cls k C ec).glob) rfl g4)
/-! ### a list that is no one else's -/
theorem sfrz (ha : SE Γ n X w x) : SE Γ n X (.frz w) x := PE.mono ha fun σ H Q ⟨ρ, h, env, S, o⟩ => by
  unfold ev evE at o
  refine ⟨ρ, h, env, S, o.bind.mono fun d h1 o1 ρ1 v H1 n1 r1 => ?_⟩
  split at o1
  · split at o1
    · rename_i e2
      cases r1
      rename_i e1
      obtain ⟨n2, r2⟩ := Nxt.frz n1.hr e1 e2
      exact o1 _ _ _ (n1.trans n2) r2
    · exact o1.elim
  · exact o1 ρ1 v H1 n1 r1
end
end PY
end
section
set_option Elab.async false
set_option autoImplicit false
set_option linter.all false
set_option maxRecDepth 100000
/-! enumerate of a tuple. -/
namespace PY
open PySem PySem.Spec PyProof.Rows L2
open Sem (wp)
set_option maxHeartbeats 1000000 in
theorem enumT_new {y : Value} {ob : Obj} {Hs : Heap → Prop} (B : Begins y ob Hs) :
    Meets (Builtin.«enumerate.__new__» ⟨[.type "enumerate", y], []⟩) (fun _ R s => Hs s.heap ∧
      R (.ok (.ret (.ref (s.heap.push ob).objs.size))) { s with heap := (s.heap.push ob).push { cls := .type "enumerate", data := .fields #[.none, .bool false, .ref s.heap.objs.size, rawInt 0, .none, .none] } }) :=
  .of_wp fun prog w A R s hyp => by
    obtain ⟨hq, ga, dr, tks, st0⟩ := s
    obtain ⟨hy1, hy2⟩ := hyp
    have hsub := sub_enumerate
    have nx : ∀ {A1 : Around} {E1 : Value → Shared → Prop} {Q1 : Value → Shared → Prop}, Q1 (.ref hq.objs.size) ⟨hq.push ob, ga, dr, tks, st0⟩ → wpAny (model prog w) A1 (pyIter y) Q1 E1 ⟨hq, ga, dr, tks, st0⟩ :=
      fun z => B.iter prog w _ _ ⟨hq, ga, dr, tks, st0⟩ _ hy1 z
    wp_walk using nx
    refine wpAny_stack_any fun st => wpAny_pure ?_
    split
    · rename_i cc _ _ _ _ _
      cases (cc == Value.type "enumerate")
      · wp_walk using nx
        exact ⟨_, rfl, hy2⟩
      · wp_walk using nx
        exact ⟨_, rfl, hy2⟩
    · wp_walk using nx
      exact ⟨_, rfl, hy2⟩
section
variable {prog : Program} {w : World} {A : Around} {E : Value → Shared → Prop} {s : Shared}
theorem enumT_call {y : Value} {ob : Obj} {Hs : Heap → Prop} {Q : Value → Shared → Prop} (B : Begins y ob Hs) (h1 : Hs s.heap)
    (h : ∀ h', IsEnum h' (s.heap.objs.size + 1) s.heap.objs.size 0 .none → h'.get? s.heap.objs.size = some ob → h'.objs.size = s.heap.objs.size + 2 →
      (∀ b o, s.heap.get? b = some o → h'.get? b = some o) → Q (.ref (s.heap.objs.size + 1)) { s with heap := h' }) :
    wpAny (model prog w) A (call (.type "enumerate") [y]) Q E s := by
  refine callType_new F.called_enumerate (by decide) (F.typeCall_enumerate_1 _) (F.newCall_enumerate_1 _) (fun obj => F.args_object_init_2 obj _) F.entry_enumerate_new
    (enumT_new B) ⟨h1, ?_⟩
  have sz : (s.heap.push ob).objs.size = s.heap.objs.size + 1 := Heap.size_push ..
  show _ ∧ _
  rw [sz]
  have he : IsEnum ((s.heap.push ob).push { cls := .type "enumerate", data := .fields #[.none, .bool false, .ref s.heap.objs.size, rawInt 0, .none, .none] }) (s.heap.objs.size + 1) s.heap.objs.size 0 .none := by
    have q := Heap.get?_push_size (s.heap.push ob) (o := { cls := .type "enumerate", data := .fields #[.none, .bool false, .ref s.heap.objs.size, rawInt 0, .none, .none] }) rfl
    rw [sz] at q; exact q
  exact ⟨⟨_, he, rfl⟩, h _ he (Heap.get?_push_of_some _ (Heap.get?_push_size _ B.free)) (by rw [Heap.size_push, sz]) fun b o x => Heap.get?_push_of_some _ (Heap.get?_push_of_some _ x)⟩
end
/-- the tuple at a, each item in a new pair with its number -/
def IteT (K : PySem.W.Frag) (a : Addr) : It :=
  ⟨fun i H => ∃ (xs : List V) (x : V), SqT K H a xs ∧ xs[i]? = some x, fun i H v H' => ∃ T x, v = .ref T ∧ H T = none ∧ H' = upd H T (.tup [.int (i : Nat), x]) ∧ ∀ xs, SqT K H a xs → xs[i]? = some x, fun i H => ∃ xs : List V, SqT K H a xs ∧ xs.length ≤ i⟩
theorem turn_enumT {P : Program} {w : World} {K : PySem.W.Frag} {elts : List Expr} {kk : Nat} {tpos : Pos} (a e it : Addr) :
    Turn P w K (.Tuple elts kk tpos) (IteT K a) [e, it] e (fun i h => (∃ old, IsEnum h e it ((i : Nat) : Int) old) ∧ h.IsTupleIter it a i ∧ e ≠ it) where
  mem := List.mem_cons_self
  obj := fun i h st b hb => by
    obtain ⟨⟨old, he⟩, ⟨o, ho, hc, hd⟩, _⟩ := st
    have q : b = e ∨ b = it := by simpa using hb
    rcases q with rfl | rfl
    · exact ⟨_, he, fun v q => nomatch q⟩
    · exact ⟨o, ho, fun v q => by rw [hd] at q; cases q⟩
  keep := fun i h h' st k => ⟨st.1.imp fun old he => k e (by simp) _ he, st.2.1.at fun o q => k it (by simp) o q, st.2.2⟩
  item := by
    intro X hP hw hK hc i pins s σ H E I hf st hg
    subst hP hw hK
    obtain ⟨⟨old, he⟩, hit, hne⟩ := st
    obtain ⟨xs, x, hq, hx⟩ := hg
    obtain ⟨its, rv, p, hz⟩ := I.tuple hq
    obtain ⟨u, hu, ru⟩ := rv.get hx
    have p : s.heap.IsTuple a its.toArray := p
    have el : e < s.heap.objs.size := Heap.lt_size he
    have il : it < s.heap.objs.size := by obtain ⟨_, q, _⟩ := hit; exact Heap.lt_size q
    have ai : a ≠ it := fun z => by
      obtain ⟨o, o1, o2, _⟩ := id p
      obtain ⟨o', o1', o2', _⟩ := id hit
      subst z
      rw [o1] at o1'; cases o1'
      rw [o2] at o2'
      exact absurd o2' (by decide +kernel)
    have ae : a ≠ e := fun z => by
      obtain ⟨o, o1, o2, _⟩ := id p
      subst z
      have he' := he
      unfold IsEnum at he'
      rw [o1] at he'; cases he'
      exact absurd (show Value.type "enumerate" = Value.type "tuple" from o2) (by decide +kernel)
    have D := Draws.tuple (prog := X.prog) (w := X.w) (A := X.A.in1) (show X.A.in1.handled = none from I.ok.hd hc) it a ai its.toArray
    have hlt : i < its.toArray.size := by
      have := (List.getElem?_eq_some_iff.mp hu).1
      simpa using this
    refine wpAny_pyNext_enum_itemD D he ⟨hit, p⟩ hlt hne (by simp [hne, Ne.symm ae]) fun x' h' tk hP ho hs' hT hsz hk => ?_
    have ex : x' = u := by
      have q : its.toArray[i]? = some x' := hP
      rw [List.getElem?_toArray, hu] at q
      exact (Option.some.inj q).symm
    subst ex
    refine ⟨_, rfl, wpAny_letOwnedTupleGo_enum (s := { s with heap := h', toks := tk + 1 }) ho fun h'' he' sb => ?_⟩
    have hT2 : h''.get? s.heap.objs.size = some { cls := .type "tuple", data := .seq #[.int i tk, x'] } := (sb.2 _ (Nat.ne_of_gt el)).trans hT
    have new : ObjOk X.prog X.w (upd H s.heap.objs.size (.tup [.int (i : Nat), x])) h'' s.heap.objs.size (.tup [.int (i : Nat), x]) :=
      ⟨by show 2 ≤ sizeLine; decide, [.int i tk, x'], .cons ⟨_, rfl⟩ (.cons ru .nil), ⟨_, hT2, rfl, _, rfl⟩⟩
    have I1 : Inv X pins σ (upd H s.heap.objs.size (.tup [.int (i : Nat), x])) { s with heap := h'', toks := tk + 1 } :=
      I.turnedNew (ch := [e, it]) (fun b ob hb q => (sb.2 b (fun z => hb (by simp [z]))).trans (hk b ob (fun z => hb (by simp [z])) (fun z => hb (by simp [z])) q)) hf (Nat.le_refl _) new
    refine ⟨.ref s.heap.objs.size, _, I1, rfl, ⟨_, x, rfl, I.hok.fresh (Nat.le_refl _), rfl, fun ys hy => by rw [I.tuple_inj hy hq]; exact hx⟩, ⟨⟨x', ?_⟩, hs'.1.at fun o q => (sb.2 it (Ne.symm hne)).trans q, hne⟩, fun b hb => ?_⟩
    · have e1 : ((i + 1 : Nat) : Int) = (i : Int) + 1 := by omega
      rw [e1]
      exact he'
    · have lt : b < s.heap.objs.size := by
        have q : b = e ∨ b = it := by simpa using hb
        rcases q with rfl | rfl
        · exact el
        · exact il
      rw [upd_ne (Nat.ne_of_lt lt)]
      exact (hf b hb).1
  done := by
    intro X hP hw hK hc i pins s σ H E I hf st hg
    subst hP hw hK
    obtain ⟨⟨old, he⟩, hit, hne⟩ := st
    obtain ⟨xs, hq, hx⟩ := hg
    obtain ⟨its, rv, p, hz⟩ := I.tuple hq
    have p : s.heap.IsTuple a its.toArray := p
    have ai : a ≠ it := fun z => by
      obtain ⟨o, o1, o2, _⟩ := id p
      obtain ⟨o', o1', o2', _⟩ := id hit
      subst z
      rw [o1] at o1'; cases o1'
      rw [o2] at o2'
      exact absurd o2' (by decide +kernel)
    obtain ⟨f0, f1, f2, f3, f4, f5⟩ := hf it (by simp)
    have hl := rv.length
    have D : Draws X.prog X.w X.A.in1 it [it, a] i (fun _ _ => True) (fun j h => (h.IsTupleIter it a j ∧ h.IsTuple a its.toArray) ∧ j = i) :=
      ⟨fun _ _ st => let ⟨o, ho, _⟩ := st.1.1; ⟨o, ho⟩, fun _ _ _ st hk => ⟨⟨st.1.1.at fun o e => hk it (by simp) o e, st.1.2.at fun o e => hk a (by simp) o e⟩, st.2⟩,
        fun j s' Q' E' hj st hQ => absurd st.2 (by omega), fun s' Q' E' st hE => wpAny_nextOf_tuple_end (show X.A.in1.handled = none from I.ok.hd hc) st.1.1 st.1.2 (by simp; omega) hE⟩
    exact wpAny_pyNext_enum_endD D he ⟨⟨hit, p⟩, rfl⟩ fun h' eb => ⟨rfl, I.turned (t' := s.toks) (fun b o hb q => eb b o hb q) f0 f1 f3 f4 f5⟩
  self := fun A i s Q E st h => let ⟨⟨_, he⟩, _⟩ := st; wpAny_pyIter_enum he h
end PY
end
section
set_option Elab.async false
set_option autoImplicit false
set_option linter.all false
set_option maxRecDepth 100000
/-! What loops and comprehensions go over; targets. -/
namespace PY
open PySem PySem.Spec PyProof.Rows L2
variable {Γ : Gm} {Γ0 : G0} {ρ ρ' ρ'' : List Addr} {h h' h'' : Hh} {H H' H'' : Hp}
mutual
theorem beq_refl : ∀ d : D, D.beq d d = true
  | .none => rfl
  | .bool a => by simp [D.beq]
  | .int a => by simp [D.beq]
  | .str a => by simp [D.beq]
  | .tup a => by simp only [D.beq]; exact beqs_refl a
  | .list a => by simp only [D.beq]; exact beqs_refl a
  | .scr a => by simp only [D.beq]; exact beqs_refl a
  | .inst c a => by simp only [D.beq, beqs_refl a]; simp
  | .ref a => by simp [D.beq]
  | .cls a => by simp [D.beq]
theorem beqs_refl : ∀ ds : List D, D.beqs ds ds = true
  | [] => rfl
  | d :: r => by simp only [D.beqs, beq_refl d, beqs_refl r]; rfl
end
def ItR (Γ : G0) (ρ1 : List Addr) (L1 : Addr → Prop) (H1 : Hp) (J : It) (it : List D × (Hh → Bool)) : Prop :=
  ∀ (Z : Addr → Prop) (ρ2 : List Addr) (h2 : Hh) (H2 : Hp), Keep ρ1 L1 H1 ρ2 (Lv ⟨Γ, Z⟩ ρ2 h2) H2 → HpR ⟨Γ, Z⟩ ρ2 H2 h2 → it.2 h2 = true →
    J.stop it.1.length H2 ∧ ∀ i d, it.1[i]? = some d → J.go i H2 ∧ ∀ x H', J.yld i H2 x H' → Nxt ⟨Γ, Z⟩ ρ2 h2 H2 ρ2 h2 H' ∧ RepS ⟨Γ, Z⟩ ρ2 h2 H' d x
def RdI (Γ : Gm) (f : En → Hh → Res (List D × (Hh → Bool))) : TI := fun σ H R => ∃ ρ h env, StR Γ ρ h H env σ ∧ okR (f env h) fun it h1 => ∀ ρ1 H1 J, Nxt Γ ρ h H ρ1 h1 H1 → ItR Γ.toG0 ρ1 (Lv Γ ρ1 h1) H1 J it → R J H1
/-- a list's, a tuple's items from now on -/
def Src (Γ : G0) (ρ1 : List Addr) (L1 : Addr → Prop) (H1 : Hp) (t : Bool) (a : Addr) (xs : List D) (o : Option Nat) : Prop :=
  ∀ (Z : Addr → Prop) (ρ2 : List Addr) (h2 : Hh) (H2 : Hp), Keep ρ1 L1 H1 ρ2 (Lv ⟨Γ, Z⟩ ρ2 h2) H2 → HpR ⟨Γ, Z⟩ ρ2 H2 h2 → chkM xs o h2 = true →
    ∃ vs, (if t = true then SqT Γ.K H2 a vs else SqL Γ.K H2 a vs) ∧ RepsS ⟨Γ, Z⟩ ρ2 h2 H2 xs vs
theorem Src.mono {ρ1 ρ2 : List Addr} {L1 L2 : Addr → Prop} {H1 H2 : Hp} {t : Bool} {a : Addr} {xs : List D} {o : Option Nat} (s : Src Γ0 ρ1 L1 H1 t a xs o) (k : Keep ρ1 L1 H1 ρ2 L2 H2) : Src Γ0 ρ2 L2 H2 t a xs o := fun Z ρ3 h3 H3 k3 hr c =>
  s Z ρ3 h3 H3 ⟨fun i b e => k3.pre i b (k.pre i b e), fun b u e n => k3.st b u (k.st b u e n).1 (k.st b u e n).2⟩ hr c
theorem src_of {d : D} {v : V} {xs : List D} {o : Option Nat} (hr : HpR Γ ρ H h) (r : RepS Γ ρ h H d v) (e : itemsN h d = some (xs, o)) : ∃ a, v = .ref a ∧ Src Γ.toG0 ρ (Lv Γ ρ h) H (isTup d) a xs o := by
  cases r with
  | tup t r =>
    simp only [itemsN, itemsOf] at e; cases e
    exact ⟨_, rfl, fun Z ρ2 h2 H2 k hr2 c => ⟨_, t.elim (fun z => .inl (k.rd z).1) KTup.sq, r.keep k⟩⟩
  | list t n r =>
    simp only [itemsN, itemsOf] at e; cases e
    exact ⟨_, rfl, fun Z ρ2 h2 H2 k hr2 c => ⟨_, SqL.of (k.st _ _ t n).1, r.keep k⟩⟩
  | scr t r =>
    simp only [itemsN, itemsOf] at e; cases e
    exact ⟨_, rfl, fun Z ρ2 h2 H2 k hr2 c => ⟨_, t.elim (fun z => .inl (k.rd z).1) KLst.sq, r.keep k⟩⟩
  | @ref i a q =>
    simp only [itemsN, itemsOf] at e
    split at e
    · cases e
      refine ⟨_, rfl, fun Z ρ2 h2 H2 k hr2 c => ?_⟩
      simp only [chkM] at c
      split at c
      · rename_i ys e2
        rw [beqs_ok c]
        obtain ⟨vs, t, rr⟩ := hr2.lst (k.pre _ _ q) e2
        exact ⟨vs, SqL.of t, rr⟩
      · cases c
    · cases e
  | _ => simp [itemsN, itemsOf] at e
theorem it_list {a : Addr} {xs : List D} {o : Option Nat} {L : Addr → Prop} (s : Src Γ0 ρ L H false a xs o) : ItR Γ0 ρ L H (Itl Γ0.K a) (xs, chkM xs o) := fun Z ρ2 h2 H2 k hr c => by
  obtain ⟨vs, t, r⟩ := s Z ρ2 h2 H2 k hr c
  rw [if_neg (by decide)] at t
  refine ⟨⟨vs, t, by rw [r.length]; exact Nat.le_refl _⟩, fun i d e => ?_⟩
  obtain ⟨v, ev, rv⟩ := r.get e
  refine ⟨⟨vs, v, t, ev⟩, fun x H' ⟨e1, f⟩ => ?_⟩
  have := f vs t
  rw [ev] at this
  cases this
  subst e1
  exact ⟨Nxt.refl hr, rv⟩
theorem it_tup {a : Addr} {xs : List D} {o : Option Nat} {L : Addr → Prop} (s : Src Γ0 ρ L H true a xs o) : ItR Γ0 ρ L H (Itt Γ0.K a) (xs, chkM xs o) := fun Z ρ2 h2 H2 k hr c => by
  obtain ⟨vs, t, r⟩ := s Z ρ2 h2 H2 k hr c
  rw [if_pos rfl] at t
  refine ⟨⟨vs, t, by rw [r.length]; exact Nat.le_refl _⟩, fun i d e => ?_⟩
  obtain ⟨v, ev, rv⟩ := r.get e
  refine ⟨⟨vs, v, t, ev⟩, fun x H' ⟨e1, f⟩ => ?_⟩
  have := f vs t
  rw [ev] at this
  cases this
  subst e1
  exact ⟨Nxt.refl hr, rv⟩
theorem it_str {s : Str} {L : Addr → Prop} : ItR Γ0 ρ L H (Its s) (s.cps.toList.map fun c => D.str ⟨#[c]⟩, chkM (s.cps.toList.map fun c => D.str ⟨#[c]⟩) none) := fun Z ρ2 h2 H2 k hr c => by
  refine ⟨by show s.cps.size ≤ _; simp, fun i d e => ?_⟩
  rw [List.getElem?_map] at e
  obtain ⟨x, ex, rfl⟩ := Option.map_eq_some_iff.mp e
  rw [Array.getElem?_toList] at ex
  refine ⟨(Array.getElem?_eq_some_iff.mp ex).1, fun y H' ⟨e1, x', ex', ey⟩ => ?_⟩
  rw [ex] at ex'
  cases ex'
  subst e1 ey
  exact ⟨Nxt.refl hr, .str _⟩
theorem upto_get {lo : Int} {n i : Nat} {d : D} (e : (upto lo n)[i]? = some d) : i < n ∧ d = .int (lo + (i : Int)) := by
  unfold upto at e
  rw [List.getElem?_map] at e
  obtain ⟨k, ek, rfl⟩ := Option.map_eq_some_iff.mp e
  obtain ⟨h1, h2⟩ := List.getElem?_eq_some_iff.mp ek
  simp at h1 h2
  subst h2
  exact ⟨h1, rfl⟩
theorem upto_len {lo : Int} {n : Nat} : (upto lo n).length = n := by simp [upto]
theorem it_range {lo : Int} {n : Nat} {L : Addr → Prop} : ItR Γ0 ρ L H (Itr lo n) (upto lo n, fun _ => true) := fun Z ρ2 h2 H2 k hr c => by
  refine ⟨by show n ≤ _; rw [upto_len]; exact Nat.le_refl _, fun i d e => ?_⟩
  obtain ⟨l, rfl⟩ := upto_get e
  exact ⟨l, fun x H' ⟨e1, e2⟩ => by subst e1 e2; exact ⟨Nxt.refl hr, .int _⟩⟩
theorem pairs_get : ∀ {xs ys : List D} {i : Nat} {d : D}, (pairs xs ys)[i]? = some d → ∃ x y, xs[i]? = some x ∧ ys[i]? = some y ∧ d = .tup [x, y]
  | [], _, _, _, e => by simp [pairs] at e
  | _ :: _, [], _, _, e => by simp [pairs] at e
  | x :: xs, y :: ys, 0, d, e => by simp [pairs] at e; exact ⟨x, y, rfl, rfl, e.symm⟩
  | x :: xs, y :: ys, i + 1, d, e => by
    simp [pairs] at e
    obtain ⟨a, b, h1, h2, h3⟩ := pairs_get e
    exact ⟨a, b, by simpa using h1, by simpa using h2, h3⟩
theorem pairs_len : ∀ {xs ys : List D}, (pairs xs ys).length = min xs.length ys.length
  | [], _ => by simp [pairs]
  | _ :: _, [] => by simp [pairs]
  | x :: xs, y :: ys => by simp [pairs, pairs_len]
/-- a new pair -/
theorem new_pair {d e : D} {x y : V} {T : Addr} (hr : HpR Γ ρ H h) (hT : H T = none) (r1 : RepS Γ ρ h H d x) (r2 : RepS Γ ρ h H e y) : Nxt Γ ρ h H ρ h (upd H T (.tup [x, y])) ∧ RepS Γ ρ h (upd H T (.tup [x, y])) (.tup [d, e]) (.ref T) :=
  Nxt.valT hr hT (.cons r1 (.cons r2 .nil))
theorem it_enumL {a : Addr} {xs : List D} {o : Option Nat} {L : Addr → Prop} (s : Src Γ0 ρ L H false a xs o) : ItR Γ0 ρ L H (Ite Γ0.K a) (pairs (upto 0 xs.length) xs, chkM xs o) := fun Z ρ2 h2 H2 k hr c => by
  obtain ⟨vs, t, r⟩ := s Z ρ2 h2 H2 k hr c
  rw [if_neg (by decide)] at t
  refine ⟨⟨vs, t, by rw [r.length, pairs_len, upto_len]; omega⟩, fun i d e => ?_⟩
  obtain ⟨d1, d2, e1, e2, rfl⟩ := pairs_get e
  obtain ⟨l, rfl⟩ := upto_get e1
  obtain ⟨v, ev, rv⟩ := r.get e2
  refine ⟨⟨vs, v, t, ev⟩, fun x H' ⟨T, x', ex, hT, eH, f⟩ => ?_⟩
  have := f vs t
  rw [ev] at this
  cases this
  subst ex eH
  rw [Int.zero_add]
  exact new_pair hr hT (.int _) rv
theorem it_enumT {a : Addr} {xs : List D} {o : Option Nat} {L : Addr → Prop} (s : Src Γ0 ρ L H true a xs o) : ItR Γ0 ρ L H (IteT Γ0.K a) (pairs (upto 0 xs.length) xs, chkM xs o) := fun Z ρ2 h2 H2 k hr c => by
  obtain ⟨vs, t, r⟩ := s Z ρ2 h2 H2 k hr c
  rw [if_pos rfl] at t
  refine ⟨⟨vs, t, by rw [r.length, pairs_len, upto_len]; omega⟩, fun i d e => ?_⟩
  obtain ⟨d1, d2, e1, e2, rfl⟩ := pairs_get e
  obtain ⟨l, rfl⟩ := upto_get e1
  obtain ⟨v, ev, rv⟩ := r.get e2
  refine ⟨⟨vs, v, t, ev⟩, fun x H' ⟨T, x', ex, hT, eH, f⟩ => ?_⟩
  have := f vs t
  rw [ev] at this
  cases this
  subst ex eH
  rw [Int.zero_add]
  exact new_pair hr hT (.int _) rv
theorem it_zipL {a b : Addr} {xs ys : List D} {o p : Option Nat} {L : Addr → Prop} (s : Src Γ0 ρ L H false a xs o) (s2 : Src Γ0 ρ L H false b ys p) : ItR Γ0 ρ L H (Itz Γ0.K a b) (pairs xs ys, fun h => chkM xs o h && chkM ys p h) := fun Z ρ2 h2 H2 k hr c => by
  simp only [Bool.and_eq_true] at c
  obtain ⟨vs, t, r⟩ := s Z ρ2 h2 H2 k hr c.1
  obtain ⟨ws, t2, r2⟩ := s2 Z ρ2 h2 H2 k hr c.2
  rw [if_neg (by decide)] at t t2
  refine ⟨⟨vs, ws, t, t2, by rw [r.length, r2.length, pairs_len]; omega⟩, fun i d e => ?_⟩
  obtain ⟨d1, d2, e1, e2, rfl⟩ := pairs_get e
  obtain ⟨v, ev, rv⟩ := r.get e1
  obtain ⟨w, ew, rw'⟩ := r2.get e2
  refine ⟨⟨vs, ws, v, w, t, t2, ev, ew⟩, fun x H' ⟨T, x', y', ex, hT, eH, f, f2⟩ => ?_⟩
  have q := f vs t
  have q2 := f2 ws t2
  rw [ev] at q
  rw [ew] at q2
  cases q; cases q2
  subst ex eH
  exact new_pair hr hT rv rw'
theorem it_zipT {a b : Addr} {xs ys : List D} {o p : Option Nat} {L : Addr → Prop} (s : Src Γ0 ρ L H true a xs o) (s2 : Src Γ0 ρ L H true b ys p) : ItR Γ0 ρ L H (RZ.ItzT Γ0.K a b) (pairs xs ys, fun h => chkM xs o h && chkM ys p h) := fun Z ρ2 h2 H2 k hr c => by
  simp only [Bool.and_eq_true] at c
  obtain ⟨vs, t, r⟩ := s Z ρ2 h2 H2 k hr c.1
  obtain ⟨ws, t2, r2⟩ := s2 Z ρ2 h2 H2 k hr c.2
  rw [if_pos rfl] at t t2
  refine ⟨⟨vs, ws, t, t2, by rw [r.length, r2.length, pairs_len]; omega⟩, fun i d e => ?_⟩
  obtain ⟨d1, d2, e1, e2, rfl⟩ := pairs_get e
  obtain ⟨v, ev, rv⟩ := r.get e1
  obtain ⟨w, ew, rw'⟩ := r2.get e2
  refine ⟨⟨vs, ws, v, w, t, t2, ev, ew⟩, fun x H' ⟨T, x', y', ex, hT, eH, f, f2⟩ => ?_⟩
  have q := f vs t
  have q2 := f2 ws t2
  rw [ev] at q
  rw [ew] at q2
  cases q; cases q2
  subst ex eH
  exact new_pair hr hT rv rw'
section
variable {fd : Nat → FuncData} {n : Nat} {N : List Str} {X : Cx} {x y tg : Expr} {a b : IE} {p pos : Pos}
abbrev SI (Γ : Gm) (n : Nat) (X : Cx) (c : II) (tg e : Expr) : Prop := PI X tg e (RdI Γ (evI Γ.P (run Γ.P n) c))
theorem si_e (c : Cxt Γ fd n N X) (ha : SE Γ n X a x) : SI Γ n X (.e a) tg x := by
  refine ⟨fun pins s σ H R I ⟨ρ, h, env, S, o⟩ => ?_⟩
  rw [evI] at o
  refine thn (ha.run pins s σ H (fun v H1 => (∃ s, v = .str s ∧ R (Its s) H1) ∨ (∃ a, v = .ref a ∧ (∃ xs, SqL X.K H1 a xs) ∧ R (Itl X.K a) H1) ∨ (∃ a, v = .ref a ∧ (∃ xs, SqT X.K H1 a xs) ∧ R (Itt X.K a) H1)) I
    ⟨ρ, h, env, S, o.bind.mono fun d h1 o1 ρ1 v H1 n1 r1 => ?_⟩) fun u s1 ⟨v, H1, I1, rv, q⟩ => ?_
  · have ks : Keep ρ1 (Lv Γ ρ1 h1) H1 ρ1 (Lv Γ ρ1 h1) H1 := ⟨fun _ _ e => e, fun _ _ e n => ⟨e, n⟩⟩
    split at o1
    · rename_i xs oo e
      by_cases st : ∃ s, d = .str s
      · obtain ⟨s, rfl⟩ := st
        cases r1
        simp only [itemsOf] at e
        cases e
        exact .inl ⟨s, rfl, o1 ρ1 H1 _ n1 it_str⟩
      · have e' : itemsN h1 d = some (xs, oo) := by
          unfold itemsN
          split
          · exact absurd ⟨_, rfl⟩ st
          · exact e
        obtain ⟨a, rfl, sr⟩ := src_of n1.hr r1 e'
        have cc : chkM xs oo h1 = true := by
          cases r1 <;> simp only [itemsN, itemsOf] at e' <;> first
            | (cases e'; rfl)
            | (cases e'; done)
            | skip
          split at e'
          · cases e'
            rename_i e2
            simp only [chkM, e2, beqs_refl]
          · cases e'
        obtain ⟨vs, t, _⟩ := sr Γ.hid ρ1 h1 H1 ks n1.hr cc
        rw [c.eK]
        cases ht : isTup d with
        | false =>
          rw [ht] at t sr
          exact .inr (.inl ⟨a, rfl, ⟨vs, t⟩, o1 ρ1 H1 _ n1 (it_list sr)⟩)
        | true =>
          rw [ht] at t sr
          exact .inr (.inr ⟨a, rfl, ⟨vs, t⟩, o1 ρ1 H1 _ n1 (it_tup sr)⟩)
    · exact o1.elim
  · rcases q with ⟨z, rfl, q⟩ | ⟨a, rfl, ⟨xs, t⟩, q⟩ | ⟨a, rfl, ⟨xs, t⟩, q⟩
    · obtain ⟨k, rfl⟩ := rv
      cases as : z.cps.all (· < 128) with
      | false => exact wpAny_pyIter_wide as (pi_one (tk := s1.toks) I1 _ (turn_str _ z k _ (.inr rfl)) ⟨_, Heap.get?_push_size _ rfl, rfl, rfl⟩ q)
      | true => exact wpAny_pyIter_ascii as (pi_one (tk := s1.toks) I1 _ (turn_str _ z k _ (.inl rfl)) ⟨_, Heap.get?_push_size _ rfl, rfl, rfl⟩ q)
    · obtain rfl : u = Value.ref a := rv
      obtain ⟨its, rv2, pl, _⟩ := I1.list t
      exact wpAny_pyIter_list pl.isList (pi_one (tk := s1.toks) I1 _ (turn_list a _) ⟨_, Heap.get?_push_size _ rfl, rfl, rfl⟩ q)
    · obtain rfl : u = Value.ref a := rv
      obtain ⟨its, rv2, pl, _⟩ := I1.tuple t
      exact wpAny_pyIter_tuple (show s1.heap.IsTuple a its.toArray from pl) (pi_one (tk := s1.toks) I1 _ (turn_tuple a _) ⟨_, Heap.get?_push_size _ rfl, rfl, rfl⟩ q)
end
end PY
end
section
set_option Elab.async false
set_option autoImplicit false
set_option linter.all false
set_option maxRecDepth 100000
/-! range, enumerate, zip; targets. -/
namespace PY
open PySem PySem.Spec PyProof.Rows L2
variable {Γ : Gm} {Γ0 : G0} {ρ ρ' ρ'' : List Addr} {h h' h'' : Hh} {H H' H'' : Hp}
theorem okR.eq {α : Type} {r : Res α} {Q : α → Hh → Prop} (x : okR r Q) : okR r fun a h => r = .ok a h ∧ Q a h := by
  obtain ⟨a, h, e, q⟩ := x.of
  rw [e]
  exact ⟨rfl, q⟩
theorem evEs_len {P : Prg} {T : Tab} : ∀ {cs : List IE} {env : En} {h h' : Hh} {ds : List D}, (∀ b : IE, IE.star b ∉ cs) → evEs P T cs env h = .ok ds h' → ds.length = cs.length
  | [], env, h, h', ds, _, e => by rw [evEs] at e; cases e; rfl
  | a :: r, env, h, h', ds, hn, e => by
    have ha : ∀ b, a ≠ .star b := fun b q => hn b (by rw [q]; exact List.mem_cons_self)
    have e' : evEs P T (a :: r) env h = (evE P T a env h).bind fun d h1 => (evEs P T r env h1).bind fun ds h2 => .ok (d :: ds) h2 := by
      cases a <;> first | rfl | (exact absurd rfl (ha _))
    rw [e'] at e
    cases e1 : evE P T a env h with
    | ok d h1 =>
      rw [e1] at e
      simp only [Res.bind] at e
      cases e2 : evEs P T r env h1 with
      | ok ds h2 =>
        rw [e2] at e
        simp only at e
        cases e
        rw [List.length_cons, List.length_cons, evEs_len (fun b q => hn b (List.mem_cons_of_mem _ q)) e2]
      | ex _ _ => rw [e2] at e; cases e
      | stuck => rw [e2] at e; cases e
    | ex _ _ => rw [e1] at e; cases e
    | stuck => rw [e1] at e; cases e
section
variable {fd : Nat → FuncData} {n : Nat} {N : List Str} {X : Cx} {x y tg : Expr} {a b : IE} {p pos : Pos}
theorem PI.mono {e : Expr} {t t' : TI} (p : PI X tg e t) (m : ∀ σ H Q, t' σ H Q → t σ H Q) : PI X tg e t' := ⟨fun pins s σ H Q I q => p.run pins s σ H Q I (m σ H Q q)⟩
theorem inR_of {i : Int} (e : inR i = true) : -(2 ^ 62) ≤ i ∧ i < 2 ^ 62 := by
  unfold inR at e
  simp only [Bool.and_eq_true, decide_eq_true_eq] at e
  exact e
theorem si_range1 (c : Cxt Γ fd n N X) (fx : Facts Γ fd) (h1 : globB X.env.scope "range" = true) (hs : isStar x = false) (hn : ∀ b, a ≠ .star b) (ha : SE Γ n X a x) : SI Γ n X (.range [a]) tg (.Call (.Name "range" p) [x] [] pos) := by
  obtain ⟨g1, g2⟩ := glob_of h1
  have hm : X.mg "range" = none := by rw [c.eMg]; exact fx.free _ (by decide)
  refine PI.mono (pi_range1 g1 hm (sa_cons hn hs ha sa_nil) (star_each hs)) fun σ H R ⟨ρ, h, env, S, o⟩ => ?_
  rw [evI] at o
  refine ⟨ρ, h, env, S, o.bind.eq.mono fun ds h1 ⟨ee, o1⟩ ρ1 vs H1 n1 r1 => ?_⟩
  have l := evEs_len (by simpa using fun b q => hn b q.symm) ee
  split at o1
  · obtain ⟨v, rfl, q⟩ := r1.one
    cases q
    obtain ⟨g, o1⟩ := o1.guard
    exact ⟨_, rfl, (inR_of g).1, (inR_of g).2, o1 ρ1 H1 _ n1 it_range⟩
  · simp at l
  · exact o1.elim
theorem si_range2 (c : Cxt Γ fd n N X) (fx : Facts Γ fd) (h1 : globB X.env.scope "range" = true) (hs : isStar x = false) (hs2 : isStar y = false) (hn : ∀ b, a ≠ .star b) (hn2 : ∀ c, b ≠ .star c) (ha : SE Γ n X a x) (hb : SE Γ n X b y) : SI Γ n X (.range [a, b]) tg (.Call (.Name "range" p) [x, y] [] pos) := by
  obtain ⟨g1, g2⟩ := glob_of h1
  have hm : X.mg "range" = none := by rw [c.eMg]; exact fx.free _ (by decide)
  refine PI.mono (pi_range2 g1 hm (sa_cons hn hs ha (sa_cons hn2 hs2 hb sa_nil)) (by rw [star_each hs, star_each hs2]; rfl) (by rw [star_each hs2]; rfl)) fun σ H R ⟨ρ, h, env, S, o⟩ => ?_
  rw [evI] at o
  refine ⟨ρ, h, env, S, o.bind.eq.mono fun ds h1 ⟨ee, o1⟩ ρ1 vs H1 n1 r1 => ?_⟩
  have l := evEs_len (cs := [a, b]) (fun c q => by
    rcases List.mem_cons.mp q with q | q
    · exact hn c q.symm
    · exact hn2 c (List.mem_singleton.mp q).symm) ee
  split at o1
  · simp at l
  · obtain ⟨v, w, rfl, q, q2⟩ := r1.two
    cases q; cases q2
    obtain ⟨g, o1⟩ := o1.guard
    simp only [Bool.and_eq_true] at g
    exact ⟨_, _, rfl, ⟨(inR_of g.1).1, (inR_of g.1).2, (inR_of g.2).1, (inR_of g.2).2⟩, o1 ρ1 H1 _ n1 it_range⟩
  · exact o1.elim
theorem keep_id {L : Addr → Prop} : Keep ρ L H ρ L H := ⟨fun _ _ e => e, fun _ _ e n => ⟨e, n⟩⟩
theorem chk_now {d : D} {v : V} {xs : List D} {o : Option Nat} (r : RepS Γ ρ h H d v) (e : itemsN h d = some (xs, o)) : chkM xs o h = true := by
  cases r <;> simp only [itemsN, itemsOf] at e <;> first
    | (cases e; rfl)
    | (cases e; done)
    | skip
  split at e
  · cases e
    rename_i e2
    simp only [chkM, e2, beqs_refl]
  · cases e
theorem si_enum {elts : List Expr} {kk : Nat} {tpos : Pos} (c : Cxt Γ fd n N X) (fx : Facts Γ fd) (h1 : globB X.env.scope "enumerate" = true) (hs : isStar x = false) (ha : SE Γ n X a x) : SI Γ n X (.enum a) (.Tuple elts kk tpos) (.Call (.Name "enumerate" p) [x] [] pos) := by
  obtain ⟨g1, g2⟩ := glob_of h1
  have hm : X.mg "enumerate" = none := by rw [c.eMg]; exact fx.free _ (by decide)
  have he0 := star_each (env := X.env) (es := []) hs
  refine ⟨fun pins s σ H R I ⟨ρ, h, env, S, o⟩ => ?_⟩
  rw [evI] at o
  have rd : tCons (RdE Γ (ev Γ n a)) tNil σ H fun vs H1 => (∃ a, vs = [.ref a] ∧ (∃ xs, SqL X.K H1 a xs) ∧ R (Ite X.K a) H1) ∨ (∃ a, vs = [.ref a] ∧ (∃ xs, SqT X.K H1 a xs) ∧ R (IteT X.K a) H1) := by
    refine ⟨ρ, h, env, S, o.bind.mono fun d h1 o1 ρ1 v H1 n1 r1 => ?_⟩
    show _ ∨ _
    split at o1
    · rename_i xs oo e
      obtain ⟨a, rfl, sr⟩ := src_of n1.hr r1 e
      obtain ⟨vs, t, _⟩ := sr Γ.hid ρ1 h1 H1 keep_id n1.hr (chk_now r1 e)
      rw [c.eK]
      cases ht : isTup d with
      | false =>
        rw [ht] at t sr
        exact .inl ⟨a, rfl, ⟨vs, t⟩, o1 ρ1 H1 _ n1 (it_enumL sr)⟩
      | true =>
        rw [ht] at t sr
        exact .inr ⟨a, rfl, ⟨vs, t⟩, o1 ρ1 H1 _ n1 (it_enumT sr)⟩
    · exact o1.elim
  refine Call_ (ld_blt I g1 hm boot_enumerate (PyProof.Rows.callWith_type1 (thn ((pa_cons ha pa_nil he0).run pos pins s σ H _ I rd) fun us s1 ⟨vs, H1, I1, r1, q1⟩ => ?_) he0 rfl))
  have two : ∀ b : Addr, b ∈ [s1.heap.objs.size + 1, s1.heap.objs.size] → FpOk X pins H1 b := fun b hb => by
    have lt : s1.heap.objs.size ≤ b := by
      have q : b = s1.heap.objs.size + 1 ∨ b = s1.heap.objs.size := by simpa using hb
      rcases q with z | z
      · rw [z]; exact Nat.le_succ _
      · rw [z]; exact Nat.le_refl _
    exact I1.fpOk lt (I1.hok.fresh lt)
  rcases q1 with ⟨l, rfl, ⟨xs, t⟩, q⟩ | ⟨l, rfl, ⟨xs, t⟩, q⟩
  · obtain ⟨u, rfl, ru⟩ := vals1 r1
    obtain rfl : u = Value.ref l := ru
    obtain ⟨its, rv, pl, _⟩ := I1.list t
    refine call_enumerate_list pl.isList fun h' e1 e2 sz kk => wpAny_pyIter_enum e1 ⟨s1.heap.objs.size + 1, [s1.heap.objs.size + 1, s1.heap.objs.size], _, _, H1, rfl, I1.kept (t' := s1.toks) kk, turn_enum l (s1.heap.objs.size + 1) s1.heap.objs.size, ⟨⟨.none, e1⟩, e2, Nat.succ_ne_self _⟩, two, q⟩
  · obtain ⟨u, rfl, ru⟩ := vals1 r1
    obtain rfl : u = Value.ref l := ru
    obtain ⟨its, rv, pl, _⟩ := I1.tuple t
    refine enumT_call (begins_tuple l its.toArray) pl fun h' e1 e2 sz kk => wpAny_pyIter_enum e1 ⟨s1.heap.objs.size + 1, [s1.heap.objs.size + 1, s1.heap.objs.size], _, _, H1, rfl, I1.kept (t' := s1.toks) kk, turn_enumT l (s1.heap.objs.size + 1) s1.heap.objs.size, ⟨⟨.none, e1⟩, ⟨_, e2, rfl, rfl⟩, Nat.succ_ne_self _⟩, two, q⟩
theorem si_zip {elts : List Expr} {kk : Nat} {tpos : Pos} (c : Cxt Γ fd n N X) (fx : Facts Γ fd) (h1 : globB X.env.scope "zip" = true) (hs : isStar x = false) (hs2 : isStar y = false) (ha : SE Γ n X a x) (hb : SE Γ n X b y) : SI Γ n X (.zip a b) (.Tuple elts kk tpos) (.Call (.Name "zip" p) [x, y] [] pos) := by
  obtain ⟨g1, g2⟩ := glob_of h1
  have hm : X.mg "zip" = none := by rw [c.eMg]; exact fx.free _ (by decide)
  have he0 := star_each (env := X.env) (es := [y]) hs
  have he1 := star_each (env := X.env) (es := []) hs2
  refine PI.mono (RZ.pi_zipA g1 hm (pa_cons ha (pa_cons hb pa_nil he1) he0) he0 (star_any (by simp [hs2]))) fun σ H R ⟨ρ, h, env, S, o⟩ => ?_
  rw [evI] at o
  refine ⟨ρ, h, env, S, o.bind.mono fun d h1 o1 ρ1 v H1 n1 r1 => ⟨ρ1, h1, env, S.next n1, o1.bind.mono fun e h2 o2 ρ2 w H2 n2 r2 => ?_⟩⟩
  split at o2
  · rename_i xs oo ys pp e1 e2
    obtain ⟨g, o2⟩ := o2.guard
    obtain ⟨l, rfl, sr⟩ := src_of n2.hr (n2.rep r1) e1
    obtain ⟨l2, rfl, sr2⟩ := src_of n2.hr r2 e2
    obtain ⟨vs, t, _⟩ := sr Γ.hid ρ2 h2 H2 keep_id n2.hr (chk_now (n2.rep r1) e1)
    obtain ⟨ws, t2, _⟩ := sr2 Γ.hid ρ2 h2 H2 keep_id n2.hr (chk_now r2 e2)
    have g : isTup d = isTup e := by simpa using g
    rw [← g] at t2 sr2
    refine ⟨l, l2, vs, ws, rfl, ?_⟩
    rw [c.eK]
    cases ht : isTup d with
    | false =>
      rw [ht] at t sr t2 sr2
      exact .inl ⟨t, t2, o2 ρ2 H2 _ (n1.trans n2) (it_zipL sr sr2)⟩
    | true =>
      rw [ht] at t sr t2 sr2
      exact .inr ⟨t, t2, o2 ρ2 H2 _ (n1.trans n2) (it_zipT sr sr2)⟩
  · exact o2.elim

/-! ### targets -/
def RdG (Γ : Gm) (t : IT) : TG := fun v σ H Q => ∃ ρ h env d env', StR Γ ρ h H env σ ∧ RepS Γ ρ h H d v ∧ tgt h d env t = some env' ∧ ∀ σ', StR Γ ρ h H env' σ' → (∀ j, j ∉ slots t → σ'[j]? = σ[j]?) → Q σ' H
def RdGs (Γ : Gm) (ts : List IT) : TGs := fun vs σ H Q => ∃ ρ h env ds env', StR Γ ρ h H env σ ∧ RepsS Γ ρ h H ds vs ∧ tgts h ds env ts = some env' ∧ ∀ σ', StR Γ ρ h H env' σ' → (∀ j, j ∉ slotss ts → σ'[j]? = σ[j]?) → Q σ' H
theorem PG.mono {t t' : TG} (p : PG X tg t) (m : ∀ v σ H Q, t' v σ H Q → t v σ H Q) : PG X tg t' := ⟨fun pins s σ H v u Q I r q => p.run pins s σ H v u Q I r (m v σ H Q q)⟩
theorem PGs.mono {es : List Expr} {t t' : TGs} (p : PGs X es t) (m : ∀ v σ H Q, t' v σ H Q → t v σ H Q) : PGs X es t' := ⟨fun pins s σ H v u Q I r q => p.run pins s σ H v u Q I r (m v σ H Q q)⟩
theorem StR.put {env : En} {σ : St} {i : Nat} {d : D} {v : V} (S : StR Γ ρ h H env σ) (r : RepS Γ ρ h H d v) : StR Γ ρ h H (env.set i (some d)) (σ.set i (some v)) := by
  refine ⟨S.hr, by simp [S.len], fun j e q => ?_⟩
  by_cases hj : i = j
  · subst hj
    have hi : i < env.length := by
      have := (List.getElem?_eq_some_iff.mp q).1
      simpa using this
    rw [List.getElem?_set_self hi] at q
    cases q
    exact ⟨v, by rw [List.getElem?_set_self (by rw [← S.len]; exact hi)], r⟩
  · rw [List.getElem?_set_ne hj] at q
    rw [List.getElem?_set_ne hj]
    exact S.get j e q
theorem assign_one {e : Expr} {es : List Expr} (h : isStar e = false) : assignEach (e :: es) X.env = (false, assign e X.env) :: assignEach es X.env := by
  cases e <;> first | rfl | (simp [isStar] at h; done)
theorem assign_len : ∀ {ts : List IT} {es : List Expr} {loc : Str → Bool}, chkTs N loc ts es = true → (assignEach es X.env).length = ts.length ∧ (assignEach es X.env).findIdx? (·.1) = none
  | [], es, loc, h => by
    cases es with
    | nil => exact ⟨rfl, rfl⟩
    | cons _ _ => simp [chkTs] at h
  | t :: ts, es, loc, h => by
    cases es with
    | nil => simp [chkTs] at h
    | cons e es =>
      simp only [chkTs, Bool.and_eq_true, Bool.not_eq_true'] at h
      obtain ⟨i1, i2⟩ := assign_len h.2.2
      rw [assign_one h.2.1]
      exact ⟨by simp [i1], by simp [List.findIdx?_cons, i2]⟩
mutual
theorem tg_ok (c : Cxt Γ fd n N X) {loc : Str → Bool} (hl : ∀ x, loc x = true → Loc X.env.scope x ∧ (X.fn x = true ∨ X.env.scope.names.lookup x = some .local)) : ∀ (t : IT) (e : Expr), chkT N loc t e = true → PG X e (RdG Γ t)
  | .n i, e, h => by
    unfold chkT at h
    split at h
    · rename_i x p
      simp only [Bool.and_eq_true, beq_iff_eq] at h
      obtain ⟨q1, q2⟩ := hl x h.2
      refine PG.mono (pg_name (i := i) (by rw [c.eN]; exact c.nd) (by rw [c.eN]; exact h.1) q1 q2) fun v σ H Q ⟨ρ, h, env, d, env', S, r, et, f⟩ => ?_
      simp only [tgt] at et
      split at et
      · cases et
        exact f _ (S.put r) fun j hj => by rw [List.getElem?_set_ne (fun z => hj (by simp [slots, z]))]
      · cases et
    · cases h
  | .tup ts, e, h => by
    unfold chkT at h
    split at h
    · rename_i es k p
      obtain ⟨l1, l2⟩ := assign_len (X := X) h
      refine PG.mono (pg_tup c.calm (tgs_ok c hl ts es h) l1 l2) fun v σ H Q ⟨ρ, h, env, d, env', S, r, et, f⟩ => ?_
      cases r with
      | tup t r =>
        simp only [tgt] at et
        refine ⟨_, _, rfl, ?_, ?_, ρ, h, env, _, env', S, r, et, fun σ' S' u => f σ' S' fun j hj => u j (by simpa only [slots] using hj)⟩
        · rw [c.eK]
          exact t.elim (fun z => .inl z.1) KTup.sq
        · rw [r.length]
          exact tgts_len et
      | _ => simp [tgt] at et
    · cases h
  | .star _ _, _, h => by simp [chkT] at h
theorem tgs_ok (c : Cxt Γ fd n N X) {loc : Str → Bool} (hl : ∀ x, loc x = true → Loc X.env.scope x ∧ (X.fn x = true ∨ X.env.scope.names.lookup x = some .local)) : ∀ (ts : List IT) (es : List Expr), chkTs N loc ts es = true → PGs X es (RdGs Γ ts)
  | [], es, h => by
    cases es with
    | nil =>
      refine PGs.mono pgs_nil fun v σ H Q ⟨ρ, h, env, d, env', S, r, et, f⟩ => ?_
      cases d with
      | nil =>
        simp only [tgts] at et
        cases et
        cases r
        exact ⟨rfl, f σ S fun _ _ => rfl⟩
      | cons _ _ => simp [tgts] at et
    | cons _ _ => simp [chkTs] at h
  | t :: ts, es, h => by
    cases es with
    | nil => simp [chkTs] at h
    | cons e es =>
      simp only [chkTs, Bool.and_eq_true, Bool.not_eq_true'] at h
      refine PGs.mono (pgs_cons (tg_ok c hl t e h.1) (tgs_ok c hl ts es h.2.2) (by rw [assign_one h.2.1]; rfl)) fun v σ H Q ⟨ρ, h, env, d, env', S, r, et, f⟩ => ?_
      cases d with
      | nil => simp [tgts] at et
      | cons d ds =>
        simp only [tgts] at et
        split at et
        · rename_i env1 e1
          cases r with
          | cons r rr =>
            refine ⟨_, _, rfl, ρ, h, env, d, env1, S, r, e1, fun σ1 S1 u1 => ⟨ρ, h, env1, ds, env', S1, rr, et, fun σ2 S2 u2 => f σ2 S2 fun j hj => ?_⟩⟩
            simp only [slotss, List.mem_append, not_or] at hj
            rw [u2 j hj.2, u1 j hj.1]
        · cases et
theorem tgts_len {h : Hh} : ∀ {ds : List D} {env env' : En} {ts : List IT}, tgts h ds env ts = some env' → ds.length = ts.length
  | ds, env, env', [], e => by
    cases ds with
    | nil => rfl
    | cons _ _ => simp [tgts] at e
  | ds, env, env', t :: ts, e => by
    cases ds with
    | nil => simp [tgts] at e
    | cons d ds =>
      simp only [tgts] at e
      split at e
      · simp [tgts_len e]
      · cases e
end
end
end PY
end
section
set_option Elab.async false
set_option autoImplicit false
set_option linter.all false
set_option maxRecDepth 100000
/-! Comprehensions. -/
namespace PY
open PySem PySem.Spec PyProof.Rows L2
variable {Γ : Gm} {Γ0 : G0} {ρ ρ' ρ'' ρ1 : List Addr} {h h' h'' h1 : Hh} {H H' H'' H1 : Hp} {D0 : Addr}
theorem Keep.trans {L L' L'' : Addr → Prop} (a : Keep ρ L H ρ' L' H') (b : Keep ρ' L' H' ρ'' L'' H'') : Keep ρ L H ρ'' L'' H'' := ⟨fun i x e => b.pre i x (a.pre i x e), fun x o e n => b.st x o (a.st x o e n).1 (a.st x o e n).2⟩
theorem Nxt.unhide (n : Nxt (Γ.hide D0) ρ h H ρ' h' H') : Nxt Γ ρ h H ρ' h' H' := by
  refine ⟨n.pre, fun a o e nl => ?_, fun a e z => ?_, n.hr.unhide, fun a e => n.hd a (.inl e)⟩
  · by_cases hd : a = D0
    · rw [hd] at e ⊢
      exact (n.hd D0 (.inr rfl)).trans e
    · exact n.st a o e fun z => nl (by
        rcases z with (z | z) | z
        · exact .inl z
        · exact absurd z hd
        · exact .inr z)
  · rcases n.lv a e (z.imp .inl id) with (q | q) | q
    · exact .inl q
    · subst q
      rcases z with z | ⟨i, o, e1, e2, _⟩
      · exact .inl z
      · exact absurd (.inr rfl) (n.hr.sep i _ e1)
    · exact .inr q
theorem Nxt.hset {o : HO} (hr1 : HpR Γ ρ1 H1 h1) (hD : H1 D0 = none) (n : Nxt Γ ρ1 h1 H1 ρ h H) (hr : HpR (Γ.hide D0) ρ H h) : Nxt Γ ρ1 h1 H1 ρ h (upd H D0 o) := by
  refine ⟨n.pre, fun a u e nl => ?_, n.lv, hr.hset.unhide, fun a e => ?_⟩
  · rw [upd_ne (fun z => by rw [z, hD] at e; cases e)]
    exact n.st a u e nl
  · rw [upd_ne (fun z => by
      obtain ⟨u, q⟩ := hr1.hid a e
      rw [z, hD] at q; cases q)]
    exact n.hd a e
theorem hset_keep {o : HO} : Keep ρ (Lv (Γ.hide D0) ρ h) H ρ (Lv (Γ.hide D0) ρ h) (upd H D0 o) := ⟨fun _ _ e => e, fun a u e n => ⟨by rw [upd_ne (fun z => n (.inl (.inr z)))]; exact e, n⟩⟩
theorem not_mine (hr1 : HpR Γ ρ1 H1 h1) (hD : H1 D0 = none) : ¬ Γ.hid D0 := fun z => by
  obtain ⟨u, q⟩ := hr1.hid D0 z
  rw [hD] at q; cases q
theorem Nxt.adopt {ds : List D} {acc : List V} (hr1 : HpR Γ ρ1 H1 h1) (hD : H1 D0 = none) (n : Nxt Γ ρ1 h1 H1 ρ h H) (hr : HpR (Γ.hide D0) ρ H h) (eD : H D0 = some (.lst acc)) (r : RepsS (Γ.hide D0) ρ h H ds acc) :
    Nxt Γ ρ1 h1 H1 (ρ ++ [D0]) (h ++ [.lst ds]) H := by
  have nin : ∀ (i : Nat) (a : Addr), ρ[i]? = some a → a ≠ D0 := fun i a e z => hr.sep i a e (.inr z)
  have kp : Keep ρ (Lv (Γ.hide D0) ρ h) H (ρ ++ [D0]) (Lv Γ (ρ ++ [D0]) (h ++ [.lst ds])) H := ⟨fun i a e => by rw [List.getElem?_append_left (List.getElem?_eq_some_iff.mp e).1]; exact e, fun a u e nl => ⟨e, fun z => nl (by
    rcases (Lv.app hr.len).mp z with (z | z) | ⟨z, _⟩
    · exact .inl (.inl z)
    · exact .inr z
    · exact .inl (.inr z))⟩⟩
  refine ⟨?_, n.st, fun a e z => ?_, ⟨by simp [hr.len], fun i j a e1 e2 => ?_, fun i a e => ?_, fun i w a e1 e2 => ?_, fun a e => hr.hid a (.inl e), fun i a e z => ?_⟩, n.hd⟩
  · obtain ⟨t, q⟩ := n.pre
    exact ⟨t ++ [D0], by rw [q, List.append_assoc]⟩
  · rcases (Lv.app hr.len).mp z with z | ⟨z, _⟩
    · exact n.lv a e z
    · rw [z] at e; exact absurd hD e
  · rcases app_get e1 with e1 | ⟨e1, z1⟩
    · rcases app_get e2 with e2 | ⟨e2, z2⟩
      · exact hr.inj i j a e1 e2
      · exact absurd z2 (nin _ _ e1)
    · rcases app_get e2 with e2 | ⟨e2, z2⟩
      · exact absurd z1 (nin _ _ e2)
      · omega
  · rcases app_get e with e | ⟨_, z⟩
    · exact hr.trk i a e
    · exact ⟨_, by rw [z]; exact eD⟩
  · rcases app_get e1 with e1 | ⟨e1, z1⟩
    · have e2' : ρ[i]? = some a := by
        rw [List.getElem?_append_left (by rw [hr.len]; exact (List.getElem?_eq_some_iff.mp e1).1)] at e2
        exact e2
      exact (hr.cell i w a e1 e2').keep kp rfl
    · rcases app_get e2 with e2 | ⟨_, z2⟩
      · have := (List.getElem?_eq_some_iff.mp e2).1
        rw [hr.len] at this; omega
      · rw [z1, z2]; exact ⟨acc, eD, r.keep kp⟩
  · rcases app_get e with e | ⟨_, q⟩
    · exact hr.sep i a e (.inl z)
    · exact not_mine hr1 hD (q ▸ z)
theorem Nxt.lists {ds : List D} {acc : List V} (hr1 : HpR Γ ρ1 H1 h1) (hD : H1 D0 = none) (hr : HpR (Γ.hide D0) ρ H h) (eD : H D0 = some (.lst acc)) (r : RepsS (Γ.hide D0) ρ h H ds acc) : RepS Γ ρ h H (.list ds) (.ref D0) := by
  refine .list eD (fun z => ?_) (r.keep hide_keep)
  rcases z with z | ⟨i, o, e1, e2, _⟩
  · exact not_mine hr1 hD z
  · exact hr.sep i _ e1 (.inr rfl)
theorem wipeE_some {env : En} {i : Nat} {d : D} : ∀ {vs : List Nat}, (wipeE env vs)[i]? = some (some d) → env[i]? = some (some d) ∧ i ∉ vs
  | [], e => ⟨e, by simp⟩
  | v :: vs, e => by
    unfold wipeE at e
    by_cases hv : v = i
    · subst hv
      have l := (List.getElem?_eq_some_iff.mp e).1
      rw [List.getElem?_set_self (by simpa using l)] at e
      cases e
    · rw [List.getElem?_set_ne hv] at e
      obtain ⟨h1, h2⟩ := wipeE_some e
      exact ⟨h1, by simp [h2, Ne.symm hv]⟩
theorem wipeE_len {env : En} : ∀ (vs : List Nat), (wipeE env vs).length = env.length
  | [] => rfl
  | v :: vs => by unfold wipeE; rw [List.length_set, wipeE_len vs]
theorem StR.wipe {env : En} {σ : St} (S : StR Γ ρ h H env σ) (vs : List Nat) : StR Γ ρ h H (wipeE env vs) (L2.wipe σ vs) :=
  ⟨S.hr, by rw [wipeE_len, wipe_length]; exact S.len, fun i d e => by
    obtain ⟨h1, h2⟩ := wipeE_some e
    rw [wipe_out h2]
    exact S.get i d h1⟩
theorem wipe_at {σ : St} {i : Nat} : ∀ {vs : List Nat}, i ∈ vs → i < σ.length → (L2.wipe σ vs)[i]? = some none
  | v :: vs, m, l => by
    unfold L2.wipe
    by_cases hv : v = i
    · rw [hv, List.getElem?_set_self (by rw [wipe_length]; exact l)]
    · rw [List.getElem?_set_ne hv]
      rcases List.mem_cons.mp m with q | q
      · exact absurd q.symm hv
      · exact wipe_at q l
theorem wipe_eq {σ σ2 : St} {vs : List Nat} (l : σ2.length = σ.length) (u : ∀ j, j ∉ vs → σ2[j]? = (L2.wipe σ vs)[j]?) : L2.wipe σ2 vs = L2.wipe σ vs := by
  refine List.ext_getElem? fun i => ?_
  by_cases hv : i ∈ vs
  · by_cases hl : i < σ.length
    · rw [wipe_at hv hl, wipe_at hv (by rw [l]; exact hl)]
    · rw [List.getElem?_eq_none (by rw [wipe_length]; omega), List.getElem?_eq_none (by rw [wipe_length]; omega)]
  · rw [wipe_out hv, u i hv]
mutual
theorem tgt_len {h : Hh} : ∀ {t : IT} {d : D} {env env' : En}, tgt h d env t = some env' → env'.length = env.length
  | .n i, d, env, env', e => by
    unfold tgt at e
    split at e
    · cases e; simp
    · cases e
  | .tup ts, d, env, env', e => by
    unfold tgt at e
    split at e
    · exact tgts_lenE e
    · cases e
  | .star _ _, d, env, env', e => by (unfold tgt at e; cases e)
theorem tgts_lenE {h : Hh} : ∀ {ts : List IT} {ds : List D} {env env' : En}, tgts h ds env ts = some env' → env'.length = env.length
  | [], ds, env, env', e => by
    unfold tgts at e
    split at e
    · cases e; rfl
    · cases e
  | t :: ts, ds, env, env', e => by
    unfold tgts at e
    split at e
    · split at e
      · rename_i e1
        rw [tgts_lenE e, tgt_len e1]
      · cases e
    · cases e
end
section
variable {fd : Nat → FuncData} {n : Nat} {N : List Str} {X : Cx} {tg it elt : Expr} {pos : Pos}
def RdB (Γ : Gm) (f : En → Hh → Res Bool) : TT := fun σ H Q => ∃ ρ h env, StR Γ ρ h H env σ ∧ okR (f env h) fun b h' => ∀ ρ' H', Nxt Γ ρ h H ρ' h' H' → Q b H'
abbrev STs (Γ : Gm) (n : Nat) (X : Cx) (cs : List IE) (ifs : List Expr) : Prop := PTs X ifs (RdB Γ (evCs Γ.P (run Γ.P n) cs))
theorem PTs.mono {es : List Expr} {t t' : TT} (p : PTs X es t) (m : ∀ σ H Q, t' σ H Q → t σ H Q) : PTs X es t' := ⟨fun pins s σ H Q I q => p.run pins s σ H Q I (m σ H Q q)⟩
theorem sts_nil : STs Γ n X [] [] := PTs.mono pts_nil fun σ H Q ⟨ρ, h, env, S, o⟩ => by rw [evCs] at o; exact o ρ H (Nxt.refl S.hr)
theorem sts_one {a : IE} {e : Expr} (ha : ST Γ n X a e) : STs Γ n X [a] [e] := PTs.mono (pts_one ha) fun σ H Q ⟨ρ, h, env, S, o⟩ => by
  rw [evCs] at o
  refine ⟨ρ, h, env, S, o.bind.mono fun d h1 o1 => ?_⟩
  split at o1
  · rw [evCs] at o1
    exact ⟨true, rfl, o1⟩
  · exact ⟨false, rfl, o1⟩
  · exact o1.elim
theorem fold_ok {e : Expr} {env : Env} (h : isSet e = false) (x : Value) : foldedSetIterable e env x = pure x := by
  cases e <;> first | rfl | (simp [isSet] at h; done)
def gH (Γ : Gm) (t : IT) : TG := fun v σ H Q => ∃ D, RdG (Γ.hide D) t v σ H Q
def tH (Γ : Gm) (n : Nat) (cs : List IE) : TT := fun σ H Q => ∃ D : Addr, RdB (Γ.hide D) (evCs Γ.P (run Γ.P n) cs) σ H Q
def eH (Γ : Gm) (n : Nat) (a : IE) : TE := fun σ H Q => ∃ D : Addr, RdE (Γ.hide D) (ev Γ n a) σ H Q
theorem comp_rd {b : Bool} {own : List (Str × Nat)} {t : IT} {src : II} {cs : List IE} {a : IE} (hsub : ∀ j ∈ slots t, j ∈ own.map (·.2)) {σ : St} {H : Hp} {Q : VK} (q : RdE Γ (ev Γ n (.comp b own t src cs a)) σ H Q) :
    tLc (RdI Γ (evI Γ.P (run Γ.P n) src)) (gH Γ t) (tH Γ n cs) (eH Γ n a) (own.map (·.2)) σ H Q := by
  obtain ⟨ρ, h, env, S, o⟩ := q
  unfold ev evE at o
  refine ⟨ρ, h, env, S, o.bind.mono fun it h1 o1 ρ1 H1 J n1 ir D0 hD => ?_⟩
  generalize hvs : own.map (·.2) = vs at o1 hsub ⊢
  generalize hf : (fun d h => guard (it.2 h) (match tgt h d (wipeE env vs) t with
        | some env' => (evCs Γ.P (run Γ.P n) cs env' h).bind fun b h2 => match b with
          | true => (evE Γ.P (run Γ.P n) a env' h2).bind fun x h3 => .ok (some x) h3
          | false => .ok none h2
        | none => .stuck)) = f at o1
  have hf' := fun d h => congrFun (congrFun hf d) h
  refine ⟨fun i m H2 => ∃ ρ2 h2 acc ds, m = it.1.length - i ∧ i ≤ it.1.length ∧ Nxt Γ ρ1 h1 H1 ρ2 h2 H2 ∧ HpR (Γ.hide D0) ρ2 H2 h2 ∧ H2 D0 = some (.lst acc) ∧ RepsS (Γ.hide D0) ρ2 h2 H2 ds acc ∧
    okR ((compM f (it.1.drop i) h2).bind fun ds2 h3 => guard (it.2 h3) (mkL b (ds ++ ds2) h3)) (Fin1 Γ ρ1 h1 H1 Q), ⟨_, ρ1, h1, [], [], rfl, Nat.zero_le _, Nxt.lay n1.hr hD, n1.hr.hide hD, upd_same, .nil, o1.mono fun _ _ q => q.pre n1⟩, ?_⟩
  rintro i m H2 ⟨ρ2, h2, acc, ds, rfl, hi2, n2, hr2, eD, ra, o2⟩
  have kp : Keep ρ1 (Lv Γ ρ1 h1) H1 ρ2 (Lv (Γ.hide D0) ρ2 h2) H2 := ⟨n2.keep.pre, fun a u e nl => ⟨n2.st a u e nl, fun z => by
    rcases z with (z | z) | z
    · exact nl (n2.lv a (by rw [e]; simp) (.inl z))
    · rw [z, hD] at e; cases e
    · exact nl (n2.lv a (by rw [e]; simp) (.inr z))⟩⟩
  cases ed : it.1[i]? with
  | none =>
    have ei : i = it.1.length := by
      have := List.getElem?_eq_none_iff.mp ed
      omega
    subst ei
    rw [List.drop_length] at o2
    simp only [compM, Res.bind, List.append_nil] at o2
    obtain ⟨g, o2⟩ := o2.guard
    refine .inl ⟨(ir _ ρ2 h2 H2 kp hr2 g).1, ?_⟩
    unfold mkL at o2
    obtain ⟨_, o2⟩ := o2.guard
    cases b with
    | true => exact o2 _ (.ref D0) H2 (Nxt.adopt n1.hr hD n2 hr2 eD ra) (.ref (by rw [← hr2.len]; simp))
    | false => exact o2 _ (.ref D0) H2 n2 (Nxt.lists n1.hr hD hr2 eD ra)
  | some d =>
    obtain ⟨il, ev0⟩ := List.getElem?_eq_some_iff.mp ed
    rw [List.drop_eq_getElem_cons il, ev0] at o2
    rw [compM] at o2
    have o3 := o2.bind.bind
    rw [← hf'] at o3
    obtain ⟨g, o3⟩ := o3.guard
    obtain ⟨hgo, hyl⟩ := (ir _ ρ2 h2 H2 kp hr2 g).2 i d ed
    refine .inr ⟨hgo, fun H' => ∃ ρ2 h2 acc ds, it.1.length - (i + 1) = it.1.length - (i + 1) ∧ i + 1 ≤ it.1.length ∧ Nxt Γ ρ1 h1 H1 ρ2 h2 H' ∧ HpR (Γ.hide D0) ρ2 H' h2 ∧ H' D0 = some (.lst acc) ∧ RepsS (Γ.hide D0) ρ2 h2 H' ds acc ∧
      okR ((compM f (it.1.drop (i + 1)) h2).bind fun ds2 h3 => guard (it.2 h3) (mkL b (ds ++ ds2) h3)) (Fin1 Γ ρ1 h1 H1 Q), fun H' p => ⟨_, by omega, p⟩, fun x H' yl => ?_⟩
    obtain ⟨nx, rx⟩ := hyl x H' yl
    split at o3
    · rename_i env' et
      have S1 : StR (Γ.hide D0) ρ2 h2 H' env σ := ⟨nx.hr, S.len, fun i d e => (S.get i d e).imp fun v q => ⟨q.1, q.2.keep (n1.keep.trans (kp.trans nx.keep))⟩⟩
      have S2 := S1.wipe vs
      refine ⟨D0, ρ2, h2, wipeE env vs, d, env', S2, rx, et, fun σ2 S3 u2 => ⟨wipe_eq (by rw [← S3.len, tgt_len et, wipeE_len, S.len]) fun j hj => u2 j fun q => hj (hsub j q), D0, ρ2, h2, env', S3, o3.bind.mono fun bb h3 o4 ρ3 H3 n3 => ?_⟩⟩
      have n23 := nx.trans n3
      cases bb with
      | true =>
        show ite _ _ _
        rw [if_pos rfl]
        refine ⟨D0, ρ3, h3, env', S3.next n3, o4.bind.mono fun z h4 o5 ρ4 y H4 n4 r4 => ?_⟩
        have n24 := n23.trans n4
        have e4 : H4 D0 = some (.lst acc) := (n24.hd D0 (.inr rfl)).trans eD
        have ra4 := (n24.reps ra).append (.cons r4 .nil)
        have o6 : okR ((compM f (it.1.drop (i + 1)) h4).bind fun ds2 h3 => guard (it.2 h3) (mkL b ((ds ++ [z]) ++ ds2) h3)) (Fin1 Γ ρ1 h1 H1 Q) := by
          have o7 := okR.bind (show okR ((compM f (it.1.drop (i + 1)) h4).bind fun ds2 h5 => .ok (z :: ds2) h5) _ from o5)
          cases ec : compM f (it.1.drop (i + 1)) h4 with
          | ok ds2 h5 =>
            rw [ec] at o7
            simpa only [Res.bind, List.append_assoc, List.singleton_append] using (show okR (guard (it.2 h5) (mkL b (ds ++ z :: ds2) h5)) _ from o7)
          | ex _ _ => rw [ec] at o7; exact o7
          | stuck => rw [ec] at o7; exact o7
        refine ⟨acc, e4, ?_, ρ4, h4, acc ++ [y], ds ++ [z], rfl, il, Nxt.hset n1.hr hD (n2.trans n24.unhide) n24.hr, n24.hr.hset, upd_same, ra4.keep hset_keep, o6⟩
        obtain ⟨ds2, h5, _, q⟩ := o6.bind.of
        have q2 := q.guard.2
        unfold mkL at q2
        have q3 := of_decide_eq_true q2.guard.1
        simp only [List.length_append, List.length_cons, List.length_nil] at q3
        rw [ra.length]
        omega
      | false =>
        show ite _ _ _
        rw [if_neg Bool.false_ne_true]
        refine ⟨ρ3, h3, acc, ds, rfl, il, n2.trans n23.unhide, n23.hr, (n23.hd D0 (.inr rfl)).trans eD, n23.reps ra, ?_⟩
        have o7 := okR.bind (show okR ((compM f (it.1.drop (i + 1)) h3).bind fun ds2 h5 => .ok ds2 h5) _ from o4)
        cases ec : compM f (it.1.drop (i + 1)) h3 with
        | ok ds2 h5 =>
          rw [ec] at o7
          exact o7
        | ex _ _ => rw [ec] at o7; exact o7
        | stuck => rw [ec] at o7; exact o7
    · exact o3.elim
theorem locs_of {sc scope : Scope} {X' : Cx} (hsc : X'.env.scope = relS scope sc) (hfn : X'.fn = fun x => scope.names.lookup x == some .cell) (x : Str) (e : locB scope x = true) : Loc X'.env.scope x ∧ (X'.fn x = true ∨ X'.env.scope.names.lookup x = some .local) := by
  rw [hsc, hfn]
  unfold locB at e
  split at e
  · rename_i q
    have q2 := lookup_relS_keep (sc := sc) (by decide) q
    exact ⟨.inl q2, .inr q2⟩
  · rename_i q
    have q2 := lookup_relS_keep (sc := sc) (by decide) q
    exact ⟨.inr q2, .inl (by show (scope.names.lookup x == some .cell) = true; rw [q]; rfl)⟩
  · cases e
/-- what a comprehension's rules ask -/
structure CompOk (Γ : Gm) (n : Nat) (N : List Str) (X : Cx) (own : List (Str × Nat)) (t : IT) (src : II) (cs : List IE) (a : IE) (elt tg it : Expr) (ifs : List Expr) (scope : Scope) : Prop where
  bk : BlkOk X.N X.env.scope scope own
  tgt : chkT N (locB scope) t tg = true
  sub : ∀ j ∈ slots t, j ∈ own.map (·.2)
  st : isSet it = false
  over : SI Γ n X src tg it
  tests : ∀ (D : Addr) (s : Shared) (H : Hp) (C : Addr) (cl : List (Str × Addr)) (fp : List Addr), STs (Γ.hide D) n (X.blk s H scope (compEnvC scope cl C X.env) fp) cs ifs
  val : ∀ (D : Addr) (s : Shared) (H : Hp) (C : Addr) (cl : List (Str × Addr)) (fp : List Addr), SE (Γ.hide D) n (X.blk s H scope (compEnvC scope cl C X.env) fp) a elt
section
variable {own : List (Str × Nat)} {t : IT} {src : II} {cs : List IE} {a : IE} {ifs : List Expr} {scope : Scope}
theorem CompOk.pg (c : Cxt Γ fd n N X) (k : CompOk Γ n N X own t src cs a elt tg it ifs scope) (s : Shared) (H : Hp) (C : Addr) (cl : List (Str × Addr)) (fp : List Addr) : PG (X.blk s H scope (compEnvC scope cl C X.env) fp) tg (gH Γ t) :=
  ⟨fun pins s1 σ H1 v u Q I r ⟨D, q⟩ => (tg_ok ((c.hide D).blk k.bk.kind) (locs_of (sc := X.env.scope) rfl rfl) t tg k.tgt).run pins s1 σ H1 v u Q I r q⟩
theorem scomp (c : Cxt Γ fd n N X) {b : Bool} (k : CompOk Γ n N X own t src cs a elt tg it ifs scope) : SE Γ n X (.comp b own t src cs a) (.ListComp elt [⟨tg, it, ifs, 0⟩] scope pos) :=
  PE.mono (pe_lc c.calm (by rw [c.eN]; exact c.nd) k.over k.bk (k.pg c) (fun s H C cl fp => ⟨fun pins s1 σ H1 Q I ⟨D, q⟩ => (k.tests D s H C cl fp).run pins s1 σ H1 Q I q⟩)
    (fun s H C cl fp => ⟨fun pins s1 σ H1 Q I ⟨D, q⟩ => (k.val D s H C cl fp).run pins s1 σ H1 Q I q⟩) (fold_ok k.st)) fun σ H Q q => comp_rd k.sub q
end
end
end PY
end
section
set_option Elab.async false
set_option autoImplicit false
set_option linter.all false
set_option maxRecDepth 100000
/-! Statements. -/
namespace PY
open PySem PySem.Spec PyProof.Rows L2
variable {Γ : Gm} {Γ0 : G0} {ρ ρ' ρ'' ρ1 : List Addr} {h h' h'' h1 : Hh} {H H' H'' H1 : Hp}
def FlR (Γ : Gm) (ρ : List Addr) (h : Hh) (H : Hp) (D : Ends) : Fl → Prop
  | .nx env' h' => ∀ ρ' σ' H', Nxt Γ ρ h H ρ' h' H' → StR Γ ρ' h' H' env' σ' → D.nx σ' H'
  | .bk env' h' => ∀ ρ' σ' H', Nxt Γ ρ h H ρ' h' H' → StR Γ ρ' h' H' env' σ' → D.bk σ' H'
  | .ct env' h' => ∀ ρ' σ' H', Nxt Γ ρ h H ρ' h' H' → StR Γ ρ' h' H' env' σ' → D.ct σ' H'
  | .rt d h' => ∀ ρ' v H', Nxt Γ ρ h H ρ' h' H' → RepS Γ ρ' h' H' d v → D.rt v H'
  | .ex _ _ => False
  | .stuck => False
theorem FlR.pre {D : Ends} (n : Nxt Γ ρ h H ρ' h' H') : ∀ {f : Fl}, FlR Γ ρ h H D f → FlR Γ ρ' h' H' D f
  | .nx _ _, q => fun a b c m s => q a b c (n.trans m) s
  | .bk _ _, q => fun a b c m s => q a b c (n.trans m) s
  | .ct _ _, q => fun a b c m s => q a b c (n.trans m) s
  | .rt _ _, q => fun a b c m s => q a b c (n.trans m) s
  | .ex _ _, q => q
  | .stuck, q => q
theorem FlR.fl {α : Type} {D : Ends} {r : Res α} {f : α → Hh → Fl} (q : FlR Γ ρ h H D (r.fl f)) : okR r fun a h' => FlR Γ ρ h H D (f a h') := by
  cases r with
  | ok a h => exact q
  | ex e h => exact q
  | stuck => exact q
def RdS (Γ : Gm) (f : En → Hh → Fl) : TS := fun D σ H => ∃ ρ h env, StR Γ ρ h H env σ ∧ FlR Γ ρ h H D (f env h)
section
variable {fd : Nat → FuncData} {n : Nat} {N : List Str} {X : Cx} {e y tg : Expr} {a b : IE} {p pos : Pos}
abbrev SS (Γ : Gm) (n : Nat) (X : Cx) (c : IS) (s : Stmt) : Prop := PS X s (RdS Γ (evS Γ.P (run Γ.P n) c))
abbrev SSs (Γ : Gm) (n : Nat) (X : Cx) (c : List IS) (s : List Stmt) : Prop := PSs X s (RdS Γ (evSs Γ.P (run Γ.P n) c))
theorem ss_nil : SSs Γ n X [] [] := PSs.mono pss_nil fun D σ H ⟨ρ, h, env, S, o⟩ => by rw [evSs] at o; exact o ρ σ H (Nxt.refl S.hr) S
theorem ss_cons {c : IS} {cs : List IS} {s : Stmt} {ss : List Stmt} (h1 : SS Γ n X c s) (h2 : SSs Γ n X cs ss) : SSs Γ n X (c :: cs) (s :: ss) := PSs.mono (pss_cons h1 h2) fun D σ H ⟨ρ, h, env, S, o⟩ => by
  rw [evSs] at o
  refine ⟨ρ, h, env, S, ?_⟩
  cases e : evS Γ.P (run Γ.P n) c env h with
  | nx env1 h1 =>
    rw [e] at o
    exact fun ρ' σ' H' n1 S1 => ⟨ρ', h1, env1, S1, FlR.pre n1 o⟩
  | bk _ _ => rw [e] at o; exact o
  | ct _ _ => rw [e] at o; exact o
  | rt _ _ => rw [e] at o; exact o
  | ex _ _ => rw [e] at o; exact o
  | stuck => rw [e] at o; exact o
theorem ss_pass : SS Γ n X .pass (.Pass pos) := PS.mono ps_pass fun D σ H ⟨ρ, h, env, S, o⟩ => by rw [evS] at o; exact o ρ σ H (Nxt.refl S.hr) S
theorem ss_brk : SS Γ n X .brk (.Break pos) := PS.mono ps_break fun D σ H ⟨ρ, h, env, S, o⟩ => by rw [evS] at o; exact o ρ σ H (Nxt.refl S.hr) S
theorem ss_cont : SS Γ n X .cont (.Continue pos) := PS.mono ps_continue fun D σ H ⟨ρ, h, env, S, o⟩ => by rw [evS] at o; exact o ρ σ H (Nxt.refl S.hr) S
theorem ss_never {s : Stmt} : SS Γ n X .never s := ⟨fun pins s σ H D I ⟨ρ, h, env, S, o⟩ => by rw [evS] at o; exact o.elim⟩
theorem ss_retN : SS Γ n X .retN (.Return none pos) := PS.mono ps_retN fun D σ H ⟨ρ, h, env, S, o⟩ => by rw [evS] at o; exact o ρ .non H (Nxt.refl S.hr) .none
theorem ss_ret (ha : SE Γ n X a e) : SS Γ n X (.ret a) (.Return (some e) pos) := PS.mono (ps_ret ha) fun D σ H ⟨ρ, h, env, S, o⟩ => by
  rw [evS] at o
  exact ⟨ρ, h, env, S, (FlR.fl o).mono fun d h1 o1 ρ1 v H1 n1 r1 => o1 ρ1 v H1 n1 r1⟩
theorem sw_no {t : Option Expr} {l : Nat} {env : Env} (h : isComp e = false) : swapsWith e t l env = pure false := by
  cases e <;> first | rfl | (simp [isComp] at h; done)
theorem ss_expr (hc : isComp e = false) (ha : SE Γ n X a e) : SS Γ n X (.expr a) (.Expr e pos) := PS.mono (ps_expr ha (sw_no hc)) fun D σ H ⟨ρ, h, env, S, o⟩ => by
  rw [evS] at o
  exact ⟨ρ, h, env, S, (FlR.fl o).mono fun d h1 o1 ρ1 v H1 n1 r1 => o1 ρ1 σ H1 n1 (S.next n1)⟩
theorem ss_if {c : IE} {x : Expr} {as bs : List IS} {xs ys : List Stmt} (hc : ST Γ n X c x) (ha : SSs Γ n X as xs) (hb : SSs Γ n X bs ys) : SS Γ n X (.ifs c as bs) (.If x xs ys pos) := PS.mono (ps_if hc ha hb) fun D σ H ⟨ρ, h, env, S, o⟩ => by
  rw [evS] at o
  refine ⟨ρ, h, env, S, (FlR.fl o).mono fun d h1 o1 => ?_⟩
  split at o1
  · exact ⟨true, rfl, fun ρ1 H1 n1 => iteT ⟨ρ1, h1, env, S.next n1, o1.pre n1⟩⟩
  · exact ⟨false, rfl, fun ρ1 H1 n1 => iteF ⟨ρ1, h1, env, S.next n1, o1.pre n1⟩⟩
  · exact o1.elim
theorem ss_while {k : Nat} {c : IE} {x : Expr} {bs : List IS} {ys : List Stmt} (cx : Cxt Γ fd n N X) (hc : ST Γ n X c x) (hb : SSs Γ n X bs ys) : SS Γ n X (.while k c bs) (.While x ys [] pos) := PS.mono (ps_while (by rw [cx.xe]; exact PassesOwn.never) hc hb) fun D σ H ⟨ρ, h, env, S, o⟩ => by
  rw [evS] at o
  refine ⟨fun m σ H => ∃ ρ h env, StR Γ ρ h H env σ ∧ FlR Γ ρ h H D (whileM (fun env h => evE Γ.P (run Γ.P n) c env h) (fun env h => evSs Γ.P (run Γ.P n) bs env h) m env h), ⟨k, ρ, h, env, S, o⟩, ?_⟩
  rintro m σ H ⟨ρ, h, env, S, o⟩
  cases m with
  | zero => exact o.elim
  | succ m =>
    unfold whileM at o
    refine ⟨ρ, h, env, S, ?_⟩
    cases e : evE Γ.P (run Γ.P n) c env h with
    | ok d h1 =>
      simp only [ev, e] at o ⊢
      cases d with
      | bool bb =>
        refine ⟨bb, rfl, fun ρ1 H1 n1 => ?_⟩
        cases bb with
        | true =>
          refine iteT ⟨fun σ' H' => ∃ ρ h env, StR Γ ρ h H' env σ' ∧ FlR Γ ρ h H' D (whileM (fun env h => evE Γ.P (run Γ.P n) c env h) (fun env h => evSs Γ.P (run Γ.P n) bs env h) m env h), fun σ' H' q => ⟨m, Nat.lt_succ_self _, q⟩, ρ1, h1, env, S.next n1, ?_⟩
          simp only at o
          cases e2 : evSs Γ.P (run Γ.P n) bs env h1 with
          | nx env2 h2 => rw [e2] at o; exact fun ρ2 σ2 H2 n2 S2 => ⟨ρ2, h2, env2, S2, (FlR.pre n1 o).pre n2⟩
          | ct env2 h2 => rw [e2] at o; exact fun ρ2 σ2 H2 n2 S2 => ⟨ρ2, h2, env2, S2, (FlR.pre n1 o).pre n2⟩
          | bk env2 h2 => rw [e2] at o; exact fun ρ2 σ2 H2 n2 S2 => o ρ2 σ2 H2 (n1.trans n2) S2
          | rt d h2 => rw [e2] at o; exact fun ρ2 σ2 H2 n2 S2 => o ρ2 σ2 H2 (n1.trans n2) S2
          | ex _ _ => rw [e2] at o; exact o.elim
          | stuck => rw [e2] at o; exact o.elim
        | false => exact iteF (o ρ1 σ H1 n1 (S.next n1))
      | _ => exact (show False from o).elim
    | ex _ _ => rw [e] at o; exact o.elim
    | stuck => rw [e] at o; exact o.elim
theorem ss_for {t : IT} {src : II} {bs : List IS} {it : Expr} {ys : List Stmt} (cx : Cxt Γ fd n N X) (hl : ∀ x, X.fn x = true) (ht : chkT N (locB X.env.scope) t tg = true) (hset : isSet it = false) (hi : SI Γ n X src tg it) (hb : SSs Γ n X bs ys) : SS Γ n X (.for t src bs) (.For tg it ys [] pos) := by
  have hloc : ∀ x, locB X.env.scope x = true → Loc X.env.scope x ∧ (X.fn x = true ∨ X.env.scope.names.lookup x = some .local) := fun x e => by
    unfold locB at e
    split at e
    · rename_i q; exact ⟨.inl q, .inl (hl x)⟩
    · rename_i q; exact ⟨.inr q, .inl (hl x)⟩
    · cases e
  refine PS.mono (ps_for (by rw [cx.xe]; exact PassesOwn.never) cx.calm hi (tg_ok cx hloc t tg ht) hb (fold_ok hset)) fun D σ H ⟨ρ, h, env, S, o⟩ => ?_
  rw [evS] at o
  refine ⟨ρ, h, env, S, (FlR.fl o).mono fun it h1 o1 ρ1 H1 J n1 ir => ?_⟩
  generalize hf : (fun (d : PY.D) (env : En) (h : Hh) => match tgt h d env t with
    | some env => evSs Γ.P (run Γ.P n) bs env h
    | none => Fl.stuck) = f at o1
  have hf' := fun d env h => congrFun (congrFun (congrFun hf d) env) h
  refine ⟨fun i m σ2 H2 => ∃ ρ2 h2 env2, m = it.1.length - i ∧ i ≤ it.1.length ∧ Nxt Γ ρ1 h1 H1 ρ2 h2 H2 ∧ StR Γ ρ2 h2 H2 env2 σ2 ∧ FlR Γ ρ1 h1 H1 D (forM it.2 f (it.1.drop i) env2 h2), ⟨_, ρ1, h1, env, rfl, Nat.zero_le _, Nxt.refl n1.hr, S.next n1, FlR.pre n1 o1⟩, ?_⟩
  rintro i m σ2 H2 ⟨ρ2, h2, env2, rfl, hi2, n2, S2, o2⟩
  cases ed : it.1[i]? with
  | none =>
    have ei : i = it.1.length := by
      have := List.getElem?_eq_none_iff.mp ed
      omega
    subst ei
    rw [List.drop_length] at o2
    unfold forM at o2
    cases eg : it.2 h2 with
    | true =>
      rw [eg] at o2
      exact .inl ⟨(ir _ ρ2 h2 H2 n2.keep n2.hr eg).1, o2 ρ2 σ2 H2 n2 S2⟩
    | false => rw [eg] at o2; exact o2.elim
  | some d =>
    obtain ⟨il, ev0⟩ := List.getElem?_eq_some_iff.mp ed
    rw [List.drop_eq_getElem_cons il, ev0] at o2
    unfold forM at o2
    cases eg : it.2 h2 with
    | false => rw [eg] at o2; cases hx : f d env2 h2 <;> rw [hx] at o2 <;> exact o2.elim
    | true =>
      rw [eg] at o2
      obtain ⟨hgo, hyl⟩ := (ir _ ρ2 h2 H2 n2.keep n2.hr eg).2 i d ed
      refine .inr ⟨hgo, fun σ' H' => ∃ ρ2 h2 env2, it.1.length - (i + 1) = it.1.length - (i + 1) ∧ i + 1 ≤ it.1.length ∧ Nxt Γ ρ1 h1 H1 ρ2 h2 H' ∧ StR Γ ρ2 h2 H' env2 σ' ∧ FlR Γ ρ1 h1 H1 D (forM it.2 f (it.1.drop (i + 1)) env2 h2), fun σ' H' q => ⟨_, by omega, q⟩, fun x H' yl => ?_⟩
      obtain ⟨nx, rx⟩ := hyl x H' yl
      cases et : tgt h2 d env2 t with
      | none =>
        have : f d env2 h2 = .stuck := by rw [← hf', et]
        rw [this] at o2
        exact o2.elim
      | some env3 =>
        have ef : f d env2 h2 = evSs Γ.P (run Γ.P n) bs env3 h2 := by rw [← hf', et]
        rw [ef] at o2
        refine ⟨ρ2, h2, env2, d, env3, S2.next nx, rx, et, fun σ3 S3 _ => ⟨ρ2, h2, env3, S3, ?_⟩⟩
        have n23 := n2.trans nx
        cases e2 : evSs Γ.P (run Γ.P n) bs env3 h2 with
        | nx env4 h4 => rw [e2] at o2; exact fun ρ4 σ4 H4 n4 S4 => ⟨ρ4, h4, env4, rfl, il, n23.trans n4, S4, o2⟩
        | ct env4 h4 => rw [e2] at o2; exact fun ρ4 σ4 H4 n4 S4 => ⟨ρ4, h4, env4, rfl, il, n23.trans n4, S4, o2⟩
        | bk env4 h4 => rw [e2] at o2; exact fun ρ4 σ4 H4 n4 S4 => o2 ρ4 σ4 H4 (n23.trans n4) S4
        | rt d h4 => rw [e2] at o2; exact fun ρ4 v4 H4 n4 S4 => o2 ρ4 v4 H4 (n23.trans n4) S4
        | ex _ _ => rw [e2] at o2; exact o2.elim
        | stuck => rw [e2] at o2; exact o2.elim

/-! ### assignments -/
def RdL (Γ : Gm) (f : D → En → Hh → Res En) : TG := fun v σ H Q => ∃ ρ h env d, StR Γ ρ h H env σ ∧ RepS Γ ρ h H d v ∧ okR (f d env h) fun env' h' => ∀ ρ' σ' H', Nxt Γ ρ h H ρ' h' H' → StR Γ ρ' h' H' env' σ' → Q σ' H'
def RdLs (Γ : Gm) (f : List D → En → Hh → Res En) : TGs := fun vs σ H Q => ∃ ρ h env ds, StR Γ ρ h H env σ ∧ RepsS Γ ρ h H ds vs ∧ okR (f ds env h) fun env' h' => ∀ ρ' σ' H', Nxt Γ ρ h H ρ' h' H' → StR Γ ρ' h' H' env' σ' → Q σ' H'
abbrev SL (Γ : Gm) (n : Nat) (X : Cx) (t : IL) (tg : Expr) : Prop := PG X tg (RdL Γ (asg Γ.P (run Γ.P n) t))
abbrev SLs (Γ : Gm) (n : Nat) (X : Cx) (t : List IL) (tg : List Expr) : Prop := PGs X tg (RdLs Γ (asgs Γ.P (run Γ.P n) t))
theorem sl_name {i : Nat} {x : Str} (c : Cxt Γ fd n N X) (hl : ∀ x, X.fn x = true) (h1 : N[i]? = some x) (h2 : locB X.env.scope x = true) : SL Γ n X (.n i) (.Name x pos) := by
  have hloc : Loc X.env.scope x := by
    unfold locB at h2
    split at h2
    · rename_i q; exact .inl q
    · rename_i q; exact .inr q
    · cases h2
  refine PG.mono (pg_name (i := i) (by rw [c.eN]; exact c.nd) (by rw [c.eN]; exact h1) hloc (.inl (hl x))) fun v σ H Q ⟨ρ, h, env, d, S, r, o⟩ => ?_
  rw [asg] at o
  split at o
  · exact o ρ _ H (Nxt.refl S.hr) (S.put r)
  · exact o.elim
theorem assign_sub {o i : Expr} {env : Env} (h : isSl i = false) (v : Value) : assign (.Subscript o i pos) env v = (do
      let ov ← holding [v] (eval o env)
      let iv ← holding [v, ov] (eval i env)
      standAt pos
      holding [v, ov, iv] (setItem ov iv v)
      release [v, ov, iv] []) := by
  cases i <;> first | rfl | (simp [isSl] at h; done)
def rSetA : TSet := fun o i v H Q => rSetL o i v H Q ∨ ∃ a H', o = .ref a ∧ DPut H a i v H' ∧ Q H'
theorem set_any (hu : X.A.units + 64 < cLine) : PSet X rSetA := by
  intro pins s σ H o i v uo ui uv Q I r1 r2 r3 q
  rcases q with q | ⟨a, H', rfl, g, q⟩
  · exact set_list pins s σ H o i v uo ui uv Q I r1 r2 r3 q
  · obtain rfl : uo = Value.ref a := r1
    exact d_setItem (by omega) I g r2 r3 fun s4 I4 => ⟨H', I4, q⟩
theorem sl_sub {x i : Expr} (c : Cxt Γ fd n N X) (hs : isSl i = false) (ha : SE Γ n X a x) (hb : SE Γ n X b i) : SL Γ n X (.sub a b) (.Subscript x i pos) := by
  refine PG.mono (pg_sub ha hb (set_any c.room.units) (assign_sub hs)) fun v σ H Q ⟨ρ, h, env, d, S, r, o⟩ => ?_
  rw [asg] at o
  refine ⟨ρ, h, env, S, o.bind.mono fun d1 h1 o1 ρ1 v1 H1 n1 r1 => ⟨ρ1, h1, env, S.next n1, o1.bind.mono fun d2 h2 o2 ρ2 v2 H2 n2 r2 => ?_⟩⟩
  have r3 := n2.rep r1
  split at o2
  · rename_i t et
    split at o2
    · rename_i k ek
      split at o2
      · rename_i hl
        obtain ⟨a, vs, rfl, e1, e2, c1, c2⟩ := dctOf_ok n2.hr r3 et
        obtain rfl := keyOf_ok r2 ek
        obtain ⟨vs', z1, z2⟩ := tz_put (k := k) c2 ((n1.trans n2).rep r)
        have nx := Nxt.setD n2.hr e1 e2 (by simp) z2
        rw [← z1] at nx
        refine .inr ⟨a, _, rfl, DPut.k c1 ?_, o2 ρ2 σ _ ((n1.trans n2).trans nx) ((S.next (n1.trans n2)).next nx)⟩
        rw [List.length_zip]
        have := c2.length
        simp only [List.length_map] at this ⊢
        omega
      · exact o2.elim
    · exact o2.elim
  · split at o2
    · rename_i j k _
      cases r2
      split at o2
      · rename_i xs e2
        split at o2
        · rename_i q ej
          cases r3 with
          | ref e1 =>
            obtain ⟨vs, t, rr⟩ := n2.hr.lst e1 e2
            have nx := Nxt.setL n2.hr e1 e2 (by simp) (rr.set q ((n1.trans n2).rep r))
            exact .inl ⟨_, vs, k, q, rfl, rfl, t, by rw [rr.length]; exact ej, o2 ρ2 σ _ ((n1.trans n2).trans nx) ((S.next (n1.trans n2)).next nx)⟩
        · exact o2.elim
      · exact o2.elim
    · exact o2.elim
theorem sls_nil : SLs Γ n X [] [] := PGs.mono pgs_nil fun v σ H Q ⟨ρ, h, env, ds, S, r, o⟩ => by
  cases ds with
  | nil =>
    rw [asgs] at o
    cases r
    exact ⟨rfl, o ρ σ H (Nxt.refl S.hr) S⟩
  | cons _ _ => unfold asgs at o; exact o.elim
theorem sls_cons {t : IL} {ts : List IL} {es : List Expr} (h1 : SL Γ n X t e) (h2 : SLs Γ n X ts es) (hs : isStar e = false) : SLs Γ n X (t :: ts) (e :: es) := PGs.mono (pgs_cons h1 h2 (by rw [assign_one hs]; rfl)) fun v σ H Q ⟨ρ, h, env, ds, S, r, o⟩ => by
  cases r with
  | nil => unfold asgs at o; exact o.elim
  | cons r rr =>
    unfold asgs at o
    exact ⟨_, _, rfl, ρ, h, env, _, S, r, o.bind.mono fun env1 h1 o1 ρ1 σ1 H1 n1 S1 => ⟨ρ1, h1, env1, _, S1, n1.reps rr, o1.mono fun env2 h2 o2 ρ2 σ2 H2 n2 S2 => o2 ρ2 σ2 H2 (n1.trans n2) S2⟩⟩
theorem asgs_len {P : Prg} {T : Tab} : ∀ {ts : List IL} {ds : List D} {env : En} {h : Hh} {Q : En → Hh → Prop}, okR (asgs P T ts ds env h) Q → ds.length = ts.length
  | [], ds, env, h, Q, o => by
    cases ds with
    | nil => rfl
    | cons _ _ => unfold asgs at o; exact o.elim
  | t :: ts, ds, env, h, Q, o => by
    cases ds with
    | nil => unfold asgs at o; exact o.elim
    | cons _ _ =>
      unfold asgs at o
      obtain ⟨e, h1, _, o1⟩ := o.bind.of
      simp [asgs_len o1]
theorem sl_tup {ts : List IL} {es : List Expr} {k : Nat} (c : Cxt Γ fd n N X) (l1 : (assignEach es X.env).length = ts.length) (l2 : (assignEach es X.env).findIdx? (·.1) = none) (hs : SLs Γ n X ts es) : SL Γ n X (.tup ts) (.Tuple es k pos) := by
  refine PG.mono (pg_tup c.calm hs l1 l2) fun v σ H Q ⟨ρ, h, env, d, S, r, o⟩ => ?_
  cases r with
  | tup t r =>
    unfold asg at o
    refine ⟨_, _, rfl, ?_, ?_, ρ, h, env, _, S, r, o⟩
    · rw [c.eK]
      exact t.elim (fun z => .inl z.1) KTup.sq
    · rw [r.length]
      exact asgs_len o
  | _ => unfold asg at o; exact o.elim
theorem swn_of {tg e : Expr} {env : Env} (h : (isTupE e && isTupE tg) = false) (hl : isLst tg = false) : swappedStores [tg] e env = pure none := by
  cases tg <;> first | rfl | (simp [isLst] at hl; done) | skip
  cases e <;> first | rfl | (simp [isTupE] at h; done)
theorem ss_set {t : IL} (hc : isComp e = false) (ht : (isTupE e && isTupE tg) = false) (hl : isLst tg = false) (hs : isStar tg = false) (ha : SE Γ n X a e) (hg : SL Γ n X t tg) (nf : ∀ k o, t ≠ .fld k o) : SS Γ n X (.set t a) (.Assign [tg] e pos) :=
  PS.mono (ps_asg ha hg (by unfold swapsWithSole; exact sw_no hc) (swn_of ht hl) (by rw [assign_one hs]; rfl)) fun D σ H ⟨ρ, h, env, S, o⟩ => by
    rw [evS] at o
    exact ⟨ρ, h, env, S, (FlR.fl o).mono fun d h1 o1 ρ1 v H1 n1 r1 => ⟨ρ1, h1, env, d, S.next n1, r1, (FlR.fl o1).mono fun env2 h2 o2 ρ2 σ2 H2 n2 S2 => o2 ρ2 σ2 H2 (n1.trans n2) S2⟩⟩
end
end PY
end
section
set_option Elab.async false
set_option autoImplicit false
set_option linter.all false
set_option maxRecDepth 100000
/-! More statements. -/
namespace PY
open PySem PySem.Spec PyProof.Rows L2
variable {Γ : Gm} {Γ0 : G0} {ρ ρ' ρ'' ρ1 : List Addr} {h h' h'' h1 : Hh} {H H' H'' H1 : Hp}
section
variable {fd : Nat → FuncData} {n : Nat} {N : List Str} {X : Cx} {e y tg : Expr} {a b : IE} {p pos : Pos}
theorem ss_fld {o : Expr} {w : IE} {k : Nat} (c : Cxt Γ fd n N X) (fx : Facts Γ fd) (hc : isComp e = false) (ho : SE Γ n X w o) (ha : SE Γ n X a e) : SS Γ n X (.set (.fld k w) a) (.Assign [.Attribute o (Γ.an k) p] e pos) :=
  PS.mono (ps_fld ho ha (sw_no hc)) fun D σ H ⟨ρ, h, env, S, o⟩ => by
    rw [evS] at o
    refine ⟨ρ, h, env, S, (FlR.fl o).mono fun d h1 o1 ρ1 v H1 n1 r1 => ?_⟩
    have o2 := FlR.fl o1
    rw [asg] at o2
    refine ⟨ρ1, h1, env, S.next n1, o2.bind.mono fun x h2 o3 ρ2 v2 H2 n2 r2 => ?_⟩
    split at o3
    · rename_i i
      cases r2 with
      | @ref i a e1 =>
      split at o3
      · rename_i cl fs e2
        split at o3
        · rename_i C ec
          split at o3
          · rename_i j ej
            have hj := idxOf_get ej
            obtain ⟨C', dx, vs, c1, c2, c3, c4⟩ := n2.hr.ins e1 e2
            rw [ec] at c1; cases c1
            have F := fx.cls cl C ec
            have nj : (C.fields.map Γ.an)[j]? = some (Γ.an k) := by rw [List.getElem?_map, hj]; rfl
            have jl : j < C.fields.length := (List.getElem?_eq_some_iff.mp hj).1
            have rv := n2.rep r1
            have lz : ((C.fields.map Γ.an).zip vs).length < 1000 := by
              have := F.len
              rw [List.length_zip, List.length_map]; omega
            refine ⟨_, Γ.ca cl, dx, _, rfl, c2, by rw [c.eK]; exact F.cls, by rw [c.eK]; exact F.noat k (List.mem_of_getElem? hj), lz, ?_⟩
            have step : ∀ (fs' : List PY.D) (vs' : List V), putF (Γ.an k) v ((C.fields.map Γ.an).zip vs) = (C.fields.map Γ.an).zip vs' → fs'.length ≤ C.fields.length → RepsS Γ ρ2 h2 H2 fs' vs' →
                Nxt Γ ρ2 h2 H2 ρ2 (h2.set i (.ins cl fs')) (upd H2 a (.ins (Γ.ca cl) dx (putF (Γ.an k) v ((C.fields.map Γ.an).zip vs)))) := fun fs' vs' eq l r =>
              Nxt.setC n2.hr e1 e2 (by simp) ⟨C, dx, vs', ec, by rw [upd_same, eq], l, r.keep (set_keep n2.hr e1 e2 (by simp))⟩
            split at o3
            · rename_i lt
              have nx := step (fs.set j d) (vs.set j v) (zip_put F.nd nj (by rw [c4.length]; exact lt)) (by simpa using c3) (c4.set j rv)
              exact o3 _ _ _ ((n1.trans n2).trans nx) ((S.next (n1.trans n2)).next nx)
            · split at o3
              · rename_i _ eq
                have nx := step (fs ++ [d]) (vs ++ [v]) (zip_new F.nd (by rw [c4.length, ← eq]; exact nj)) (by simp; omega) (c4.append (.cons rv .nil))
                exact o3 _ _ _ ((n1.trans n2).trans nx) ((S.next (n1.trans n2)).next nx)
              · exact o3.elim
          · exact o3.elim
        · exact o3.elim
      · exact o3.elim
    · exact o3.elim
theorem loc_of {sc : Scope} {x : Str} (h2 : locB sc x = true) : Loc sc x := by
  unfold locB at h2
  split at h2
  · rename_i q; exact .inl q
  · rename_i q; exact .inr q
  · cases h2
theorem ss_aug {i : Nat} {x : Str} {op : Operator} (c : Cxt Γ fd n N X) (hl : ∀ x, X.fn x = true) (h1 : N[i]? = some x) (h2 : locB X.env.scope x = true) (hop : op = .Add ∨ op = .Sub) (ha : SE Γ n X a e) : SS Γ n X (.aug i op a) (.AugAssign (.Name x p) op e pos) := by
  have go : ∀ (f : Int → Int → Int), PIp X op (ipI f) → (∀ d e h Q, okR (augD op d e h) Q → ∃ i j, d = .int i ∧ e = .int j ∧ Q (.int (f i j)) h) → SS Γ n X (.aug i op a) (.AugAssign (.Name x p) op e pos) := fun f hp hd => by
    refine PS.mono (ps_aug (i := i) (by rw [c.eN]; exact c.nd) (by rw [c.eN]; exact h1) (loc_of h2) ha hp (.inl (hl x))) fun D σ H ⟨ρ, h, env, S, o⟩ => ?_
    rw [evS] at o
    have o1 := FlR.fl o
    cases eg : getV env i with
    | none =>
      obtain ⟨_, _, _, q⟩ := o1.of
      rw [eg] at q
      exact q.elim
    | some d =>
      obtain ⟨v, e1, r⟩ := S.get i d (getV_of eg)
      refine ⟨v, e1, ρ, h, env, S, o1.mono fun w h1 o2 ρ1 v1 H1 n1 r1 => ?_⟩
      rw [eg] at o2
      obtain ⟨k, l, rfl, rfl, q⟩ := hd d w h1 _ (FlR.fl o2)
      cases r; cases r1
      exact ⟨k, l, rfl, rfl, q ρ1 _ H1 n1 ((S.next n1).put (.int _))⟩
  rcases hop with rfl | rfl
  · exact go _ ip_add fun d e h Q o => by
      cases d <;> cases e <;> first | (exact (show False from o).elim) | exact ⟨_, _, rfl, rfl, o⟩
  · exact go _ ip_sub fun d e h Q o => by
      cases d <;> cases e <;> first | (exact (show False from o).elim) | exact ⟨_, _, rfl, rfl, o⟩
theorem ss_augf {o : Expr} {w : IE} {k : Nat} {op : Operator} (c : Cxt Γ fd n N X) (fx : Facts Γ fd) (hop : op = .Add ∨ op = .Sub) (ho : SE Γ n X w o) (ha : SE Γ n X a e) : SS Γ n X (.augf k w op a) (.AugAssign (.Attribute o (Γ.an k) p) op e pos) := by
  have go : ∀ (f : Int → Int → Int), InOp X op (fun x y H Q => ∃ i j, x = .int i ∧ y = .int j ∧ Q (.int (f i j)) H) → (∀ d e h Q, okR (augD op d e h) Q → ∃ i j, d = .int i ∧ e = .int j ∧ Q (.int (f i j)) h) → SS Γ n X (.augf k w op a) (.AugAssign (.Attribute o (Γ.an k) p) op e pos) := fun f hp hd => by
    refine PS.mono (ps_fldaug ho ha hp) fun D σ H ⟨ρ, h, env, S, o⟩ => ?_
    rw [evS] at o
    refine ⟨ρ, h, env, S, (FlR.fl o).mono fun x h1 o1 ρ1 v1 H1 n1 r1 => ?_⟩
    split at o1
    · rename_i i
      cases r1 with
      | @ref i a e1 =>
      split at o1
      · rename_i cl fs e2
        split at o1
        · rename_i C ec
          split at o1
          · rename_i j ej
            split at o1
            · rename_i d0 e0
              have hj := idxOf_get ej
              obtain ⟨C', dx, vs, c1, c2, c3, c4⟩ := n1.hr.ins e1 e2
              rw [ec] at c1; cases c1
              have F := fx.cls cl C ec
              have nj : (C.fields.map Γ.an)[j]? = some (Γ.an k) := by rw [List.getElem?_map, hj]; rfl
              obtain ⟨v0, ev0, r0⟩ := c4.get e0
              refine ⟨a, _, dx, _, v0, rfl, c2, by rw [c.eK]; exact F.cls, by rw [c.eK]; exact F.noat k (List.mem_of_getElem? hj), zip_look F.nd nj ev0, ρ1, h1, env, S.next n1, (FlR.fl o1).mono fun y h2 o2 ρ2 v2 H2 n2 r2 => ?_⟩
              obtain ⟨x1, y1, rfl, rfl, q⟩ := hd d0 y h2 _ (FlR.fl o2)
              cases r0; cases r2
              refine ⟨x1, y1, rfl, rfl, ?_⟩
              split at q
              · rename_i cl' fs' e3
                split at q
                · rename_i g
                  obtain ⟨rfl, lt⟩ := g
                  have e1' : ρ2[i]? = some a := n2.keep.pre _ _ e1
                  obtain ⟨C', dx', vs', c1', c2', c3', c4'⟩ := n2.hr.ins e1' e3
                  rw [ec] at c1'; cases c1'
                  have lz : ((C.fields.map Γ.an).zip vs').length < 1000 := by
                    have := F.len
                    rw [List.length_zip, List.length_map]; omega
                  have nx : Nxt Γ ρ2 h2 H2 ρ2 (h2.set i (.ins cl' (fs'.set j (.int (f x1 y1))))) (upd H2 a (.ins (Γ.ca cl') dx' (putF (Γ.an k) (.int (f x1 y1)) ((C.fields.map Γ.an).zip vs')))) :=
                    Nxt.setC n2.hr e1' e3 (by simp) ⟨C, dx', vs'.set j (.int (f x1 y1)), ec, by rw [upd_same, zip_put F.nd nj (by rw [c4'.length]; exact lt)], by simpa using c3', (c4'.set j (.int _)).keep (set_keep n2.hr e1' e3 (by simp))⟩
                  exact ⟨dx', _, c2', lz, q _ _ _ ((n1.trans n2).trans nx) ((S.next (n1.trans n2)).next nx)⟩
                · exact q.elim
              · exact q.elim
            · exact o1.elim
          · exact o1.elim
        · exact o1.elim
      · exact o1.elim
    · exact o1.elim
  rcases hop with rfl | rfl
  · exact go _ in_add fun d e h Q o => by
      cases d <;> cases e <;> first | (exact (show False from o).elim) | exact ⟨_, _, rfl, rfl, o⟩
  · exact go _ in_sub fun d e h Q o => by
      cases d <;> cases e <;> first | (exact (show False from o).elim) | exact ⟨_, _, rfl, rfl, o⟩
/-! a comprehension stored -/
theorem ss_setLc {x : Str} {elt it : Expr} {own : List (Str × Nat)} {t : IT} {src : II} {cs : List IE} {ifs : List Expr} {scope : Scope} {i : Nat} {bb : Bool} {cpos : Pos} (c : Cxt Γ fd n N X) (hl : ∀ x, X.fn x = true) (k : CompOk Γ n N X own t src cs a elt tg it ifs scope) (h1 : N[i]? = some x) (h2 : X.env.scope.names.lookup x = some .local)
    (hline : (p.line == cpos.line) = true) (hany : (scope.names.any fun (n, k) => n == x && (k == .local || k == .cell)) = false) :
    SS Γ n X (.set (.n i) (.comp bb own t src cs a)) (.Assign [.Name x p] (.ListComp elt [⟨tg, it, ifs, 0⟩] scope cpos) pos) :=
  PS.mono (ps_setLc (i := i) (g := gH Γ t) (tt := tH Γ n cs) (te := eH Γ n a) c.calm (by rw [c.eN]; exact c.nd) (by rw [c.eN]; exact h1) h2 (sw_true c.kind h2 hline hany) k.over k.bk (k.pg c) (fun s H C cl fp => ⟨fun pins s1 σ H1 Q I ⟨D, q⟩ => (k.tests D s H C cl fp).run pins s1 σ H1 Q I q⟩)
    (fun s H C cl fp => ⟨fun pins s1 σ H1 Q I ⟨D, q⟩ => (k.val D s H C cl fp).run pins s1 σ H1 Q I q⟩) (fold_ok k.st)) fun D σ H ⟨ρ, h, env, S, o⟩ => by
      rw [evS] at o
      refine comp_rd k.sub ⟨ρ, h, env, S, (FlR.fl o).mono fun d h1 o1 ρ1 v H1 n1 r1 => ?_⟩
      have o2 := FlR.fl o1
      rw [asg] at o2
      split at o2
      · exact o2 ρ1 _ H1 n1 ((S.next n1).put r1)
      · exact o2.elim
/-! several names at once -/
def setAll {α : Type} : List Nat → List α → List (Option α) → List (Option α)
  | i :: is, v :: vs, σ => setAll is vs (σ.set i (some v))
  | _, _, σ => σ
theorem setAll_out {α : Type} : ∀ {is : List Nat} {vs : List α} {σ : List (Option α)} {i : Nat} {v : α}, i ∉ is → setAll is vs (σ.set i (some v)) = (setAll is vs σ).set i (some v)
  | [], vs, σ, i, v, _ => by cases vs <;> rfl
  | j :: is, [], σ, i, v, _ => rfl
  | j :: is, w :: vs, σ, i, v, hn => by
    simp only [List.mem_cons, not_or] at hn
    simp only [setAll]
    rw [List.set_comm _ _ hn.1]
    exact setAll_out hn.2
theorem setAll_snoc {α : Type} : ∀ {is : List Nat} {vs : List α} {σ : List (Option α)} {i : Nat} {v : α}, is.length = vs.length → setAll (is ++ [i]) (vs ++ [v]) σ = (setAll is vs σ).set i (some v)
  | [], [], σ, i, v, _ => rfl
  | j :: is, w :: vs, σ, i, v, l => by
    simp only [List.cons_append, setAll]
    exact setAll_snoc (by simpa using l)
theorem setAll_rev {α : Type} : ∀ {is : List Nat} {vs : List α} {σ : List (Option α)}, is.Nodup → is.length = vs.length → setAll is.reverse vs.reverse σ = setAll is vs σ
  | [], [], σ, _, _ => rfl
  | i :: is, v :: vs, σ, hn, l => by
    have hn := List.nodup_cons.mp hn
    simp only [List.reverse_cons]
    rw [setAll_snoc (by simpa using l), setAll_rev hn.2 (by simpa using l)]
    simp only [setAll]
    rw [setAll_out hn.1]
theorem stores_ok {pins : List (Addr × Obj)} {H : Hp} {E : Value → Shared → Prop} {Q : Unit → Shared → Prop} (c : Cxt Γ fd n N X) : ∀ {ps : List (Nat × Str)} {vs : List V} {us : List Value} {σ : St} {s : Shared}, (∀ q ∈ ps, N[q.1]? = some q.2 ∧ X.env.scope.names.lookup q.2 = some .local) → vs.length = ps.length →
    Inv X pins σ H s → Vals vs us → (∀ s', Inv X pins (setAll (ps.map (·.1)) vs σ) H s' → Q () s') → wpAny (model X.prog X.w) X.A (assignInOrder ((ps.map (·.2)).map fun x => bindName X.env x) us) Q E s
  | [], vs, us, σ, s, _, l, I, r, f => by
    cases vs with
    | nil => cases r; exact assignInOrder_nil (f s I)
    | cons _ _ => simp at l
  | q :: ps, vs, us, σ, s, hp, l, I, r, f => by
    cases r with
    | nil => simp at l
    | cons r rr =>
      have h0 := hp q List.mem_cons_self
      refine assignInOrder_cons (wpAny_bindName (store_ok I (by rw [c.eN]; exact c.nd) (by rw [c.eN]; exact h0.1) (.inl h0.2) r (fun s2 I2 => ?_) (.inr h0.2)))
      exact stores_ok c (fun q' h' => hp q' (List.mem_cons_of_mem _ h')) (by simpa using l) I2 rr f
def swN (sc : Scope) (ts vs : List Expr) : Option (List Str) :=
  let line := (ts.head?.map (·.pos.line)).getD 0
  let names := ts.filterMap fun
    | .Name id pos => if sc.names.lookup id == some .local && pos.line == line then some id else none
    | _ => none
  if (ts.length == 2 || ts.length == 3) && vs.length == ts.length && !(vs.any fun | .Starred .. => true | _ => false) && !(names.length != ts.length || names.eraseDups.length != names.length) && !vs.all (foldedForSure 8) && !vs.all (constantsAlone 8) then some names else none
theorem nb {b : Bool} (h : (!b) = true) : b = false := by
  cases b
  · rfl
  · cases h
theorem swN_ok {ts vs : List Expr} {env : Env} {names : List Str} {kt k2 : Nat} {pt p2 : Pos} (hk : env.scope.kind = .function) (h : swN env.scope ts vs = some names) : swappedStores [.Tuple ts kt pt] (.Tuple vs k2 p2) env = pure (some names) := by
  unfold swN at h
  simp only at h
  split at h
  · rename_i g
    obtain ⟨g, g6⟩ := Bool.and_eq_true_iff.mp g
    obtain ⟨g, g5⟩ := Bool.and_eq_true_iff.mp g
    obtain ⟨g, g4⟩ := Bool.and_eq_true_iff.mp g
    obtain ⟨g, g3⟩ := Bool.and_eq_true_iff.mp g
    obtain ⟨g1, g2⟩ := Bool.and_eq_true_iff.mp g
    replace g3 := nb g3
    replace g4 := nb g4
    replace g5 := nb g5
    replace g6 := nb g6
    have hb : env.blockKind = .function := by unfold Env.blockKind; rw [hk]; rfl
    cases h
    have g2' : (vs.length != ts.length) = false := by rw [bne, g2]; rfl
    have e0 : (!(ts.length == 2 || ts.length == 3) || vs.length != ts.length || env.blockKind != .function) = false := by rw [g1, g2', hb]; rfl
    have key : swappedStores [.Tuple ts kt pt] (.Tuple vs k2 p2) env = (if (!(ts.length == 2 || ts.length == 3) || vs.length != ts.length || env.blockKind != .function) = true then pure none else if (vs.any fun | .Starred .. => true | _ => false) = true then pure none else
      if ((ts.filterMap fun
    | .Name id pos => if env.scope.names.lookup id == some .local && pos.line == (ts.head?.map (·.pos.line)).getD 0 then some id else none
    | _ => none).length != ts.length || (ts.filterMap fun
    | .Name id pos => if env.scope.names.lookup id == some .local && pos.line == (ts.head?.map (·.pos.line)).getD 0 then some id else none
    | _ => none).eraseDups.length != (ts.filterMap fun
    | .Name id pos => if env.scope.names.lookup id == some .local && pos.line == (ts.head?.map (·.pos.line)).getD 0 then some id else none
    | _ => none).length) = true then pure none else if vs.all (foldedForSure 8) = true then pure none else if vs.all (constantsAlone 8) = true then (do
        let _ ← (unsupported "assign.tuple-of-constant-expressions:order-of-the-stores" : Sem PUnit)
        pure (some (ts.filterMap fun
    | .Name id pos => if env.scope.names.lookup id == some .local && pos.line == (ts.head?.map (·.pos.line)).getD 0 then some id else none
    | _ => none))) else pure (some (ts.filterMap fun
    | .Name id pos => if env.scope.names.lookup id == some .local && pos.line == (ts.head?.map (·.pos.line)).getD 0 then some id else none
    | _ => none))) := rfl
    refine key.trans ?_
    refine (if_neg fun z => Bool.false_ne_true (e0.symm.trans z)).trans ?_
    refine (if_neg fun z => Bool.false_ne_true (g3.symm.trans z)).trans ?_
    refine (if_neg fun z => Bool.false_ne_true (g4.symm.trans z)).trans ?_
    refine (if_neg fun z => Bool.false_ne_true (g5.symm.trans z)).trans ?_
    exact if_neg fun z => Bool.false_ne_true (g6.symm.trans z)
  · cases h
def swO (sc : Scope) (ts vs : List Expr) : Bool :=
  (!(ts.length == 2 || ts.length == 3) || vs.length != ts.length) || ((vs.any fun | .Starred .. => true | _ => false) || (((ts.filterMap fun
    | .Name id pos => if sc.names.lookup id == some .local && pos.line == (ts.head?.map (·.pos.line)).getD 0 then some id else none
    | _ => none).length != ts.length || (ts.filterMap fun
    | .Name id pos => if sc.names.lookup id == some .local && pos.line == (ts.head?.map (·.pos.line)).getD 0 then some id else none
    | _ => none).eraseDups.length != (ts.filterMap fun
    | .Name id pos => if sc.names.lookup id == some .local && pos.line == (ts.head?.map (·.pos.line)).getD 0 then some id else none
    | _ => none).length) || vs.all (foldedForSure 8)))
theorem swO_ok {ts vs : List Expr} {env : Env} {kt k2 : Nat} {pt p2 : Pos} (h : swO env.scope ts vs = true) : swappedStores [.Tuple ts kt pt] (.Tuple vs k2 p2) env = pure none := by
  have key : swappedStores [.Tuple ts kt pt] (.Tuple vs k2 p2) env = (if (!(ts.length == 2 || ts.length == 3) || vs.length != ts.length || env.blockKind != .function) = true then pure none else if (vs.any fun | .Starred .. => true | _ => false) = true then pure none else
      if ((ts.filterMap fun
    | .Name id pos => if env.scope.names.lookup id == some .local && pos.line == (ts.head?.map (·.pos.line)).getD 0 then some id else none
    | _ => none).length != ts.length || (ts.filterMap fun
    | .Name id pos => if env.scope.names.lookup id == some .local && pos.line == (ts.head?.map (·.pos.line)).getD 0 then some id else none
    | _ => none).eraseDups.length != (ts.filterMap fun
    | .Name id pos => if env.scope.names.lookup id == some .local && pos.line == (ts.head?.map (·.pos.line)).getD 0 then some id else none
    | _ => none).length) = true then pure none else if vs.all (foldedForSure 8) = true then pure none else if vs.all (constantsAlone 8) = true then (do
        let _ ← (unsupported "assign.tuple-of-constant-expressions:order-of-the-stores" : Sem PUnit)
        pure (some (ts.filterMap fun
    | .Name id pos => if env.scope.names.lookup id == some .local && pos.line == (ts.head?.map (·.pos.line)).getD 0 then some id else none
    | _ => none))) else pure (some (ts.filterMap fun
    | .Name id pos => if env.scope.names.lookup id == some .local && pos.line == (ts.head?.map (·.pos.line)).getD 0 then some id else none
    | _ => none))) := rfl
  refine key.trans ?_
  unfold swO at h
  by_cases c0 : (!(ts.length == 2 || ts.length == 3) || vs.length != ts.length || env.blockKind != .function) = true
  · exact if_pos c0
  refine (if_neg c0).trans ?_
  by_cases c1 : (vs.any fun | .Starred .. => true | _ => false) = true
  · exact if_pos c1
  refine (if_neg c1).trans ?_
  rcases Bool.or_eq_true_iff.mp h with h | h
  · exact absurd (by rw [h]; rfl) c0
  rcases Bool.or_eq_true_iff.mp h with h | h
  · exact absurd h c1
  rcases Bool.or_eq_true_iff.mp h with h | h
  · exact if_pos h
  · by_cases c3 : ((ts.filterMap fun
    | .Name id pos => if env.scope.names.lookup id == some .local && pos.line == (ts.head?.map (·.pos.line)).getD 0 then some id else none
    | _ => none).length != ts.length || (ts.filterMap fun
    | .Name id pos => if env.scope.names.lookup id == some .local && pos.line == (ts.head?.map (·.pos.line)).getD 0 then some id else none
    | _ => none).eraseDups.length != (ts.filterMap fun
    | .Name id pos => if env.scope.names.lookup id == some .local && pos.line == (ts.head?.map (·.pos.line)).getD 0 then some id else none
    | _ => none).length) = true
    · exact if_pos c3
    · exact (if_neg c3).trans (if_pos h)
theorem ss_setW {t : IL} (hc : isComp e = false) (hw : swappedStores [tg] e X.env = pure none) (hs : isStar tg = false) (ha : SE Γ n X a e) (hg : SL Γ n X t tg) : SS Γ n X (.set t a) (.Assign [tg] e pos) :=
  PS.mono (ps_asg ha hg (by unfold swapsWithSole; exact sw_no hc) hw (by rw [assign_one hs]; rfl)) fun D σ H ⟨ρ, h, env, S, o⟩ => by
    rw [evS] at o
    exact ⟨ρ, h, env, S, (FlR.fl o).mono fun d h1 o1 ρ1 v H1 n1 r1 => ⟨ρ1, h1, env, d, S.next n1, r1, (FlR.fl o1).mono fun env2 h2 o2 ρ2 σ2 H2 n2 S2 => o2 ρ2 σ2 H2 (n1.trans n2) S2⟩⟩
def nms (N : List Str) : List IL → List Expr → Option (List (Nat × Str))
  | [], [] => some []
  | .n i :: ts, .Name x _ :: es => if N[i]? = some x then (nms N ts es).map ((i, x) :: ·) else none
  | _, _ => none
theorem nms_in {N : List Str} : ∀ {ts : List IL} {es : List Expr} {ps : List (Nat × Str)}, nms N ts es = some ps → (∀ q ∈ ps, N[q.1]? = some q.2) ∧ ts = ps.map fun q => IL.n q.1
  | [], [], ps, h => by simp only [nms] at h; cases h; exact ⟨by simp, rfl⟩
  | .n i :: ts, .Name x _ :: es, ps, h => by
    simp only [nms] at h
    split at h
    · rename_i hx
      obtain ⟨qs, e, rfl⟩ := Option.map_eq_some_iff.mp h
      obtain ⟨h1, h2⟩ := nms_in e
      refine ⟨fun q hq => ?_, by simp [h2]⟩
      rcases List.mem_cons.mp hq with rfl | hq
      · exact hx
      · exact h1 q hq
    · cases h
theorem asgs_all {P : Prg} {T : Tab} : ∀ {ps : List (Nat × Str)} {ds : List D} {env : En} {h : Hh} {Q : En → Hh → Prop}, okR (asgs P T (ps.map fun q => IL.n q.1) ds env h) Q → ds.length = ps.length ∧ Q (setAll (ps.map (·.1)) ds env) h
  | [], ds, env, h, Q, o => by
    cases ds with
    | nil => rw [List.map_nil, asgs] at o; exact ⟨rfl, o⟩
    | cons _ _ => unfold asgs at o; exact o.elim
  | q :: ps, ds, env, h, Q, o => by
    cases ds with
    | nil => unfold asgs at o; exact o.elim
    | cons d ds =>
      rw [List.map_cons] at o
      unfold asgs at o
      have o1 := o.bind
      rw [asg] at o1
      split at o1
      · obtain ⟨h1, h2⟩ := asgs_all (show okR (asgs P T (ps.map fun q => IL.n q.1) ds (env.set q.1 (some d)) h) Q from o1)
        exact ⟨by simp [h1], h2⟩
      · exact o1.elim
theorem StR.puts : ∀ {is : List Nat} {ds : List D} {vs : List V} {env : En} {σ : St}, StR Γ ρ h H env σ → RepsS Γ ρ h H ds vs → StR Γ ρ h H (setAll is ds env) (setAll is vs σ)
  | [], ds, vs, env, σ, S, r => by cases r <;> exact S
  | i :: is, ds, vs, env, σ, S, r => by
    cases r with
    | nil => exact S
    | @cons d v ds vs r rr =>
      show StR Γ ρ h H (setAll is ds (env.set i (some d))) (setAll is vs (σ.set i (some v)))
      exact StR.puts (S.put r) rr
theorem ss_swap {lts : List IL} {es vs : List Expr} {cs : List IE} {ps : List (Nat × Str)} {kt k2 : Nat} {pt p2 : Pos} (c : Cxt Γ fd n N X) (hps : nms N lts es = some ps) (hsw : swN X.env.scope es vs = some (ps.map (·.2))) (hloc : ∀ q ∈ ps, X.env.scope.names.lookup q.2 = some .local) (hnd : (ps.map (·.1)).Nodup)
    (ha : SE Γ n X (.tup cs) (.Tuple vs k2 p2)) : SS Γ n X (.set (.tup lts) (.tup cs)) (.Assign [.Tuple es kt pt] (.Tuple vs k2 p2) pos) := by
  obtain ⟨hN, hlts⟩ := nms_in hps
  refine ⟨fun pins s σ H D I ⟨ρ, h, env, S, o⟩ => ?_⟩
  rw [evS] at o
  have rd : RdE Γ (ev Γ n (.tup cs)) σ H fun v H1 => ∃ a xs, v = .ref a ∧ SqT X.K H1 a xs ∧ xs.length = ps.length ∧ D.nx (setAll (ps.map (·.1)) xs σ) H1 := by
    refine ⟨ρ, h, env, S, (FlR.fl o).mono fun d h1 o1 ρ1 v H1 n1 r1 => ?_⟩
    have o2 := FlR.fl o1
    cases r1 with
    | tup t r =>
      unfold asg at o2
      rw [hlts] at o2
      obtain ⟨l, q⟩ := asgs_all o2
      refine ⟨_, _, rfl, ?_, by rw [r.length]; exact l, q ρ1 _ H1 n1 ((S.next n1).puts r)⟩
      rw [c.eK]
      exact t.elim (fun z => .inl z.1) KTup.sq
    | _ => unfold asg at o2; exact o2.elim
  refine Assign_Tuple_swapped (thn (ha.run pins s σ H _ I rd) fun u s1 ⟨v, H1, I1, rv, a, xs, ev, ht, hl, q⟩ => ?_) (by unfold swapsWithSole; exact sw_no rfl) (swN_ok c.kind hsw)
  subst ev
  obtain rfl : u = Value.ref a := rv
  obtain ⟨its, rv, pt, hz⟩ := I1.tuple ht
  have hlen : its.toArray.size = (ps.map (·.2)).length := by rw [List.size_toArray, ← rv.length, hl, List.length_map]
  rw [← hlen]
  refine unpackItems_tuple (I1.ok.hd c.calm) pt fun h' hx => ?_
  have I2 : Inv X pins σ H1 { s1 with heap := h' } := I1.kept (t' := s1.toks) fun b o e => hx b o (Nat.ne_of_lt (Heap.lt_size e)) e
  have hrev : Vals xs.reverse its.reverse := Vals.reverse rv
  have key := stores_ok (E := X.xe) (Q := fun _ s' => SP X pins D .next s') (ps := ps.reverse) (vs := xs.reverse) (us := its.reverse) c (fun q hq => ⟨hN q (List.mem_reverse.mp hq), hloc q (List.mem_reverse.mp hq)⟩) (by simp [hl]) I2 hrev fun s' I3 => by
    rw [List.map_reverse, setAll_rev hnd (by simp [hl])] at I3
    exact ⟨_, H1, I3, q⟩
  rw [List.map_reverse] at key
  simpa using key
theorem sw_off {v : Expr} {x : Str} {l : Nat} {elt : Expr} {gs : List Comprehension} {scope : Scope} {env : Env} (hk : env.scope.kind = .function) (h : (env.scope.names.lookup x == some .local && p.line == pos.line && !(scope.names.any fun (n, k) => n == x && (k == .local || k == .cell))) = false) : swapsWith (.ListComp elt gs scope pos) (some (.Name x p)) l env = pure false := by
  have hb : env.blockKind = .function := by unfold Env.blockKind; rw [hk]; rfl
  have e : (env.blockKind == .function && env.kindOf x == some .local && p.line == pos.line && !(scope.names.any fun (n, k) => n == x && (k == .local || k == .cell))) = false := by
    rw [hb]
    exact h
  unfold swapsWith
  simp only [Expr.pos]
  simp only [e]
theorem ss_setC {t : IL} {elt : Expr} {gs : List Comprehension} {scope : Scope} {cpos : Pos} (hsw : swapsWith (.ListComp elt gs scope cpos) (some tg) pos.line X.env = pure false) (hl : isLst tg = false) (hs : isStar tg = false) (ha : SE Γ n X a (.ListComp elt gs scope cpos)) (hg : SL Γ n X t tg) : SS Γ n X (.set t a) (.Assign [tg] (.ListComp elt gs scope cpos) pos) :=
  PS.mono (ps_asg ha hg (by unfold swapsWithSole; exact hsw) (swn_of rfl hl) (by rw [assign_one hs]; rfl)) fun D σ H ⟨ρ, h, env, S, o⟩ => by
    rw [evS] at o
    exact ⟨ρ, h, env, S, (FlR.fl o).mono fun d h1 o1 ρ1 v H1 n1 r1 => ⟨ρ1, h1, env, d, S.next n1, r1, (FlR.fl o1).mono fun env2 h2 o2 ρ2 σ2 H2 n2 S2 => o2 ρ2 σ2 H2 (n1.trans n2) S2⟩⟩
end
end PY
end
section
set_option Elab.async false
set_option autoImplicit false
set_option linter.all false
set_option maxRecDepth 100000
/-! a, *b = xs. -/
namespace PY
open PySem PySem.W PySem.Calls PyProof.Rows PySem.Spec
section
variable {prog : Program} {w : World} {A : Around} {E : Value → Shared → Prop} {s : Shared}
theorem star_list {l : Addr} {items : Array Value} {v : Value} {rest : List Value} {Q : List Value → Shared → Prop} (hl : s.heap.IsList l items) (hh : A.handled = none) (hz : items.size ≤ 16384) (e : items.toList = v :: rest)
    (h : ∀ (h' : Heap) (tk : Nat), (∀ b o, s.heap.get? b = some o → h'.get? b = some o) → Q [v, .ref h'.objs.size] { s with heap := h'.push { cls := .type "list", data := .seq rest.toArray }, toks := tk }) : wpAny (model prog w) A (unpackItems (.ref l) 2 (some 1)) Q E s := by
  have sz : items.size = rest.length + 1 := by rw [← Array.length_toList, e]; rfl
  have hlt : l ≠ s.heap.objs.size := by obtain ⟨o, ho, _⟩ := hl; exact Nat.ne_of_lt (Heap.lt_size ho)
  have hll : l < s.heap.objs.size := by obtain ⟨o, ho, _⟩ := hl; exact Heap.lt_size ho
  unfold unpackItems
  refine wpAny_bind ?_
  unfold notIterableAtAll
  refine wpAny_bind (wpAny_specialOf hl.typeIs slot_list_iter.lookup ?_)
  refine wpAny_pure ?_
  simp only [Bool.false_eq_true, if_false]
  refine wpAny_bind (wpAny_holding (wpAny_pyIter_list hl ?_))
  refine wpAny_bind (wpAny_holding (kun_draw hlt 1 0 _ _ ⟨_, Heap.get?_push_size _ rfl, rfl, rfl⟩ (hl.push _) (by omega) fun h₁ hit₁ hs₁ => ?_))
  have hl₁ : h₁.IsList l items := (hl.push _).extBut hs₁.extBut hlt
  rw [Nat.zero_add] at hit₁
  have hit₁' := hit₁
  obtain ⟨oi, hoi, _⟩ := hit₁'
  have hl₁' := hl₁
  obtain ⟨ol, hol, _⟩ := hl₁'
  rw [List.drop_zero, e]
  rw [if_neg (show ¬ (((v :: rest).take 1).length < 1) by simp)]
  refine wpAny_bind (wpAny_holding (kun_collect (s := { s with heap := h₁ }) (T := "list_iterator") (.inr (.inr (.inl rfl))) (Walks.list (A := A.in1) hh s.heap.objs.size l hlt items) (fun j u st => st.1.typeIs) (k := 1) (by omega) ⟨hit₁, hl₁⟩ (Heap.lt_size hoi) (Heap.lt_size hol) (fun h₂ tk hk => ?_) (by rw [sizeLine_eq]; omega)))
  rw [e]
  show wpAny _ _ (if rest.length < 0 then _ else _) _ _ _
  rw [if_neg (Nat.not_lt_zero _)]
  show wpAny _ _ (newList (rest.take (rest.length - 0)) >>= fun d => pure ([v] ++ [d] ++ rest.drop (rest.length - 0))) _ _ _
  rw [Nat.sub_zero, List.take_length, List.drop_length]
  have he : ∀ b o, s.heap.get? b = some o → h₂.get? b = some o := fun b o q => by
    have hb : b ≠ s.heap.objs.size := Nat.ne_of_lt (Heap.lt_size q)
    exact hk b o hb (hs₁.extBut b o hb (Heap.get?_push_of_some _ q))
  exact wpAny_bind (wpAny_newList (s := { s with heap := h₂, toks := tk }) (wpAny_pure (h h₂ tk he)) (by rw [sizeLine_eq]; omega))
end
end PY
namespace PY
open PySem PySem.Spec PyProof.Rows L2
section
variable {X : Cx} {x y : Str} {p1 p2 p3 pos : Pos} {k : Nat} {t : TGs}
def gStar (K : PySem.W.Frag) (t : TGs) : TG := fun v σ H Q => ∃ a x0 xs, v = .ref a ∧ SqL K H a (x0 :: xs) ∧ xs.length < 16384 ∧ ∀ p, H p = none → t [x0, .ref p] σ (upd H p (.lst xs)) Q
theorem pg_star (hc : X.calm = true) (h : PGs X [.Name x p1, .Name y p2] t) : PG X (.Tuple [.Name x p1, .Starred (.Name y p2) p3] k pos) (gStar X.K t) := by
  refine ⟨fun pins s σ H v u Q I r hw => ?_⟩
  obtain ⟨a, x0, xs, rfl, hq, hl, hw⟩ := hw
  cases r
  obtain ⟨its, rv, ht, hz⟩ := I.list hq
  cases rv with
  | cons r0 rs =>
    rename_i u0 us
    rw [assign_Tuple]
    refine wpAny_bind (wpAny_standAt ?_)
    unfold unpack
    refine wpAny_bind (wpAny_holding (star_list ht.isList (I.ok.hd hc) (by simp; rw [← rs.length]; omega) rfl fun h' tk kp => ?_))
    have I1 : Inv X pins σ (upd H h'.objs.size (.lst xs)) { s with heap := h'.push { cls := .type "list", data := .seq us.toArray }, toks := tk } :=
      I.laidN (fun b o e => Heap.get?_push_of_some _ (kp b o e)) (by
        cases q : s.heap.get? h'.objs.size with
        | none => rfl
        | some o => exact absurd (Heap.lt_size (kp _ _ q)) (Nat.lt_irrefl _)) ((I.hok.kept kp).fresh (Nat.le_refl _)) ⟨by have := sizeLine_eq; omega, us, 0, rs, Heap.get?_push_size _ rfl⟩
    exact h.run pins _ σ _ [x0, .ref h'.objs.size] [u0, .ref h'.objs.size] Q I1 (.cons r0 (.cons rfl .nil)) (hw _ ((I.hok.kept kp).fresh (Nat.le_refl _)))
end
section
variable {Γ : Gm} {fd : Nat → FuncData} {n : Nat} {N : List Str} {X : Cx}
theorem sl_star {i j : Nat} {x y : Str} {k : Nat} {pos p1 p2 p3 : Pos} (c : Cxt Γ fd n N X) (hl : ∀ x, X.fn x = true) (h1 : N[i]? = some x) (l1 : locB X.env.scope x = true) (h2 : N[j]? = some y) (l2 : locB X.env.scope y = true) :
    SL Γ n X (.star [.n i] j) (.Tuple [.Name x p1, .Starred (.Name y p2) p3] k pos) := by
  have a := sls_cons (sl_name (pos := p1) c hl h1 l1) (sls_cons (sl_name (pos := p2) c hl h2 l2) sls_nil rfl) rfl
  refine PG.mono (pg_star c.calm a) fun v σ H Q ⟨ρ, h, env, d, S, r, o⟩ => ?_
  rw [asg] at o
  split at o
  · rename_i x0 xs e
    obtain ⟨a, vs, rfl, t, rr⟩ := rlOf_ok S.hr r e
    cases rr with
    | cons r0 rs =>
      split at o
      · rename_i g1
        split at o
        · rename_i g2
          split at o
          · rename_i g3
            refine ⟨a, _, _, rfl, by rw [c.eK]; exact t, by rw [rs.length]; exact g1, fun p hp => ?_⟩
            have nx := Nxt.valL S.hr hp rs
            refine ⟨ρ, h, env, [x0, .list xs], S.next nx.1, .cons (nx.1.rep r0) (.cons nx.2 .nil), ?_⟩
            rw [asgs, asg, if_pos g2]
            show okR (asgs _ _ _ _ _ _) _
            rw [asgs, asg, if_pos (by rw [List.length_set]; exact g3)]
            show okR (asgs _ _ _ _ _ _) _
            rw [asgs]
            exact fun ρ' σ' H' n' S' => o ρ' σ' H' (nx.1.trans n') S'
          · exact o.elim
        · exact o.elim
      · exact o.elim
  · exact o.elim
end
end PY
end
section
set_option Elab.async false
set_option autoImplicit false
set_option linter.all false
set_option maxRecDepth 100000
/-! The check of expressions holds what it says. -/
namespace PY
open PySem PySem.Spec PyProof.Rows L2
section
variable {fd : Nat → FuncData} {n : Nat} {N : List Str} {P : Prg}
theorem se_pair {Γ : Gm} {X : Cx} {c : IE} {e : Expr} (h : SE Γ n X c e) (ht : testy e = false) : SE Γ n X c e ∧ ST Γ n X c e := ⟨h, tplain ht h⟩
theorem all_star {P : Prg} {N : List Str} {sc : Scope} : ∀ {cs : List IE} {es : List Expr}, chkEs P N sc cs es = true → es = [] → cs = []
  | [], _, _, _ => rfl
  | c :: cs, es, h, e => by
    subst e
    cases c <;> simp [chkEs] at h
theorem chkEs_cons {P : Prg} {N : List Str} {sc : Scope} {c : IE} {cs : List IE} {es : List Expr} (hc : ∀ b, c ≠ .star b) (h : chkEs P N sc (c :: cs) es = true) : ∃ x xs, es = x :: xs ∧ isStar x = false ∧ chkE P N sc c x = true ∧ chkEs P N sc cs xs = true := by
  cases es with
  | nil => cases c <;> simp [chkEs] at h
  | cons x xs =>
    have h' : (!isStar x && (chkE P N sc c x && chkEs P N sc cs xs)) = true := by
      cases c <;> first | exact h | (exact absurd rfl (hc _))
    simp only [Bool.and_eq_true] at h'
    exact ⟨x, xs, rfl, nb h'.1, h'.2.1, h'.2.2⟩
theorem chkEs_plain {P : Prg} {N : List Str} {sc : Scope} {c : IE} {cs : List IE} {es : List Expr} (hs : es.all (!isStar ·) = true) (h : chkEs P N sc (c :: cs) es = true) : ∃ x xs, es = x :: xs ∧ isStar x = false ∧ chkE P N sc c x = true ∧ chkEs P N sc cs xs = true ∧ ∀ b, c ≠ .star b := by
  have hc : ∀ b, c ≠ .star b := fun b q => by
    subst q
    unfold chkEs at h
    split at h
    · simp [isStar] at hs
    · cases h
  obtain ⟨x, xs, e, h1, h2, h3⟩ := chkEs_cons hc h
  exact ⟨x, xs, e, h1, h2, h3, hc⟩
theorem chkI_set {P : Prg} {N : List Str} {sc : Scope} {tp : Bool} {i : II} {e : Expr} (h : chkI P N sc tp i e = true) : isSet e = false := by
  cases i with
  | e a =>
    unfold chkI at h
    simp only [Bool.and_eq_true] at h
    exact nb h.1
  | _ =>
    unfold chkI at h
    split at h
    · rfl
    · cases h
theorem tfrz {Γ : Gm} {X : Cx} {w : IE} {x : Expr} (ha : ST Γ n X w x) : ST Γ n X (.frz w) x := PT.mono ha fun σ H Q ⟨ρ, h, env, S, o⟩ => by
  unfold ev evE at o
  refine ⟨ρ, h, env, S, o.bind.mono fun d h1 o1 => ?_⟩
  split at o1
  · split at o1
    · obtain ⟨b, e, _⟩ := (show ∃ b, D.list _ = .bool b ∧ _ from o1)
      cases e
    · exact o1.elim
  · exact o1
theorem tite {Γ : Gm} {X : Cx} {a b' d' : IE} {x y z : Expr} {pos : Pos} (ha : ST Γ n X a x) (hb : ST Γ n X b' y) (hd : ST Γ n X d' z) : ST Γ n X (.ite a b' d') (.IfExp x y z pos) := by
  refine ⟨fun pins s σ H Q I ⟨ρ, h, env, S, o⟩ => ?_⟩
  unfold ev evE at o
  refine isTrue_IfExp (thn (ha.run pins s σ H (fun b H1 => if b = true then RdT Γ (ev Γ n b') σ H1 Q else RdT Γ (ev Γ n d') σ H1 Q) I ⟨ρ, h, env, S, o.bind.mono fun t h1 o1 => ?_⟩) fun t s1 ⟨H1, I1, q⟩ => ?_)
  · split at o1
    · exact ⟨true, rfl, fun ρ1 H1 n1 => iteT ⟨ρ1, h1, env, S.next n1, o1.mono fun _ _ ⟨b, e, k⟩ => ⟨b, e, fun ρ2 H2 n2 => k ρ2 H2 (n1.trans n2)⟩⟩⟩
    · exact ⟨false, rfl, fun ρ1 H1 n1 => iteF ⟨ρ1, h1, env, S.next n1, o1.mono fun _ _ ⟨b, e, k⟩ => ⟨b, e, fun ρ2 H2 n2 => k ρ2 H2 (n1.trans n2)⟩⟩⟩
    · exact o1.elim
  · cases t with
    | true => rw [if_pos rfl] at q; rw [if_pos rfl]; exact hb.run pins s1 σ H1 Q I1 q
    | false => rw [if_neg Bool.false_ne_true] at q; rw [if_neg Bool.false_ne_true]; exact hd.run pins s1 σ H1 Q I1 q
theorem isStar_ne {P : Prg} {N : List Str} {sc : Scope} {c : IE} {e : Expr} (h : chkE P N sc c e = true) : ∀ b, c ≠ .star b := fun b q => by
  subst q
  simp [chkE] at h
theorem bnot {b : Bool} (h : (!b) = true) : b = false := nb h
theorem ne_of_bne {a b : Str} (h : (a != b) = true) : a ≠ b := by simpa using h
set_option maxHeartbeats 4000000
mutual
theorem chkE_ok : ∀ (c : IE) (Γ : Gm) (X : Cx) (e : Expr), Γ.P = P → Cxt Γ fd n N X → Facts Γ fd → chkE P N X.env.scope c e = true → SE Γ n X c e ∧ ST Γ n X c e
  | .v i, Γ, X, e, hP, c, fx, h => by
    unfold chkE at h
    split at h
    · simp only [Bool.and_eq_true, beq_iff_eq] at h
      obtain ⟨h1, h2, h3, h4⟩ := h
      exact se_pair (sv c h1 h2 (ne_of_bne h3) (ne_of_bne h4)) rfl
    · cases h
  | .c d, Γ, X, e, hP, c, fx, h => by
    unfold chkE at h
    split at h
    · exact se_pair (sc h) rfl
    · cases h
  | .g k, Γ, X, e, hP, c, fx, h => by
    unfold chkE at h
    split at h
    · simp only [Bool.and_eq_true] at h
      obtain ⟨h1, h2⟩ := h
      split at h2
      · rename_i p ep
        rw [← hP] at ep
        exact se_pair (sg c fx h1 ep (beq_iff_eq.mp h2)) rfl
      · cases h2
    · cases h
  | .cl k, Γ, X, e, hP, c, fx, h => by
    unfold chkE at h
    split at h
    · simp only [Bool.and_eq_true] at h
      obtain ⟨h1, h2⟩ := h
      split at h2
      · rename_i p ep
        rw [← hP] at ep
        exact se_pair (scl c fx h1 ep (beq_iff_eq.mp h2)) rfl
      · cases h2
    · cases h
  | .bin m op a b, Γ, X, e, hP, c, fx, h => by
    unfold chkE at h
    split at h
    · simp only [Bool.and_eq_true, beq_iff_eq] at h
      obtain ⟨rfl, h1, h2⟩ := h
      exact se_pair (sbin c (chkE_ok a Γ X _ hP c fx h1).1 (chkE_ok b Γ X _ hP c fx h2).1) rfl
    · cases h
  | .un op a, Γ, X, e, hP, c, fx, h => by
    unfold chkE at h
    split at h
    · simp only [Bool.and_eq_true, beq_iff_eq] at h
      obtain ⟨rfl, h1⟩ := h
      have ih := chkE_ok a Γ X _ hP c fx h1
      cases op with
      | USub => exact se_pair (sneg c ih.1) rfl
      | Not => exact ⟨snot c ih.1, tnot ih.2⟩
      | _ =>
        refine ⟨⟨fun pins s σ H Q I ⟨ρ, h, env, S, o⟩ => ?_⟩, ⟨fun pins s σ H Q I ⟨ρ, h, env, S, o⟩ => ?_⟩⟩
        all_goals
          unfold ev evE at o
          obtain ⟨d, h1, _, o1⟩ := o.bind.of
          cases d <;> exact (show False from o1).elim
    · cases h
  | .cmp op a b, Γ, X, e, hP, c, fx, h => by
    unfold chkE at h
    split at h
    · simp only [Bool.and_eq_true, beq_iff_eq] at h
      obtain ⟨rfl, h0, h1, h2⟩ := h
      have iha := chkE_ok a Γ X _ hP c fx h1
      have ihb := chkE_ok b Γ X _ hP c fx h2
      exact ⟨scmp c fx (bnot h0) iha.1 ihb.1, tcmp c fx (bnot h0) iha.1 ihb.1⟩
    · cases h
  | .chain p q a b d, Γ, X, e, hP, c, fx, h => by
    unfold chkE at h
    split at h
    · simp only [Bool.and_eq_true, beq_iff_eq] at h
      obtain ⟨rfl, rfl, h0, h1, h2, h3⟩ := h
      have iha := chkE_ok a Γ X _ hP c fx h1
      have ihb := chkE_ok b Γ X _ hP c fx h2
      have ihd := chkE_ok d Γ X _ hP c fx h3
      exact ⟨schain c (bnot h0) iha.1 ihb.1 ihd.1, tchain c (bnot h0) iha.1 ihb.1 ihd.1⟩
    · cases h
  | .and es, Γ, X, e, hP, c, fx, h => by
    unfold chkE at h
    split at h
    · rename_i xs pos
      simp only [Bool.and_eq_true] at h
      have ih := (chkPs_ok es Γ X xs hP c fx h.2 (by simpa using bnot h.1)).1 pos
      exact ⟨PE.mono ih.1 fun σ H Q q => by simpa only [ev, evE] using q, ⟨fun pins s σ H Q I q => ih.2.run _ pins s σ H Q I (by simpa only [ev, evE] using q)⟩⟩
    · cases h
  | .or es, Γ, X, e, hP, c, fx, h => by
    unfold chkE at h
    split at h
    · rename_i xs pos
      simp only [Bool.and_eq_true] at h
      have ih := (chkPs_ok es Γ X xs hP c fx h.2 (by simpa using bnot h.1)).2 pos
      exact ⟨PE.mono ih.1 fun σ H Q q => by simpa only [ev, evE] using q, ⟨fun pins s σ H Q I q => ih.2.run _ pins s σ H Q I (by simpa only [ev, evE] using q)⟩⟩
    · cases h
  | .ite a b d, Γ, X, e, hP, c, fx, h => by
    unfold chkE at h
    split at h
    · simp only [Bool.and_eq_true] at h
      obtain ⟨h1, h2, h3⟩ := h
      have iha := chkE_ok a Γ X _ hP c fx h1
      have ihb := chkE_ok b Γ X _ hP c fx h2
      have ihd := chkE_ok d Γ X _ hP c fx h3
      exact ⟨site iha.2 ihb.1 ihd.1, tite iha.2 ihb.2 ihd.2⟩
    · cases h
  | .tup es, Γ, X, e, hP, c, fx, h => by
    unfold chkE at h
    split at h
    · exact se_pair (stup (chkEs_ok es Γ X _ hP c fx h)) rfl
    · cases h
  | .lst m es, Γ, X, e, hP, c, fx, h => by
    unfold chkE at h
    split at h
    · exact se_pair (slst (chkEs_ok es Γ X _ hP c fx h)) rfl
    · cases h
  | .star _, Γ, X, e, hP, c, fx, h => by simp [chkE] at h
  | .idx a b, Γ, X, e, hP, c, fx, h => by
    unfold chkE at h
    split at h
    · simp only [Bool.and_eq_true] at h
      obtain ⟨h0, h1, h2⟩ := h
      exact se_pair (sidx c (bnot h0) (chkE_ok a Γ X _ hP c fx h1).1 (chkE_ok b Γ X _ hP c fx h2).1) rfl
    · cases h
  | .slc a lo hi, Γ, X, e, hP, c, fx, h => by
    unfold chkE at h
    split at h
    · rename_i x l u st p1 p2
      simp only [Bool.and_eq_true] at h
      obtain ⟨h0, h1, h2, h3⟩ := h
      cases st with
      | none => exact se_pair (sslc c (chkE_ok a Γ X _ hP c fx h1).1 (chkO_ok lo Γ X _ hP c fx h2) (chkO_ok hi Γ X _ hP c fx h3)) rfl
      | some _ => cases h0
    · cases h
  | .rev a, Γ, X, e, hP, c, fx, h => by
    unfold chkE at h
    split at h
    · simp only [Bool.and_eq_true, decide_eq_true_eq] at h
      obtain ⟨rfl, h1⟩ := h
      exact se_pair (srev c (chkE_ok a Γ X _ hP c fx h1).1) rfl
    · cases h
  | .call f es ks, Γ, X, e, hP, c, fx, h => by
    unfold chkE at h
    split at h
    · simp only [Bool.and_eq_true] at h
      obtain ⟨h1, h2, h3, h4, h5⟩ := h
      split at h2
      · rename_i F eF
        rw [← hP] at eF
        simp only [Bool.and_eq_true, beq_iff_eq, Option.isNone_iff_eq_none] at h2
        exact se_pair (scall c fx h1 eF h2.1 h2.2 h3 (all_star h4) (chkEs_ok es Γ X _ hP c fx h4) (chkKs_ok ks Γ X _ hP c fx h5)) rfl
      · cases h2
    · cases h
  | .make k es ks, Γ, X, e, hP, c, fx, h => by
    unfold chkE at h
    split at h
    · simp only [Bool.and_eq_true] at h
      obtain ⟨h1, h2, h3, h4, h5⟩ := h
      split at h2
      · rename_i F eF
        rw [← hP] at eF
        exact se_pair (smake c fx h1 eF (beq_iff_eq.mp h2) h3 (all_star h4) (chkEs_ok es Γ X _ hP c fx h4) (chkKs_ok ks Γ X _ hP c fx h5)) rfl
      · cases h2
    · cases h
  | .mkv i es ks, Γ, X, e, hP, c, fx, h => by
    unfold chkE at h
    split at h
    · simp only [Bool.and_eq_true, beq_iff_eq] at h
      obtain ⟨⟨h1, h2, h3, h4⟩, h5, h6, h7⟩ := h
      exact se_pair (smkv c fx h1 h2 (ne_of_bne h3) (ne_of_bne h4) h5 (all_star h6) (chkEs_ok es Γ X _ hP c fx h6) (chkKs_ok ks Γ X _ hP c fx h7)) rfl
    · cases h
  | .bc m f es, Γ, X, e, hP, c, fx, h => by
    unfold chkE at h
    split at h
    · simp only [Bool.and_eq_true, beq_iff_eq, List.isEmpty_iff] at h
      obtain ⟨rfl, h1, rfl, h3, h4, h5⟩ := h
      exact se_pair (sbc c fx h1 (by simpa using bnot h3) h4 (chkEs_ok es Γ X _ hP c fx h5)) rfl
    · cases h
  | .bm m f o es, Γ, X, e, hP, c, fx, h => by
    unfold chkE at h
    split at h
    · simp only [Bool.and_eq_true, List.isEmpty_iff, decide_eq_true_eq] at h
      obtain ⟨rfl, h0, h1, h2, h3, h4, h5, h6, h7⟩ := h
      rw [← beq_iff_eq.mp h0]
      exact se_pair (sbm c h1 h2 h3 (by simpa using bnot h4) h5 (chkE_ok o Γ X _ hP c fx h6).1 (chkEs_ok es Γ X _ hP c fx h7)) rfl
    · cases h
  | .meth a o es ks, Γ, X, e, hP, c, fx, h => by
    unfold chkE at h
    split at h
    · simp only [Bool.and_eq_true, decide_eq_true_eq] at h
      obtain ⟨h0, h1, h2, h3, h4, h5, h6, h7⟩ := h
      rw [← beq_iff_eq.mp h0, ← hP]
      exact se_pair (smeth c fx h1 h2 h3 h4 (all_star h6) (chkE_ok o Γ X _ hP c fx h5).1 (chkEs_ok es Γ X _ hP c fx h6) (chkKs_ok ks Γ X _ hP c fx h7)) rfl
    · cases h
  | .attr a o, Γ, X, e, hP, c, fx, h => by
    unfold chkE at h
    split at h
    · simp only [Bool.and_eq_true] at h
      obtain ⟨h0, h1, h2⟩ := h
      rw [← beq_iff_eq.mp h0, ← hP]
      exact se_pair (sattr c fx h1 (chkE_ok o Γ X _ hP c fx h2).1) rfl
    · cases h
  | .isi a t, Γ, X, e, hP, c, fx, h => by
    unfold chkE at h
    split at h
    · simp only [Bool.and_eq_true, List.isEmpty_iff, beq_iff_eq] at h
      obtain ⟨rfl, rfl, h1, h2, h3, h4, h5⟩ := h
      refine se_pair (sisi c fx h1 h3 (bnot h2) ?_ (chkE_ok a Γ X _ hP c fx h5).1) rfl
      cases t with
      | b m =>
        simp only [Bool.and_eq_true, beq_iff_eq] at h4
        exact h4
      | c k =>
        simp only at h4
        split at h4
        · rename_i C eC
          rw [← hP] at eC
          exact ⟨C, eC, beq_iff_eq.mp h4⟩
        · cases h4
    · cases h
  | .comp m own t src cs a, Γ, X, e, hP, c, fx, h => by
    unfold chkE at h
    split at h
    · rename_i elt gs scope pos
      split at h
      · rename_i tg it ifs asy
        simp only [Bool.and_eq_true, beq_iff_eq, decide_eq_true_eq] at h
        obtain ⟨rfl, h1, h2, h3, h4, h5, h6, h7⟩ := h
        have bk := blkOk_by h1
        have k : CompOk Γ n N X own t src cs a elt tg it ifs scope := ⟨by rw [c.eN]; exact bk, h2, fun j hj => by
            have := List.all_eq_true.mp h3 j hj
            simpa using this, chkI_set h4, chkI_ok src Γ X tg it hP c fx h4,
          fun D s H C cl fp => chkCs_ok cs (Γ.hide D) (X.blk s H scope (compEnvC scope cl C X.env) fp) ifs hP ((c.hide D).blk bk.kind) fx h6 h5,
          fun D s H C cl fp => (chkE_ok a (Γ.hide D) (X.blk s H scope (compEnvC scope cl C X.env) fp) elt hP ((c.hide D).blk bk.kind) fx h7).1⟩
        exact se_pair (scomp c k) rfl
      · cases h
    · cases h
  | .frz a, Γ, X, e, hP, c, fx, h => by
    unfold chkE at h
    have ih := chkE_ok a Γ X e hP c fx h
    exact ⟨sfrz ih.1, tfrz ih.2⟩
termination_by c => sizeOf c
theorem chkO_ok : ∀ (o : Option IE) (Γ : Gm) (X : Cx) (e : Option Expr), Γ.P = P → Cxt Γ fd n N X → Facts Γ fd → chkO P N X.env.scope o e = true → SO Γ n X o e
  | none, Γ, X, e, hP, c, fx, h => by
    unfold chkO at h
    cases e with
    | none => exact so_none
    | some _ => cases h
  | some a, Γ, X, e, hP, c, fx, h => by
    unfold chkO at h
    split at h
    · exact so_some (chkE_ok a Γ X _ hP c fx h).1
    · cases h
termination_by c => sizeOf c
theorem chkPs_ok : ∀ (es : List IE) (Γ : Gm) (X : Cx) (xs : List Expr), Γ.P = P → Cxt Γ fd n N X → Facts Γ fd → chkPs P N X.env.scope es xs = true → xs ≠ [] → SAnd Γ n X es xs ∧ SOr Γ n X es xs
  | [], Γ, X, xs, hP, c, fx, h, ne => by
    unfold chkPs at h
    exact absurd (List.isEmpty_iff.mp h) ne
  | a :: r, Γ, X, xs, hP, c, fx, h, ne => by
    unfold chkPs at h
    split at h
    · rename_i x xs
      simp only [Bool.and_eq_true] at h
      have iha := chkE_ok a Γ X x hP c fx h.1
      cases xs with
      | nil =>
        cases r with
        | nil => exact ⟨sand1 iha.1 iha.2, sor1 iha.1 iha.2⟩
        | cons _ _ => simp [chkPs] at h
      | cons y ys =>
        have ihr := chkPs_ok r Γ X (y :: ys) hP c fx h.2 (by simp)
        cases r with
        | nil => simp [chkPs] at h
        | cons b r => exact ⟨sand2 iha.1 iha.2 ihr.1, sor2 iha.1 iha.2 ihr.2⟩
    · cases h
termination_by c => sizeOf c
theorem chkCs_ok : ∀ (es : List IE) (Γ : Gm) (X : Cx) (xs : List Expr), Γ.P = P → Cxt Γ fd n N X → Facts Γ fd → chkPs P N X.env.scope es xs = true → es.length ≤ 1 → STs Γ n X es xs
  | [], Γ, X, xs, hP, c, fx, h, l => by
    unfold chkPs at h
    rw [List.isEmpty_iff.mp h]
    exact sts_nil
  | a :: r, Γ, X, xs, hP, c, fx, h, l => by
    cases r with
    | cons _ _ => simp at l
    | nil =>
      unfold chkPs at h
      split at h
      · rename_i x xs
        simp only [Bool.and_eq_true] at h
        have iha := chkE_ok a Γ X x hP c fx h.1
        have : xs = [] := by
          have := h.2
          unfold chkPs at this
          exact List.isEmpty_iff.mp this
        subst this
        exact sts_one iha.2
      · cases h
termination_by c => sizeOf c
theorem chkEs_ok : ∀ (es : List IE) (Γ : Gm) (X : Cx) (xs : List Expr), Γ.P = P → Cxt Γ fd n N X → Facts Γ fd → chkEs P N X.env.scope es xs = true → SA Γ n X es xs
  | [], Γ, X, xs, hP, c, fx, h => by
    unfold chkEs at h
    rw [List.isEmpty_iff.mp h]
    exact sa_nil
  | a :: r, Γ, X, xs, hP, c, fx, h => by
    by_cases st : ∃ b, a = .star b
    · obtain ⟨b, rfl⟩ := st
      unfold chkEs at h
      split at h
      · simp only [Bool.and_eq_true] at h
        exact sa_star c (chkE_ok b Γ X _ hP c fx h.1).1 (chkEs_ok r Γ X _ hP c fx h.2)
      · cases h
    · have st' : ∀ b, a ≠ .star b := fun b q => st ⟨b, q⟩
      obtain ⟨x, ys, rfl, h1, h2, h3⟩ := chkEs_cons st' h
      exact sa_cons st' h1 (chkE_ok a Γ X x hP c fx h2).1 (chkEs_ok r Γ X ys hP c fx h3)
termination_by c => sizeOf c
theorem chkKs_ok : ∀ (es : List (Str × IE)) (Γ : Gm) (X : Cx) (xs : List Keyword), Γ.P = P → Cxt Γ fd n N X → Facts Γ fd → chkKs P N X.env.scope es xs = true → SK Γ n X es xs
  | [], Γ, X, xs, hP, c, fx, h => by
    unfold chkKs at h
    rw [List.isEmpty_iff.mp h]
    exact sk_nil
  | (m, a) :: r, Γ, X, xs, hP, c, fx, h => by
    unfold chkKs at h
    split at h
    · simp only [Bool.and_eq_true, beq_iff_eq] at h
      obtain ⟨rfl, h1, h2⟩ := h
      exact sk_cons (chkE_ok a Γ X _ hP c fx h1).1 (chkKs_ok r Γ X _ hP c fx h2)
    · cases h
termination_by c => sizeOf c
theorem chkI_ok : ∀ (i : II) (Γ : Gm) (X : Cx) (tg e : Expr), Γ.P = P → Cxt Γ fd n N X → Facts Γ fd → chkI P N X.env.scope (isTupE tg) i e = true → SI Γ n X i tg e
  | .e a, Γ, X, tg, e, hP, c, fx, h => by
    unfold chkI at h
    simp only [Bool.and_eq_true] at h
    exact si_e c (chkE_ok a Γ X e hP c fx h.2).1
  | .range [a], Γ, X, tg, e, hP, c, fx, h => by
    unfold chkI at h
    split at h
    · simp only [Bool.and_eq_true, List.isEmpty_iff, beq_iff_eq, decide_eq_true_eq] at h
      obtain ⟨rfl, rfl, h1, h2, h3, h4⟩ := h
      obtain ⟨x, ys, rfl, s1, s2, s3, s4⟩ := chkEs_plain h3 h4
      obtain rfl : ys = [] := by
        unfold chkEs at s3
        exact List.isEmpty_iff.mp s3
      exact si_range1 c fx h1 s1 s4 (chkE_ok a Γ X x hP c fx s2).1
    · cases h
  | .range [a, b], Γ, X, tg, e, hP, c, fx, h => by
    unfold chkI at h
    split at h
    · simp only [Bool.and_eq_true, List.isEmpty_iff, beq_iff_eq, decide_eq_true_eq] at h
      obtain ⟨rfl, rfl, h1, h2, h3, h4⟩ := h
      obtain ⟨x, ys, rfl, s1, s2, s3, s4⟩ := chkEs_plain h3 h4
      simp only [List.all_cons, Bool.and_eq_true] at h3
      obtain ⟨y, zs, rfl, t1, t2, t3, t4⟩ := chkEs_plain h3.2 s3
      obtain rfl : zs = [] := by
        unfold chkEs at t3
        exact List.isEmpty_iff.mp t3
      exact si_range2 c fx h1 s1 t1 s4 t4 (chkE_ok a Γ X x hP c fx s2).1 (chkE_ok b Γ X y hP c fx t2).1
    · cases h
  | .range [], Γ, X, tg, e, hP, c, fx, h => by
    unfold chkI at h
    split at h
    · simp only [Bool.and_eq_true, List.isEmpty_iff, beq_iff_eq, decide_eq_true_eq] at h
      obtain ⟨rfl, rfl, h1, h2, h3, h4⟩ := h
      simp at h2
    · cases h
  | .range (_ :: _ :: _ :: _), Γ, X, tg, e, hP, c, fx, h => by
    unfold chkI at h
    split at h
    · simp only [Bool.and_eq_true, List.isEmpty_iff, beq_iff_eq, decide_eq_true_eq] at h
      obtain ⟨rfl, rfl, h1, h2, h3, h4⟩ := h
      simp at h2
    · cases h
  | .enum a, Γ, X, tg, e, hP, c, fx, h => by
    unfold chkI at h
    split at h
    · simp only [Bool.and_eq_true, List.isEmpty_iff, beq_iff_eq] at h
      obtain ⟨h0, rfl, rfl, h1, h2, h3⟩ := h
      cases tg <;> first | (cases h0; done) | skip
      exact si_enum c fx h1 (bnot h2) (chkE_ok a Γ X _ hP c fx h3).1
    · cases h
  | .zip a b, Γ, X, tg, e, hP, c, fx, h => by
    unfold chkI at h
    split at h
    · simp only [Bool.and_eq_true, List.isEmpty_iff, beq_iff_eq] at h
      obtain ⟨h0, rfl, rfl, h1, h2, h3, h4, h5⟩ := h
      cases tg <;> first | (cases h0; done) | skip
      exact si_zip c fx h1 (bnot h2) (bnot h3) (chkE_ok a Γ X _ hP c fx h4).1 (chkE_ok b Γ X _ hP c fx h5).1
    · cases h
termination_by c => sizeOf c
end
end
end PY
end
section
set_option Elab.async false
set_option autoImplicit false
set_option linter.all false
set_option maxRecDepth 100000
/-! Statements: the check, and that it holds what it says. -/
namespace PY
open PySem PySem.Spec PyProof.Rows L2
section
variable (P : Prg) (N : List Str)
mutual
def chkL (sc : Scope) : IL → Expr → Bool
  | .n i, e => match e with
    | .Name x _ => N[i]? == some x && locB sc x
    | _ => false
  | .sub a b, e => match e with
    | .Subscript x y _ => !isSl y && (chkE P N sc a x && chkE P N sc b y)
    | _ => false
  | .tup ts, e => match e with
    | .Tuple es _ _ => chkLs sc ts es
    | _ => false
  | .fld _ _, _ => false
  | .star ts j, e => match ts, e with
    | [.n i], .Tuple [.Name x _, .Starred (.Name y _) _] _ _ => N[i]? == some x && (locB sc x && (N[j]? == some y && locB sc y))
    | _, _ => false
def chkLs (sc : Scope) : List IL → List Expr → Bool
  | [], es => es.isEmpty
  | t :: ts, es => match es with
    | e :: es => chkL sc t e && (!isStar e && chkLs sc ts es)
    | [] => false
end
/-- a comprehension, a target: is it stored from within? -/
def swapC (sc : Scope) (tg : Expr) (scope : Scope) (cpos : Pos) : Bool := match tg with
  | .Name x p => sc.names.lookup x == some .local && p.line == cpos.line && !(scope.names.any fun (n, k) => n == x && (k == .local || k == .cell))
  | _ => false
def chkA (sc : Scope) (t : IL) (a : IE) (tg v : Expr) : Bool := match t with
  | .fld k w => (match tg with
    | .Attribute o f _ => !isComp v && (P.an k == f && (chkE P N sc w o && chkE P N sc a v))
    | _ => false)
  | t => chkE P N sc a v && (!isStar tg && (!isLst tg && (match v with
    | .ListComp _ _ scope cpos => (match swapC sc tg scope cpos with
      | true => (match t, a, tg with
        | .n i, .comp _ _ _ _ _ _, .Name x _ => N[i]? == some x
        | _, _, _ => false)
      | false => chkL P N sc t tg)
    | v => !isComp v && (match isTupE v && isTupE tg with
      | true => (match t, tg, v, a with
        | .tup lts, .Tuple es _ _, .Tuple vs _ _, .tup _ => (match swO sc es vs with
          | true => chkLs P N sc lts es
          | false => (match nms N lts es with
            | some ps => swN sc es vs == some (ps.map (·.2)) && (ps.all (fun q => sc.names.lookup q.2 == some .local) && decide (ps.map (·.1)).Nodup)
            | none => false))
        | _, _, _, _ => false)
      | false => chkL P N sc t tg))))
mutual
def chkS (sc : Scope) : IS → Stmt → Bool
  | .expr a, s => match s with
    | .Expr x _ => !isComp x && chkE P N sc a x
    | _ => false
  | .set t a, s => match s with
    | .Assign [tg] v _ => chkA P N sc t a tg v
    | _ => false
  | .aug i op a, s => match s with
    | .AugAssign (.Name x _) o v _ => op == o && ((op == .Add || op == .Sub) && (N[i]? == some x && (locB sc x && chkE P N sc a v)))
    | _ => false
  | .augf k w op a, s => match s with
    | .AugAssign (.Attribute o g _) p v _ => op == p && ((op == .Add || op == .Sub) && (P.an k == g && (chkE P N sc w o && chkE P N sc a v)))
    | _ => false
  | .ifs c a b, s => match s with
    | .If x xs ys _ => chkE P N sc c x && (chkSs sc a xs && chkSs sc b ys)
    | _ => false
  | .for t src b, s => match s with
    | .For tg it ys [] _ => chkT N (locB sc) t tg && (chkI P N sc (isTupE tg) src it && chkSs sc b ys)
    | _ => false
  | .while _ c b, s => match s with
    | .While x ys [] _ => chkE P N sc c x && chkSs sc b ys
    | _ => false
  | .ret a, s => match s with
    | .Return (some x) _ => chkE P N sc a x
    | _ => false
  | .retN, s => match s with
    | .Return none _ => true
    | _ => false
  | .pass, s => match s with
    | .Pass _ => true
    | _ => false
  | .brk, s => match s with
    | .Break _ => true
    | _ => false
  | .cont, s => match s with
    | .Continue _ => true
    | _ => false
  | .never, _ => true
  | .try b, s => match s with
    | .Try ys (_ :: _) [] [] _ => chkSs sc b ys
    | _ => false
def chkSs (sc : Scope) : List IS → List Stmt → Bool
  | [], ss => ss.isEmpty
  | c :: cs, ss => match ss with
    | s :: ss => chkS sc c s && chkSs sc cs ss
    | [] => false
end
end
section
variable {fd : Nat → FuncData} {n : Nat} {N : List Str} {P : Prg} {Γ : Gm} {X : Cx}
mutual
theorem chkL_ok (hP : Γ.P = P) (c : Cxt Γ fd n N X) (fx : Facts Γ fd) (hl : ∀ x, X.fn x = true) : ∀ (t : IL) (e : Expr), chkL P N X.env.scope t e = true → SL Γ n X t e
  | .n i, e, h => by
    unfold chkL at h
    split at h
    · simp only [Bool.and_eq_true, beq_iff_eq] at h
      exact sl_name c hl h.1 h.2
    · cases h
  | .sub a b, e, h => by
    unfold chkL at h
    split at h
    · simp only [Bool.and_eq_true] at h
      exact sl_sub c (nb h.1) (chkE_ok a Γ X _ hP c fx h.2.1).1 (chkE_ok b Γ X _ hP c fx h.2.2).1
    · cases h
  | .tup ts, e, h => by
    unfold chkL at h
    split at h
    · obtain ⟨l1, l2⟩ := chkLs_len h
      exact sl_tup c l1 l2 (chkLs_ok hP c fx hl ts _ h)
    · cases h
  | .fld _ _, e, h => by simp [chkL] at h
  | .star ts j, e, h => by
    unfold chkL at h
    split at h
    · simp only [Bool.and_eq_true, beq_iff_eq] at h
      exact sl_star c hl h.1 h.2.1 h.2.2.1 h.2.2.2
    · cases h
theorem chkLs_ok (hP : Γ.P = P) (c : Cxt Γ fd n N X) (fx : Facts Γ fd) (hl : ∀ x, X.fn x = true) : ∀ (ts : List IL) (es : List Expr), chkLs P N X.env.scope ts es = true → SLs Γ n X ts es
  | [], es, h => by
    unfold chkLs at h
    rw [List.isEmpty_iff.mp h]
    exact sls_nil
  | t :: ts, es, h => by
    unfold chkLs at h
    split at h
    · simp only [Bool.and_eq_true] at h
      exact sls_cons (chkL_ok hP c fx hl t _ h.1) (chkLs_ok hP c fx hl ts _ h.2.2) (nb h.2.1)
    · cases h
theorem chkLs_len : ∀ {ts : List IL} {es : List Expr}, chkLs P N X.env.scope ts es = true → (assignEach es X.env).length = ts.length ∧ (assignEach es X.env).findIdx? (·.1) = none
  | [], es, h => by
    unfold chkLs at h
    rw [List.isEmpty_iff.mp h]
    exact ⟨rfl, rfl⟩
  | t :: ts, es, h => by
    unfold chkLs at h
    split at h
    · simp only [Bool.and_eq_true] at h
      obtain ⟨i1, i2⟩ := chkLs_len h.2.2
      rw [assign_one (nb h.2.1)]
      exact ⟨by simp [i1], by simp [List.findIdx?_cons, i2]⟩
    · cases h
end
theorem sw_oth {elt tg : Expr} {gs : List Comprehension} {scope : Scope} {p : Pos} {l : Nat} {env : Env} (h : ∀ x q, tg ≠ .Name x q) : swapsWith (.ListComp elt gs scope p) (some tg) l env = pure false := by
  cases tg <;> first | rfl | (exact absurd rfl (h _ _))
theorem chkA_ok (hP : Γ.P = P) (c : Cxt Γ fd n N X) (fx : Facts Γ fd) (hl : ∀ x, X.fn x = true) {t : IL} {a : IE} {tg v : Expr} {pos : Pos} (h : chkA P N X.env.scope t a tg v = true) : SS Γ n X (.set t a) (.Assign [tg] v pos) := by
  unfold chkA at h
  split at h
  · split at h
    · simp only [Bool.and_eq_true] at h
      rw [← beq_iff_eq.mp h.2.1, ← hP]
      exact ss_fld c fx (nb h.1) (chkE_ok _ Γ X _ hP c fx h.2.2.1).1 (chkE_ok _ Γ X _ hP c fx h.2.2.2).1
    · cases h
  · rename_i nf
    simp only [Bool.and_eq_true] at h
    obtain ⟨h1, h2, h3, h4⟩ := h
    have ha := (chkE_ok a Γ X v hP c fx h1).1
    split at h4
    · rename_i elt gs scope cpos
      split at h4
      · rename_i sw
        split at h4
        · rename_i i bb own t src cs a x p
          unfold swapC at sw
          simp only [Bool.and_eq_true, beq_iff_eq] at sw
          unfold chkE at h1
          simp only at h1
          split at h1
          · rename_i tg it ifs asy
            simp only [Bool.and_eq_true, beq_iff_eq, decide_eq_true_eq] at h1
            obtain ⟨rfl, k1, k2, k3, k4, k5, k6, k7⟩ := h1
            have bk := blkOk_by k1
            have k : CompOk Γ n N X own t src cs a elt tg it ifs scope := ⟨by rw [c.eN]; exact bk, k2, fun j hj => by
                have := List.all_eq_true.mp k3 j hj
                simpa using this, chkI_set k4, chkI_ok src Γ X tg it hP c fx k4,
              fun D s H C cl fp => chkCs_ok cs (Γ.hide D) (X.blk s H scope (compEnvC scope cl C X.env) fp) ifs hP ((c.hide D).blk bk.kind) fx k6 k5,
              fun D s H C cl fp => (chkE_ok a (Γ.hide D) (X.blk s H scope (compEnvC scope cl C X.env) fp) elt hP ((c.hide D).blk bk.kind) fx k7).1⟩
            exact ss_setLc c hl k (beq_iff_eq.mp h4) sw.1.1 (by simpa using sw.1.2) (nb sw.2)
          · cases h1
        · cases h4
      · rename_i sw
        refine ss_setC ?_ (nb h3) (nb h2) ha (chkL_ok hP c fx hl _ tg h4)
        unfold swapC at sw
        split at sw
        · exact sw_off (v := .Constant .none 0 default) c.kind sw
        · rename_i nn
          exact sw_oth fun x p q => nn x p q
    · simp only [Bool.and_eq_true] at h4
      obtain ⟨h5, h6⟩ := h4
      split at h6
      · rename_i tt
        split at h6
        · split at h6
          · rename_i sw
            obtain ⟨l1, l2⟩ := chkLs_len (Γ := Γ) (n := n) (fd := fd) h6
            exact ss_setW rfl (swO_ok sw) rfl ha (sl_tup c l1 l2 (chkLs_ok hP c fx hl _ _ h6))
          · split at h6
            · rename_i ps hps
              simp only [Bool.and_eq_true, beq_iff_eq, decide_eq_true_eq, List.all_eq_true] at h6
              exact ss_swap c hps h6.1 h6.2.1 h6.2.2 ha
            · cases h6
        · cases h6
      · rename_i tt
        exact ss_set (nb h5) tt (nb h3) (nb h2) ha (chkL_ok hP c fx hl _ tg h6) fun k o q => nf k o q
theorem nox_eq {Γ : Gm} {fd : Nat → FuncData} {n : Nat} {N : List Str} {X : Cx} (c : Cxt Γ fd n N X) : X.nox = X := by
  have e := c.xe
  unfold Cx.nox Cx.wish
  rw [← e]
theorem ss_try {Γ : Gm} {n : Nat} {X : Cx} {b : List IS} {ys : List Stmt} {h0 : ExceptHandler} {hs : List ExceptHandler} {pos : Pos} (h : SSs Γ n X.nox b ys) : SS Γ n X (.try b) (.Try ys (h0 :: hs) [] [] pos) :=
  PS.mono (ps_try_thru0 h) fun D σ H ⟨ρ, h, env, S, o⟩ => by rw [evS] at o; exact ⟨ρ, h, env, S, o⟩
mutual
theorem chkS_ok (hP : Γ.P = P) (c : Cxt Γ fd n N X) (fx : Facts Γ fd) (hl : ∀ x, X.fn x = true) : ∀ (s : IS) (st : Stmt), chkS P N X.env.scope s st = true → SS Γ n X s st
  | .expr a, st, h => by
    unfold chkS at h
    split at h
    · simp only [Bool.and_eq_true] at h
      exact ss_expr (nb h.1) (chkE_ok a Γ X _ hP c fx h.2).1
    · cases h
  | .set t a, st, h => by
    unfold chkS at h
    split at h
    · exact chkA_ok hP c fx hl h
    · cases h
  | .aug i op a, st, h => by
    unfold chkS at h
    split at h
    · simp only [Bool.and_eq_true, beq_iff_eq, Bool.or_eq_true] at h
      obtain ⟨rfl, h1, h2, h3, h4⟩ := h
      exact ss_aug c hl h2 h3 h1 (chkE_ok a Γ X _ hP c fx h4).1
    · cases h
  | .augf k w op a, st, h => by
    unfold chkS at h
    split at h
    · rename_i o g p1 p' v p2
      simp only [Bool.and_eq_true, beq_iff_eq, Bool.or_eq_true] at h
      obtain ⟨rfl, h1, h2, h3, h4⟩ := h
      obtain rfl : Γ.an k = g := by rw [← h2, ← hP]; rfl
      exact ss_augf c fx h1 (chkE_ok _ Γ X _ hP c fx h3).1 (chkE_ok a Γ X _ hP c fx h4).1
    · cases h
  | .ifs a b d, st, h => by
    unfold chkS at h
    split at h
    · simp only [Bool.and_eq_true] at h
      exact ss_if (chkE_ok a Γ X _ hP c fx h.1).2 (chkSs_ok hP c fx hl b _ h.2.1) (chkSs_ok hP c fx hl d _ h.2.2)
    · cases h
  | .for t src b, st, h => by
    unfold chkS at h
    split at h
    · simp only [Bool.and_eq_true] at h
      exact ss_for c hl h.1 (chkI_set h.2.1) (chkI_ok src Γ X _ _ hP c fx h.2.1) (chkSs_ok hP c fx hl b _ h.2.2)
    · cases h
  | .while k a b, st, h => by
    unfold chkS at h
    split at h
    · simp only [Bool.and_eq_true] at h
      exact ss_while c (chkE_ok a Γ X _ hP c fx h.1).2 (chkSs_ok hP c fx hl b _ h.2)
    · cases h
  | .ret a, st, h => by
    unfold chkS at h
    split at h
    · exact ss_ret (chkE_ok a Γ X _ hP c fx h).1
    · cases h
  | .retN, st, h => by
    unfold chkS at h
    split at h
    · exact ss_retN
    · cases h
  | .pass, st, h => by
    unfold chkS at h
    split at h
    · exact ss_pass
    · cases h
  | .brk, st, h => by
    unfold chkS at h
    split at h
    · exact ss_brk
    · cases h
  | .cont, st, h => by
    unfold chkS at h
    split at h
    · exact ss_cont
    · cases h
  | .never, st, h => ss_never
  | .try b, st, h => by
    unfold chkS at h
    split at h
    · exact ss_try (by rw [nox_eq c]; exact chkSs_ok hP c fx hl b _ h)
    · cases h
theorem chkSs_ok (hP : Γ.P = P) (c : Cxt Γ fd n N X) (fx : Facts Γ fd) (hl : ∀ x, X.fn x = true) : ∀ (s : List IS) (st : List Stmt), chkSs P N X.env.scope s st = true → SSs Γ n X s st
  | [], st, h => by
    unfold chkSs at h
    rw [List.isEmpty_iff.mp h]
    exact ss_nil
  | s :: r, st, h => by
    unfold chkSs at h
    split at h
    · simp only [Bool.and_eq_true] at h
      exact ss_cons (chkS_ok hP c fx hl s _ h.1) (chkSs_ok hP c fx hl r _ h.2)
    · cases h
end
end
end PY
end
section
set_option Elab.async false
set_option autoImplicit false
set_option linter.all false
set_option maxRecDepth 100000
/-! Every def of the program keeps what its tree says. -/
namespace PY
open PySem PySem.Spec PyProof.Rows L2
section
variable {Γ : Gm} {Γ0 : G0} {ρ ρ' : List Addr} {h h' : Hh} {H H' : Hp}
theorem CellR.cut {L L' : Addr → Prop} {n : Nat} {a : Addr} {w : O} (st : ∀ b u, H b = some u → ¬ L b → H b = some u ∧ ¬ L' b) (c : CellR Γ0 ρ L H a w) (l : w.lt n = true) : CellR Γ0 (ρ.take n) L' H a w := by
  cases w with
  | lst xs => obtain ⟨vs, c1, c2⟩ := c; exact ⟨vs, c1, c2.cut st l⟩
  | ins j fs => obtain ⟨C, dx, vs, c1, c2, c3, c4⟩ := c; exact ⟨C, dx, vs, c1, c2, c3, c4.cut st l⟩
  | dct kvs => obtain ⟨vs, c1, c2⟩ := c; exact ⟨vs, c1, c2.cut st l⟩
  | dead => trivial
/-- a cell of the call's own handed out -/
theorem Nxt.out {i : Nat} {a : Addr} {o : O} (hr : HpR Γ ρ H h) (n : Nxt Γ ρ h H ρ' h' H') (k : kept h.length h h' = true) (e1 : ρ'[i]? = some a) (e2 : h'[i]? = some o) (l : h.length ≤ i) (lt : o.lt h.length = true) :
    Nxt Γ ρ h H (ρ ++ [a]) (h'.take h.length ++ [o]) H' := by
  have n1 := Nxt.trim hr n k
  obtain ⟨t, et⟩ := n.pre
  have etk : ρ'.take h.length = ρ := by rw [et, ← hr.len]; simp
  have up : ∀ (j : Nat) (b : Addr), ρ[j]? = some b → ρ'[j]? = some b := fun j b e => by rw [et, List.getElem?_append_left (List.getElem?_eq_some_iff.mp e).1]; exact e
  have nin : ∀ (j : Nat) (b : Addr), ρ[j]? = some b → b ≠ a := fun j b e z => by
    have l1 := (List.getElem?_eq_some_iff.mp e).1
    have := n.hr.inj j i b (up j b e) (by rw [z]; exact e1)
    rw [hr.len] at l1
    omega
  have lv : ∀ b, Lv Γ (ρ ++ [a]) (h'.take h.length ++ [o]) b → Lv Γ ρ' h' b := fun b z => by
    rcases (Lv.app n1.hr.len).mp z with z | ⟨z, nd⟩
    · have z' : Lv Γ (ρ'.take h.length) (h'.take h.length) b := by rw [etk]; exact z
      exact z'.take
    · exact .inr ⟨i, o, by rw [z]; exact e1, e2, nd⟩
  have cut : ∀ {b : Addr} {w : O}, CellR Γ.toG0 ρ' (Lv Γ ρ' h') H' b w → w.lt h.length = true → CellR Γ.toG0 (ρ ++ [a]) (Lv Γ (ρ ++ [a]) (h'.take h.length ++ [o])) H' b w := fun {b w} c q => by
    have c2 := CellR.cut (L' := Lv Γ (ρ ++ [a]) (h'.take h.length ++ [o])) (fun b u e nl => ⟨e, fun z => nl (lv b z)⟩) c q
    rw [etk] at c2
    exact c2.keep ⟨fun j b e => by rw [List.getElem?_append_left (List.getElem?_eq_some_iff.mp e).1]; exact e, fun b u e nl => ⟨e, nl⟩⟩ rfl
  have lt1 : h.length ≤ h'.length := kept_len k
  refine ⟨⟨[a], rfl⟩, n1.st, fun b e z => n.lv b e (lv b z), ⟨by simp [hr.len]; omega, fun j m b q1 q2 => ?_, fun j b e => ?_, fun j w b q1 q2 => ?_, n1.hr.hid, fun j b e z => ?_⟩, n1.hd⟩
  · rcases app_get q1 with q1 | ⟨q1, z1⟩
    · rcases app_get q2 with q2 | ⟨q2, z2⟩
      · exact hr.inj j m b q1 q2
      · exact absurd z2 (nin _ _ q1)
    · rcases app_get q2 with q2 | ⟨q2, z2⟩
      · exact absurd z1 (nin _ _ q2)
      · omega
  · rcases app_get e with e | ⟨_, z⟩
    · exact n1.hr.trk j b e
    · rw [z]; exact n.hr.trk i a e1
  · rcases app_get q1 with q1 | ⟨q1, z1⟩
    · have jl : j < h.length := by
        have := (List.getElem?_eq_some_iff.mp q1).1
        simp at this; omega
      rw [List.getElem?_append_left (by rw [hr.len]; exact jl)] at q2
      have q1' := q1
      rw [List.getElem?_take_of_lt jl] at q1'
      have c1 := (n1.hr.cell j w b q1 q2).lt
      rw [hr.len] at c1
      exact cut (n.hr.cell j w b q1' (up j b q2)) c1
    · rcases app_get q2 with q2 | ⟨_, z2⟩
      · have := (List.getElem?_eq_some_iff.mp q2).1
        rw [hr.len] at this
        simp at q1; omega
      · rw [z1, z2]
        exact cut (n.hr.cell i o a e2 e1) lt
  · rcases app_get e with e | ⟨_, q⟩
    · exact hr.sep j b e z
    · exact n.hr.sep i a e1 (q ▸ z)
theorem trim_ok {out : Bool} {d : D} {v : V} {Q : VK} (hr : HpR Γ ρ H h) (o : okR (trim out h (.ok d h')) (Fin1 Γ ρ h H Q)) (n : Nxt Γ ρ h H ρ' h' H') (r : RepS Γ ρ' h' H' d v) : Q v H' := by
  unfold trim at o
  obtain ⟨k, o⟩ := o.guard
  split at o
  · rename_i i
    split at o
    · rename_i w e2
      obtain ⟨g, o⟩ := o.guard
      simp only [Bool.and_eq_true, decide_eq_true_eq] at g
      cases r with
      | @ref i a e1 => exact o _ _ _ (Nxt.out hr n k e1 e2 g.1 g.2) (.ref (by rw [← hr.len]; simp))
    · exact o.elim
  · obtain ⟨g, o⟩ := o.guard
    exact o _ _ _ (Nxt.trim hr n k) (Nxt.trimR hr n r g)
end
/-- a def as it lies behind the top -/
structure DefF (Γ : G0) (fd : Nat → FuncData) (i : Nat) (F : Fn) : Prop where
  ex : ∃ (name qual : Str) (params : Arguments) (body : List Stmt) (scope : Scope) (dV kV doc pm cdv ct oc : Value) (an od : Option Addr) (osl : Array (Option Value)),
    Γ.K.lookup (Γ.fa i) = some ⟨oc, od, .func (PySem.W.fnOf name qual params body scope dV kV doc pm an cdv ct), osl⟩ ∧ fd i = PySem.W.fnOf name qual params body scope dV kV doc pm an cdv ct ∧
      PySem.W.codeIn Γ.K cdv qual = true ∧ FnScope F.N F.ps scope ∧ chkSs Γ.P F.N scope F.body body = true
theorem start_rel {Γ : Gm} {ρ : List Addr} {h : Hh} {H : Hp} {N : List Str} {ds : List D} {vs : List V} (hr : HpR Γ ρ H h) (r : RepsS Γ ρ h H ds vs) : StR Γ ρ h H (ds.map some ++ List.replicate (N.length - ds.length) none) (L2.start N vs) := by
  refine ⟨hr, by unfold L2.start; simp [r.length], fun i d e => ?_⟩
  have il : i < ds.length := by
    by_cases q : i < ds.length
    · exact q
    · rw [List.getElem?_append_right (by simp; omega)] at e
      rw [List.getElem?_replicate] at e
      split at e
      · cases e
      · cases e
  rw [List.getElem?_append_left (by simpa using il), List.getElem?_map] at e
  obtain ⟨d', e1, e2⟩ := Option.map_eq_some_iff.mp e
  cases e2
  obtain ⟨v, e3, rv⟩ := r.get e1
  refine ⟨v, ?_, rv⟩
  unfold L2.start
  rw [List.getElem?_append_left (by simpa [r.length] using il), List.getElem?_map, e3]
  rfl
theorem fn_sound {Γ : G0} {fd : Nat → FuncData} (fx : Facts Γ fd) (df : ∀ (i : Nat) (F : Fn), Γ.P.funs[i]? = some F → DefF Γ fd i F) (prog : Program) (w : World) (base : Heap) :
    ∀ (n : Nat) (Z : Addr → Prop) (i : Nat) (F : Fn), Γ.P.funs[i]? = some F → FnG prog w Γ.K Γ.mg base (3 * n) (Γ.fa i) (fd i) F.ps (spT ⟨Γ, Z⟩ (run Γ.P n i))
  | 0, Z, i, F, e => ⟨fun A outer s H args us vs Q g hr e0 hb hl r ⟨ρ, h, ds, hp, rr, o⟩ => by unfold run at o; exact o.elim⟩
  | n + 1, Z, i, F, e => by
    obtain ⟨name, qual, params, body, scope, dV, kV, doc, pm, cdv, ct, oc, an, od, osl, lk, efd, hcd, S, hchk⟩ := (df i F e).ex
    rw [efd]
    refine FnG.mono (fnG_of (k := 3 * n + 2) lk hcd S fun A outer s H vs Q g hr hl q => ?_) (by omega)
    obtain ⟨ρ, h, ds, hp, rr, o⟩ := q
    unfold run at o
    have e' : (⟨Γ, Z⟩ : Gm).P.funs[i]? = some F := e
    rw [e'] at o
    obtain ⟨_, o⟩ := o.guard
    unfold runF at o
    have c : Cxt ⟨Γ, Z⟩ fd n F.N (cxOf CX0 prog w Γ.K Γ.mg base F.N qual scope (Γ.fa i) cdv A outer s H E0).nox := ⟨rfl, rfl, rfl, S.nd, rfl, rfl, S.kind, g, hr, fun Z i F e => fn_sound fx df prog w base n Z i F e⟩
    refine ⟨_, chkSs_ok (Γ := ⟨Γ, Z⟩) rfl c fx (fun _ => rfl) F.body body hchk, ρ, h, ds.map some ++ List.replicate (F.N.length - ds.length) none, start_rel hp rr, ?_⟩
    cases ef : evSs Γ.P (run Γ.P n) F.body (ds.map some ++ List.replicate (F.N.length - ds.length) none) h with
    | nx env1 h1 =>
      rw [ef] at o
      exact fun ρ1 σ1 H1 n1 S1 => trim_ok (v := .non) hp o n1 .none
    | rt d h1 =>
      rw [ef] at o
      exact fun ρ1 v1 H1 n1 r1 => trim_ok hp o n1 r1
    | ex e1 h1 =>
      rw [ef] at o
      exact (show okR (guard _ (.ex _ _)) _ from o).guard.2.elim
    | bk _ _ => rw [ef] at o; exact o.elim
    | ct _ _ => rw [ef] at o; exact o.elim
    | stuck => rw [ef] at o; exact o.elim
end PY
end
section
set_option Elab.async false
set_option autoImplicit false
set_option linter.all false
set_option maxRecDepth 100000
/-! How a def's parameters are bound. -/
namespace PY
open PySem PySem.Spec PyProof.Rows L2
theorem look_app {α : Type} {n : Str} : ∀ {a b : List (Str × α)}, (a ++ b).lookup n = (match a.lookup n with
    | some v => some v
    | none => b.lookup n)
  | [], b => rfl
  | (k, v) :: r, b => by
    simp only [List.cons_append, List.lookup]
    cases n == k with
    | true => rfl
    | false => exact look_app
theorem loop_kw {τ : Type} {x : τ} {f : Str × Value → List (Str × Value) × τ → Sem (ForInStep (List (Str × Value) × τ))} : ∀ {kw sl : List (Str × Value)}, (∀ q st, q ∈ kw → (st.lookup q.1).isSome = false → f q (st, x) = pure (.yield (st ++ [q], x))) →
    (∀ q ∈ kw, sl.lookup q.1 = none) → (kw.map (·.1)).Nodup → forIn kw (sl, x) f = pure (sl ++ kw, x)
  | [], sl, hf, h1, h2 => by rw [List.forIn_nil, List.append_nil]
  | q :: kw, sl, hf, h1, h2 => by
    rw [List.forIn_cons, hf q sl List.mem_cons_self (by rw [h1 q List.mem_cons_self]; rfl)]
    simp only [pure_bind]
    have h2 := List.nodup_cons.mp h2
    rw [loop_kw (sl := sl ++ [q]) (fun r st hr => hf r st (List.mem_cons_of_mem _ hr)) (fun r hr => ?_) h2.2, List.append_assoc]
    · rfl
    · rw [look_app, h1 r (List.mem_cons_of_mem _ hr)]
      have ne : (r.1 == q.1) = false := beq_eq_false_iff_ne.mpr fun e => h2.1 (by
        show q.1 ∈ kw.map (·.1)
        rw [← e]; exact List.mem_map_of_mem (f := (·.1)) hr)
      obtain ⟨k, v⟩ := q
      simp only [List.lookup, ne]
theorem loop_df {f : Str × Value → List (Str × Value) → Sem (ForInStep (List (Str × Value)))} (hf : ∀ q st, f q st = if (st.lookup q.1).isNone = true then pure (.yield (st ++ [q])) else pure (.yield st)) : ∀ (l sl : List (Str × Value)), ∃ sl', forIn l sl f = pure sl' ∧ ∀ n, sl'.lookup n = (sl ++ l).lookup n
  | [], sl => ⟨sl, by rw [List.forIn_nil], fun n => by rw [List.append_nil]⟩
  | q :: l, sl => by
    rw [List.forIn_cons, hf]
    by_cases h : (sl.lookup q.1).isNone = true
    · rw [if_pos h]
      simp only [pure_bind]
      obtain ⟨sl', e1, e2⟩ := loop_df hf l (sl ++ [q])
      exact ⟨sl', e1, fun n => by rw [e2, List.append_assoc]; rfl⟩
    · rw [if_neg h]
      simp only [pure_bind]
      obtain ⟨sl', e1, e2⟩ := loop_df hf l sl
      refine ⟨sl', e1, fun n => ?_⟩
      rw [e2, look_app, look_app]
      cases e : sl.lookup n with
      | some v => rfl
      | none =>
        have ne : (n == q.1) = false := beq_eq_false_iff_ne.mpr fun z => h (by rw [← z, e]; rfl)
        obtain ⟨k, v⟩ := q
        simp only [List.lookup, ne]
theorem bind_core {fd : FuncData} {ps : List Str} (h1 : fd.params.posonlyargs = []) (h2 : fd.params.args.map (·.arg) = ps) (h3 : fd.params.kwonlyargs = []) (h4 : fd.params.vararg = none) (h5 : fd.params.kwarg = none) (us : List Value) (kw : List (Str × Value)) (o : Option (Array Value))
    (l1 : us.length ≤ ps.length) (l2 : (o.getD #[]).toList.length ≤ ps.length) (k1 : ∀ q ∈ kw, q.1 ∈ ps) (k2 : ∀ q ∈ kw, (ps.zip us).lookup q.1 = none) (k3 : (kw.map (·.1)).Nodup)
    (k4 : ∀ n ∈ ps.take (ps.length - (o.getD #[]).toList.length), ((ps.zip us ++ kw).lookup n).isSome = true)
    {M : Model} {A : Around} {E : Value → Shared → Prop} {Q : List (Str × Value) → Shared → Prop} {s : Shared} (hd : ∀ {Q' : Option (Array Value) → Shared → Prop}, Q' o s → wpAny M A (seqItems? fd.defaults) Q' E s)
    (hq : Q (ps.filterMap fun n => ((slG ps us kw (o.getD #[]).toList).lookup n).map (n, ·)) s) : wpAny M A (bindArgs fd ⟨us, kw⟩) Q E s := by
  unfold bindArgs
  simp only [h1, h2, h3, h4, h5, List.map_nil, List.nil_append]
  rw [loop_kw (kw := kw) (sl := ps.zip us) (fun q st hq hn => ?_) k2 k3]
  · simp only [pure_bind]
    refine wpAny_bind (hd ?_)
    generalize hits : (o.getD #[]).toList = its at *
    have e0 : its.length - ps.length = 0 := by omega
    have c1 : (decide (us.length > ps.length) && (none : Option Arg).isNone) = false := by
      rw [decide_eq_false (by omega)]; rfl
    have c2 : (!(List.filter (fun n => (List.lookup n (ps.zip us ++ kw)).isNone) (List.take (ps.length - its.length) ps)).isEmpty) = false := by
      have : List.filter (fun n => (List.lookup n (ps.zip us ++ kw)).isNone) (List.take (ps.length - its.length) ps) = [] := by
        rw [List.filter_eq_nil_iff]
        intro n hn
        have := k4 n hn
        cases e : List.lookup n (ps.zip us ++ kw) with
        | none => rw [e] at this; cases this
        | some v => simp
      rw [this]; rfl
    simp only [e0, List.drop_zero]
    rw [if_neg (by rw [c1]; exact Bool.false_ne_true), if_neg (by rw [c2]; exact Bool.false_ne_true)]
    obtain ⟨sl', e1, e2⟩ := loop_df (f := fun x __s => if (List.lookup x.fst __s).isNone = true then pure (ForInStep.yield (__s ++ [(x.fst, x.snd)])) else pure (ForInStep.yield __s)) (fun q st => rfl) ((List.drop (ps.length - its.length) ps).zip its) (ps.zip us ++ kw)
    rw [e1]
    simp only [pure_bind, List.forIn_nil, List.isEmpty_nil, Bool.not_true, Bool.false_eq_true, if_false, List.append_nil]
    refine wpAny_pure ?_
    have : (fun n => Option.map (fun x => (n, x)) (List.lookup n sl')) = fun n => ((slG ps us kw its).lookup n).map (n, ·) := by
      funext n
      rw [e2]
      rfl
    rw [this]
    exact hq
  · have : (ps.contains q.1 || ([] : List Str).contains q.1) = true := by
      rw [Bool.or_eq_true]; exact .inl (List.contains_iff_mem.mpr (k1 q hq))
    simp only [this, hn, if_true, Bool.false_eq_true, if_false]
/-! related rows -/
def OptR {α β : Type} (R : α → β → Prop) : Option α → Option β → Prop
  | some a, some b => R a b
  | none, none => True
  | _, _ => False
theorem zip_rel {α β : Type} {R : α → β → Prop} : ∀ {ns : List Str} {us : List α} {vs : List β}, Paired R us vs → Paired (fun (p : Str × α) (q : Str × β) => p.1 = q.1 ∧ R p.2 q.2) (ns.zip us) (ns.zip vs)
  | [], _, _, _ => .nil
  | _ :: _, _, _, .nil => .nil
  | n :: ns, _, _, .cons a r => .cons ⟨rfl, a⟩ (zip_rel r)
theorem Paired.app {α β : Type} {R : α → β → Prop} : ∀ {a c : List α} {b d : List β}, Paired R a b → Paired R c d → Paired R (a ++ c) (b ++ d)
  | _, _, _, _, .nil, q => q
  | _, _, _, _, .cons a r, q => .cons a (Paired.app r q)
theorem look_rel {α β : Type} {R : α → β → Prop} {n : Str} : ∀ {l : List (Str × α)} {m : List (Str × β)}, Paired (fun (p : Str × α) (q : Str × β) => p.1 = q.1 ∧ R p.2 q.2) l m → OptR R (l.lookup n) (m.lookup n)
  | _, _, .nil => trivial
  | (k, v) :: _, (k', v') :: _, .cons ⟨e, a⟩ r => by
    cases (show k = k' from e)
    simp only [List.lookup]
    cases n == k with
    | true => exact a
    | false => exact look_rel r
theorem fm_rel {α β : Type} {R : α → β → Prop} {f : Str → Option α} {g : Str → Option β} (h : ∀ n, OptR R (f n) (g n)) : ∀ ps : List Str, Paired R (ps.filterMap f) (ps.filterMap g)
  | [] => .nil
  | p :: ps => by
    have hp := h p
    rw [List.filterMap_cons, List.filterMap_cons]
    cases e1 : f p <;> cases e2 : g p <;> rw [e1, e2] at hp
    · exact fm_rel h ps
    · exact hp.elim
    · exact hp.elim
    · exact .cons hp (fm_rel h ps)
theorem pick_rel {α β : Type} {R : α → β → Prop} {ps ks : List Str} {us ws dv : List α} {vs zs dV : List β} (h1 : Paired R us vs) (h2 : Paired R ws zs) (h3 : Paired R dv dV) : Paired R (pickG ps us (ks.zip ws) dv) (pickG ps vs (ks.zip zs) dV) := by
  have l : dV.length = dv.length := (Paired.length h3).symm
  refine fm_rel (fun n => look_rel ?_) ps
  unfold slG
  rw [l]
  exact Paired.app (Paired.app (zip_rel h1) (zip_rel h2)) (zip_rel h3)
theorem reps_p {Γ : G0} {ρ : List Addr} {L : Addr → Prop} {H : Hp} : ∀ {ds : List D} {vs : List V}, Reps Γ ρ L H ds vs → Paired (Rep Γ ρ L H) ds vs
  | _, _, .nil => .nil
  | _, _, .cons a r => .cons a (reps_p r)
theorem p_reps {Γ : G0} {ρ : List Addr} {L : Addr → Prop} {H : Hp} : ∀ {ds : List D} {vs : List V}, Paired (Rep Γ ρ L H) ds vs → Reps Γ ρ L H ds vs
  | _, _, .nil => .nil
  | _, _, .cons a r => .cons a (p_reps r)
theorem fm_zip {α : Type} {f : Str → Option α} : ∀ {ps : List Str}, (∀ n ∈ ps, (f n).isSome = true) → (ps.filterMap fun n => (f n).map (n, ·)) = ps.zip (ps.filterMap f)
  | [], _ => rfl
  | p :: ps, h => by
    have hp := h p List.mem_cons_self
    cases e : f p with
    | none => rw [e] at hp; cases hp
    | some v =>
      rw [List.filterMap_cons, List.filterMap_cons, e]
      simp only [Option.map_some, List.zip_cons_cons]
      rw [fm_zip fun n hn => h n (List.mem_cons_of_mem _ hn)]
theorem optR_some {α β : Type} {R : α → β → Prop} {a : Option α} {b : Option β} (h : OptR R a b) : a.isSome = b.isSome := by
  cases a <;> cases b <;> first | rfl | exact h.elim
/-- what the head tells of a def's parameters -/
structure ParF (Γ : G0) (fd : FuncData) (F : Fn) : Prop where
  po : fd.params.posonlyargs = []
  ar : fd.params.args.map (·.arg) = F.ps
  ko : fd.params.kwonlyargs = []
  va : fd.params.vararg = none
  kw : fd.params.kwarg = none
  nd : F.ps.Nodup
  dl : F.dfl.length ≤ F.ps.length
  df : (F.dfl = [] ∧ fd.defaults = .none) ∨ ∃ a vs, fd.defaults = .ref a ∧ KTup Γ.K a vs ∧ ∀ (ρ : List Addr) (L : Addr → Prop) (H : Hp), Reps Γ ρ L H F.dfl vs
theorem par_items {Γ : G0} {fd : FuncData} {F : Fn} (p : ParF Γ fd F) : ∃ (o : Option (Array Value)) (dV : List V), Vals dV (o.getD #[]).toList ∧ (∀ (ρ : List Addr) (L : Addr → Prop) (H : Hp), Reps Γ ρ L H F.dfl dV) ∧
    ∀ (s : Shared), Γ.K.In s.heap → ∀ (M : Model) (A : Around) (E : Value → Shared → Prop) (Q' : Option (Array Value) → Shared → Prop), Q' o s → wpAny M A (seqItems? fd.defaults) Q' E s := by
  rcases p.df with ⟨e1, e2⟩ | ⟨a, vs, e, ⟨ob, its, k, h1, h2, h3, h4, h5⟩, r⟩
  · refine ⟨none, [], .nil, fun ρ L H => by rw [e1]; exact .nil, fun s X M A E Q' q => ?_⟩
    rw [e2]
    exact wpAny_of_eq (by rfl) q
  · refine ⟨some its, vs, h5, r, fun s X M A E Q' q => ?_⟩
    rw [e]
    exact wpAny_seqItems (X _ _ h1) h3 q
theorem fm_congr {α β : Type} {f g : α → Option β} : ∀ {l : List α}, (∀ n ∈ l, f n = g n) → l.filterMap f = l.filterMap g
  | [], _ => rfl
  | x :: l, h => by rw [List.filterMap_cons, List.filterMap_cons, h x List.mem_cons_self, fm_congr fun n hn => h n (List.mem_cons_of_mem _ hn)]
theorem zip_self {α : Type} : ∀ {ps : List Str} {us : List α} {r : List (Str × α)}, ps.Nodup → us.length = ps.length → (ps.filterMap fun n => ((ps.zip us ++ r).lookup n).map (n, ·)) = ps.zip us
  | [], [], _, _, _ => rfl
  | p :: ps, u :: us, r, hn, l => by
    have hn := List.nodup_cons.mp hn
    have ih := zip_self (ps := ps) (us := us) (r := r) hn.2 (by simpa using l)
    have e : ps.filterMap (fun n => ((((p :: ps).zip (u :: us)) ++ r).lookup n).map (n, ·)) = ps.filterMap fun n => ((ps.zip us ++ r).lookup n).map (n, ·) := fm_congr fun n hm => by
      have ne : (n == p) = false := beq_eq_false_iff_ne.mpr fun z => hn.1 (z ▸ hm)
      simp only [List.zip_cons_cons, List.cons_append, List.lookup, ne]
    rw [List.filterMap_cons, e, ih]
    simp only [List.zip_cons_cons, List.cons_append, List.lookup, beq_self_eq_true, Option.map_some]
  | [], _ :: _, _, _, l => by simp at l
  | _ :: _, [], _, _, l => by simp at l
theorem zip_hit {α : Type} {n : Str} : ∀ {ps : List Str} {us : List α}, us.length = ps.length → n ∈ ps → ((ps.zip us).lookup n).isSome = true
  | [], us, l, hn => by cases hn
  | q :: ps, [], l, hn => by simp at l
  | q :: ps, u :: us, l, hn => by
    simp only [List.zip_cons_cons, List.lookup]
    cases e : n == q with
    | true => rfl
    | false =>
      rcases List.mem_cons.mp hn with z | z
      · rw [z] at e; simp at e
      · exact zip_hit (by simpa using l) z
theorem fnF_bind {Γ : G0} {fd : FuncData} {F : Fn} (p : ParF Γ fd F) (s : Shared) (us : List Value) (X : Γ.K.In s.heap) (l : us.length = F.ps.length) : BindsTo s fd ⟨us, []⟩ (F.ps.zip us) := fun M A E Q q => by
  obtain ⟨o, dV, rv, rd, hd⟩ := par_items p
  have dl : (o.getD #[]).toList.length ≤ F.ps.length := by
    have := (rd [] (fun _ => False) (fun _ => none)).length
    rw [← rv.length, this]; exact p.dl
  refine bind_core p.po p.ar p.ko p.va p.kw us [] o (by omega) dl (by simp) (by simp) (by simp) (fun n hn => ?_) (fun {Q'} h => hd s X M A E Q' h) ?_
  · rw [List.append_nil]
    exact zip_hit l (List.mem_of_mem_take hn)
  · have := zip_self (r := [] ++ (F.ps.drop (F.ps.length - (o.getD #[]).toList.length)).zip (o.getD #[]).toList) p.nd l
    unfold slG
    rw [List.append_assoc, this]
    exact q
theorem fnF_bindK {Γ : G0} {fd : FuncData} {F : Fn} (p : ParF Γ fd F) (s : Shared) (us ws : List Value) (vs zs : List V) (ks : List Str) (ds kd ful : List D) (X : Γ.K.In s.heap) (l1 : us.length = ds.length) (l2 : ws.length = ks.length) (l3 : kd.length = ks.length) (hb : bindA F.ps F.dfl ds (ks.zip kd) = some ful) :
    ∃ (g : {α : Type} → List α → List α → List α → List α) (dv : List Value) (dV : List V), Vals dV dv ∧ (∀ (ρ : List Addr) (L : Addr → Prop) (H : Hp), Reps Γ ρ L H F.dfl dV) ∧
      ful = g ds kd F.dfl ∧ BindsTo s fd ⟨us, ks.zip ws⟩ (F.ps.zip (g us ws dv)) ∧ (Vals vs us → Vals zs ws → Vals (g vs zs dV) (g us ws dv)) ∧
      (∀ (ρ : List Addr) (L : Addr → Prop) (H : Hp), Reps Γ ρ L H ds vs → Reps Γ ρ L H kd zs → Reps Γ ρ L H ful (g vs zs dV)) := by
  obtain ⟨o, dV, rv, rd, hd⟩ := par_items p
  unfold bindA at hb
  split at hb
  · rename_i g
    simp only [Bool.and_eq_true, decide_eq_true_eq, List.all_eq_true] at g
    obtain ⟨g1, g2, g3, g4, g5, g6⟩ := g
    cases hb
    have ld : (o.getD #[]).toList.length = F.dfl.length := by
      have := (rd [] (fun _ => False) (fun _ => none)).length
      rw [← rv.length, this]
    -- keys alike, by position
    have allD : ∀ {α β : Type} (a : List α) (b : List β), a.length = b.length → Paired (fun _ _ => True) a b := fun {α β} a => by
      induction a with
      | nil => intro b l; cases b with
        | nil => exact .nil
        | cons _ _ => simp at l
      | cons x a ih => intro b l; cases b with
        | nil => simp at l
        | cons y b => exact .cons trivial (ih b (by simpa using l))
    have pu := allD ds us l1.symm
    have pw := allD kd ws (l3.trans l2.symm)
    have pd := allD F.dfl (o.getD #[]).toList ld.symm
    have keys : ∀ (ws : List Value), ws.length = ks.length → (ks.zip ws).map (·.1) = ks := fun ws l => by
      rw [List.map_fst_zip]; omega
    have keysD : (ks.zip kd).map (·.1) = ks := by
      rw [List.map_fst_zip]; omega
    have onKw : ∀ (P' : Str → Prop), (∀ q ∈ ks.zip kd, P' q.1) → ∀ q ∈ ks.zip ws, P' q.1 := fun P' h q hq => by
      have : q.1 ∈ ks := by
        rw [← keys ws l2]; exact List.mem_map_of_mem (f := (·.1)) hq
      rw [← keysD] at this
      obtain ⟨r, hr, e⟩ := List.mem_map.mp this
      rw [← e]; exact h r hr
    refine ⟨fun {α} a b c => pickG F.ps a (ks.zip b) c, (o.getD #[]).toList, dV, rv, rd, rfl, fun M A E Q q => ?_, fun r1 r2 => pick_rel r1 r2 rv, fun ρ L H r1 r2 => p_reps (pick_rel (reps_p r1) (reps_p r2) (reps_p (rd ρ L H)))⟩
    refine bind_core p.po p.ar p.ko p.va p.kw us (ks.zip ws) o (by omega) (by rw [ld]; exact g2) (onKw (· ∈ F.ps) fun q hq => List.contains_iff_mem.mp (g3 q hq).1) (onKw (fun k => (F.ps.zip us).lookup k = none) fun q hq => ?_) (by rw [keys ws l2, ← keysD]; exact g4) (fun n hn => ?_) (fun {Q'} h => hd s X M A E Q' h) ?_
    · have z := optR_some (look_rel (n := q.1) (zip_rel (ns := F.ps) pu))
      have z2 := (g3 q hq).2
      rw [Option.isNone_iff_eq_none] at z2
      rw [z2] at z
      cases e : (F.ps.zip us).lookup q.1 with
      | none => rfl
      | some v => rw [e] at z; cases z
    · have z := optR_some (look_rel (n := n) (Paired.app (zip_rel (ns := F.ps) pu) (zip_rel (ns := ks) pw)))
      rw [← z]
      exact g5 n (by rw [ld] at hn; exact hn)
    · rw [fm_zip fun n hn => ?_]
      · exact q
      · have z := optR_some (look_rel (n := n) (Paired.app (Paired.app (zip_rel (ns := F.ps) pu) (zip_rel (ns := ks) pw)) (zip_rel (ns := F.ps.drop (F.ps.length - F.dfl.length)) pd)))
        have z2 := g6 n hn
        unfold slG at z2 ⊢
        rw [ld, ← z]
        exact z2
  · cases hb
end PY
end
section
set_option Elab.async false
set_option autoImplicit false
set_option linter.all false
set_option maxRecDepth 100000
/-! What the head is to see, as one check. -/
namespace PY
open PySem PySem.Spec PyProof.Rows L2
open PySem.W (Frag nsIn findIn keepIn codeIn isFn makesIn specialIn takesIn recIn mroIn kitOne)
section
variable (P : Prg) (K : Frag)
def caK (k : Nat) : Addr := match P.clss[k]? with
  | some C => He.ga K C.name
  | none => 0
def recA (a : Addr) (t : String) : Option Addr := match recIn K a t with
  | some (.ref g :: _) => some g
  | _ => none
def faK (i : Nat) : Addr := match P.funs[i]? with
  | some F => (match F.cl with
    | none => He.ga K F.name
    | some c => (match recA K (He.ma K (caK P K c) F.name) "property" with
      | some g => g
      | none => (match recA K (He.ma K (caK P K c) F.name) "classmethod" with
        | some g => g
        | none => He.ma K (caK P K c) F.name)))
  | none => 0
def fdK (i : Nat) : FuncData := match K.lookup (faK P K i) with
  | some ⟨_, _, .func fd, _⟩ => fd
  | _ => default
mutual
def vB : D → Value → Bool
  | .none, u => (match u with
    | .none => true
    | _ => false)
  | .bool b, u => (match u with
    | .bool c => b == c
    | _ => false)
  | .int i, u => (match u with
    | .int j _ => decide (i = j)
    | _ => false)
  | .str x, u => (match u with
    | .str y _ => decide (x = y)
    | _ => false)
  | .tup ds, u => (match u with
    | .ref a => (match K.lookup a with
      | some ⟨.type c, _, .seq its _, _⟩ => decide (c = "tuple") && (decide (its.size ≤ sizeLine) && vBs ds its.toList)
      | _ => false)
    | _ => false)
  | .scr ds, u => (match u with
    | .ref a => (match K.lookup a with
      | some ⟨.type c, none, .seq its _, _⟩ => decide (c = "list") && (decide (its.size ≤ sizeLine) && vBs ds its.toList)
      | _ => false)
    | _ => false)
  | _, _ => false
def vBs : List D → List Value → Bool
  | [], us => us.isEmpty
  | d :: ds, us => (match us with
    | u :: us => vB d u && vBs ds us
    | [] => false)
end
def scopeB (N ps : List Str) (sc : Scope) : Bool := (match sc.kind with
    | .function => true
    | _ => false) && (!sc.isCoroutine && (!sc.isGenerator && (decide N.Nodup && (decide (N.take ps.length = ps) && (ps.all (locB sc) && sc.names.all fun y => match y.2 with
    | .free => false
    | _ => true)))))
def parB (fd : FuncData) (F : Fn) : Bool := fd.params.posonlyargs.isEmpty && (decide (fd.params.args.map (·.arg) = F.ps) && (fd.params.kwonlyargs.isEmpty && (fd.params.vararg.isNone && (fd.params.kwarg.isNone && (decide F.ps.Nodup && (decide (F.dfl.length ≤ F.ps.length) &&
  (match fd.defaults with
    | .none => F.dfl.isEmpty
    | .ref a => vB K (.tup F.dfl) (.ref a)
    | _ => false)))))))
def fnB (i : Nat) (F : Fn) : Bool := match K.lookup (faK P K i) with
  | some ⟨_, _, .func fd, _⟩ => (match fd.body with
      | .stmts body => chkSs P F.N fd.scope F.body body
      | _ => false) && (decide (fd.globals = mainGlobals) && (fd.closure.isEmpty && (decide (fd.builtins = builtinsNs) && (codeIn K fd.code fd.qualname && (scopeB F.N F.ps fd.scope && (keepIn K (.ref (faK P K i)) && ((match F.cl with
      | none => He.eqO (nsIn K mainGlobals F.name) (some (some (.ref (faK P K i))))
      | some _ => true) && parB K fd F)))))))
  | _ => false
def clB (k : Nat) (C : Cl) : Bool :=
  He.eqO (nsIn K mainGlobals C.name) (some (some (.ref (caK P K k)))) && (
  (He.eqO (findIn K (.ref (caK P K k)) "__class__") (some (some (.builtin "object.__class__"))) && (He.eqO (specialIn K (.builtin "object.__class__") "__get__") (some (some (.builtin "getset_descriptor.__get__"))) && (decide (takesIn K (.builtin "object.__class__") = some true) &&
    (decide (mroIn K (caK P K k) (.type "object") = some true) && decide (kitOne K (.ref (caK P K k)) (.ref (caK P K k)) = some true))))) && (
  (PySem.W.plainGet K (caK P K k) Str.empty && (PySem.W.hasDictIn K (caK P K k) && (PySem.W.plainOver K (caK P K k) && He.eqO (findIn K (.ref (caK P K k)) "__setattr__") (some (some (.builtin "object.__setattr__")))))) && (
  (makesIn K (caK P K k) && (He.eqO (findIn K (.ref (caK P K k)) "__init__") (some (some (.ref (faK P K C.init)))) && (isFn K (.ref (faK P K C.init)) && keepIn K (.ref (caK P K k))))) && (
  (C.fields.all fun a => He.eqO (findIn K (.ref (caK P K k)) (P.an a)) (some none)) && (
  decide (C.fields.map P.an).Nodup && (decide (C.fields.length ≤ 900) && (
  (C.meths.all fun q => He.eqO (findIn K (.ref (caK P K k)) (P.an q.1)) (some (some (.ref (faK P K q.2)))) && (isFn K (.ref (faK P K q.2)) && (keepIn K (.ref (faK P K q.2)) && !(C.fields.map P.an).contains (P.an q.1)))) && (
  (C.props.all fun q => He.eqO (findIn K (.ref (caK P K k)) (P.an q.1)) (some (some (.ref (He.ma K (caK P K k) (P.an q.1))))) && (He.eqO (specialIn K (.ref (He.ma K (caK P K k) (P.an q.1))) "__get__") (some (some (.builtin "property.__get__"))) &&
    (decide (takesIn K (.ref (He.ma K (caK P K k) (P.an q.1))) = some true) && decide (recA K (He.ma K (caK P K k) (P.an q.1)) "property" = some (faK P K q.2))))) && (
  (match C.meths.lookup 3 with
    | none => true
    | some _ => He.eqO (findIn K (.ref (caK P K k)) "__ne__") (some (some (.builtin "object.__ne__"))) && decide (PySem.W.subIn K (.ref (caK P K k)) (.type "object") = some true)) && (
  (C.clsm.isEmpty || (PySem.W.readsIn K (caK P K k) (.type "type") && He.eqO (specialIn K (.ref (caK P K k)) "__getattribute__") (some (some (.builtin "type.__getattribute__"))))) &&
  C.clsm.all fun q => He5.wrapB K (caK P K k) "classmethod" "classmethod.__get__" (P.an q.1) && (decide (He5.wf K (caK P K k) "classmethod" (P.an q.1) = faK P K q.2) && PySem.W.fnIn K (faK P K q.2))))))))))))
def conB (c : Str × D) : Bool := match nsIn K mainGlobals c.1 with
  | some (some u) => vB K c.2 u
  | _ => false
def frees : List Str := ["len", "int", "str", "repr", "all", "any", "max", "min", "abs", "divmod", "tuple", "list", "bool", "sum", "sorted", "dict", "isinstance", "range", "enumerate", "zip"]
def allIx {α : Type} (f : Nat → α → Bool) : Nat → List α → Bool
  | _, [] => true
  | i, x :: r => f i x && allIx f (i + 1) r
def factB : Bool := decide (P.an 0 = "__len__") && (decide (P.an 1 = "__str__") && (decide (P.an 2 = "__bool__") && (decide (P.an 3 = "__eq__") && ((frees.all fun x => He.eqO (nsIn K mainGlobals x) (some none)) && (P.consts.all (conB K) && (allIx (clB P K) 0 P.clss && allIx (fnB P K) 0 P.funs))))))
end
theorem allIx_get {α : Type} {f : Nat → α → Bool} : ∀ {l : List α} {j i : Nat} {x : α}, allIx f j l = true → l[i]? = some x → f (j + i) x = true
  | [], _, _, _, _, e => by simp at e
  | y :: l, j, 0, x, h, e => by
    simp only [allIx, Bool.and_eq_true] at h
    simp at e; subst e
    exact h.1
  | y :: l, j, i + 1, x, h, e => by
    simp only [allIx, Bool.and_eq_true] at h
    have := allIx_get (i := i) h.2 (by simpa using e)
    rw [show j + (i + 1) = j + 1 + i by omega]
    exact this
abbrev G0.of (P : Prg) (K : Frag) (mg : Str → Option Value) : G0 := ⟨K, mg, P, caK P K, faK P K⟩
section
variable {P : Prg} {K : Frag} {mg : Str → Option Value}
mutual
theorem vB_ok : ∀ {d : D} {u : Value}, vB K d u = true → ∃ v, RelV v u ∧ ∀ (ρ : List Addr) (L : Addr → Prop) (H : Hp), Rep (G0.of P K mg) ρ L H d v
  | .none, u, h => by
    unfold vB at h
    split at h
    · exact ⟨.non, rfl, fun _ _ _ => .none⟩
    · cases h
  | .bool b, u, h => by
    unfold vB at h
    split at h
    · exact ⟨.bl b, by rw [beq_iff_eq.mp h]; rfl, fun _ _ _ => .bool b⟩
    · cases h
  | .int i, u, h => by
    unfold vB at h
    split at h
    · exact ⟨.int i, ⟨_, by rw [of_decide_eq_true h]⟩, fun _ _ _ => .int i⟩
    · cases h
  | .str i, u, h => by
    unfold vB at h
    split at h
    · exact ⟨.str i, ⟨_, by rw [of_decide_eq_true h]⟩, fun _ _ _ => .str i⟩
    · cases h
  | .tup ds, u, h => by
    unfold vB at h
    split at h
    · rename_i a
      split at h
      · rename_i e
        simp only [Bool.and_eq_true, decide_eq_true_eq] at h
        obtain ⟨h1, h2, h3⟩ := h
        subst h1
        obtain ⟨vs, rv, r⟩ := vBs_ok h3
        exact ⟨.ref a, rfl, fun ρ L H => .tup (.inr ⟨_, _, _, e, rfl, rfl, h2, rv⟩) (r ρ L H)⟩
      · cases h
    · cases h
  | .scr ds, u, h => by
    unfold vB at h
    split at h
    · rename_i a
      split at h
      · rename_i e
        simp only [Bool.and_eq_true, decide_eq_true_eq] at h
        obtain ⟨h1, h2, h3⟩ := h
        subst h1
        obtain ⟨vs, rv, r⟩ := vBs_ok h3
        exact ⟨.ref a, rfl, fun ρ L H => .scr (.inr ⟨_, _, _, e, rfl, rfl, rfl, h2, rv⟩) (r ρ L H)⟩
      · cases h
    · cases h
  | .list _, u, h => by simp [vB] at h
  | .inst _ _, u, h => by simp [vB] at h
  | .ref _, u, h => by simp [vB] at h
  | .cls _, u, h => by simp [vB] at h
theorem vBs_ok : ∀ {ds : List D} {us : List Value}, vBs K ds us = true → ∃ vs, Vals vs us ∧ ∀ (ρ : List Addr) (L : Addr → Prop) (H : Hp), Reps (G0.of P K mg) ρ L H ds vs
  | [], us, h => by
    unfold vBs at h
    rw [List.isEmpty_iff.mp h]
    exact ⟨[], .nil, fun _ _ _ => .nil⟩
  | d :: ds, us, h => by
    unfold vBs at h
    split at h
    · simp only [Bool.and_eq_true] at h
      obtain ⟨v, r1, r2⟩ := vB_ok h.1
      obtain ⟨vs, q1, q2⟩ := vBs_ok h.2
      exact ⟨v :: vs, .cons r1 q1, fun ρ L H => .cons (r2 ρ L H) (q2 ρ L H)⟩
    · cases h
end
theorem par_ok {fd : FuncData} {F : Fn} (h : parB K fd F = true) : ParF (G0.of P K mg) fd F := by
  unfold parB at h
  simp only [Bool.and_eq_true, List.isEmpty_iff, decide_eq_true_eq, Option.isNone_iff_eq_none] at h
  obtain ⟨h1, h2, h3, h4, h5, h6, h7, h8⟩ := h
  refine ⟨h1, h2, h3, h4, h5, h6, h7, ?_⟩
  split at h8
  · rename_i e
    exact .inl ⟨List.isEmpty_iff.mp h8, e⟩
  · rename_i a e
    unfold vB at h8
    simp only at h8
    split at h8
    · rename_i e2
      simp only [Bool.and_eq_true, decide_eq_true_eq] at h8
      obtain ⟨k1, k2, k3⟩ := h8
      subst k1
      obtain ⟨vs, rv, r⟩ := vBs_ok (P := P) (mg := mg) k3
      exact .inr ⟨a, vs, e, ⟨_, _, _, e2, rfl, rfl, k2, rv⟩, r⟩
    · cases h8
  · cases h8
theorem scope_ok {N ps : List Str} {sc : Scope} (h : scopeB N ps sc = true) : FnScope N ps sc := by
  unfold scopeB at h
  simp only [Bool.and_eq_true, decide_eq_true_eq, List.all_eq_true] at h
  obtain ⟨h1, h2, h3, h4, h5, h6, h7⟩ := h
  refine ⟨?_, nb h2, nb h3, h4, h5, fun x hx => loc_of (h6 x hx), fun y hy e => ?_⟩
  · split at h1
    · assumption
    · cases h1
  · have := h7 y hy
    rw [e] at this
    cases this
structure FnAll (Γ : G0) (fd : Nat → FuncData) (i : Nat) (F : Fn) : Prop where
  df : DefF Γ fd i F
  pr : ParF Γ (fd i) F
  kp : keepIn Γ.K (.ref (Γ.fa i)) = true
  gl : F.cl = none → nsIn Γ.K mainGlobals F.name = some (some (.ref (Γ.fa i)))
theorem fn_ok {i : Nat} {F : Fn} (h : fnB P K i F = true) : FnAll (G0.of P K mg) (fdK P K) i F := by
  unfold fnB at h
  split at h
  · rename_i oc od fd osl e
    simp only [Bool.and_eq_true, decide_eq_true_eq, List.isEmpty_iff] at h
    obtain ⟨h1, h2, h3, h4, h5, h6, h7, h8, h9⟩ := h
    have ef : fdK P K i = fd := by unfold fdK; rw [e]
    split at h1
    · rename_i body eb
      have eq : fd = PySem.W.fnOf fd.name fd.qualname fd.params body fd.scope fd.defaults fd.kwdefaults fd.doc fd.pyModule fd.annotations fd.code fd.closureTuple := by
        obtain ⟨n1, n2, n3, n4, n5, n6, n7, n8, n9, n10, n11, n12, n13, n14, n15⟩ := fd
        simp only at h2 h3 h4 eb
        subst h2 h3 h4 eb
        rfl
      refine ⟨⟨fd.name, fd.qualname, fd.params, body, fd.scope, fd.defaults, fd.kwdefaults, fd.doc, fd.pyModule, fd.code, fd.closureTuple, oc, fd.annotations, od, osl, ?_, ef.trans eq, h5, scope_ok h6, h1⟩, by rw [ef]; exact par_ok h9, h7, fun q => ?_⟩
      · show K.lookup (faK P K i) = _
        rw [← eq]; exact e
      · rw [q] at h8
        exact He.eqO_ok h8
    · cases h1
  · cases h
theorem look_mem {α : Type} {a : Nat} {x : α} : ∀ {l : List (Nat × α)}, l.lookup a = some x → (a, x) ∈ l
  | (b, y) :: l, h => by
    simp only [List.lookup] at h
    cases e : a == b with
    | true =>
      rw [e] at h
      cases h
      rw [beq_iff_eq.mp e]
      exact List.mem_cons_self
    | false =>
      rw [e] at h
      exact List.mem_cons_of_mem _ (look_mem h)
theorem cl_ok {h : Heap} (X : K.In h) (G : h.Ns mainGlobals mg) {k : Nat} {C : Cl} (hc : clB P K k C = true) : ClsF (G0.of P K mg) k C := by
  unfold clB at hc
  simp only [Bool.and_eq_true, decide_eq_true_eq, List.all_eq_true] at hc
  obtain ⟨a1, ⟨i1, i2, i3, i4, i5⟩, ⟨c1, c2, c3, c4⟩, ⟨m1, m2, m3, m4⟩, n1, n2, n3, t1, p1, q1, q2, q3⟩ := hc
  refine ⟨⟨He.eqO_ok i1, He.eqO_ok i2, i3, i4, i5⟩, PySem.W.mg_of X G (He.eqO_ok a1), ⟨c1, c2, c3, He.eqO_ok c4⟩, ⟨m1, He.eqO_ok m2, m3, m4⟩, fun a ha => He.eqO_ok (n1 a ha), n2, n3, fun a f e => ?_, fun a f e => ?_, fun f e => ?_, fun a f e => ?_⟩
  · obtain ⟨e1, e2, e3, e4⟩ := t1 _ (look_mem e)
    exact ⟨⟨He.eqO_ok e1, e2, e3⟩, fun z => by
      have := nb e4
      have z' : P.an a ∈ C.fields.map P.an := z
      rw [List.contains_iff_mem.mpr z'] at this
      cases this⟩
  · obtain ⟨e1, e2, e3, e4⟩ := p1 _ (look_mem e)
    refine ⟨_, ⟨He.eqO_ok e1, He.eqO_ok e2, e3, ?_⟩⟩
    unfold recA at e4
    split at e4
    · rename_i g rest er
      cases e4
      exact ⟨_, er⟩
    · cases e4
  · rw [e] at q1
    simp only [Bool.and_eq_true, decide_eq_true_eq] at q1
    exact ⟨He.eqO_ok q1.1, q1.2⟩
  · have q2' : PySem.W.readsIn K (caK P K k) (.type "type") = true ∧ He.eqO (specialIn K (.ref (caK P K k)) "__getattribute__") (some (some (.builtin "type.__getattribute__"))) = true := by
      cases ee : C.clsm.isEmpty with
      | true =>
        rw [List.isEmpty_iff.mp ee] at e
        cases e
      | false =>
        rw [ee] at q2
        simpa using q2
    obtain ⟨w1, w2, w3⟩ := q3 _ (look_mem e)
    have hc := He5.cmet_of w1 (by rw [w2]; exact w3)
    rw [w2] at hc
    exact ⟨.type "type", _, ⟨q2'.1, He.eqO_ok q2'.2⟩, hc⟩
theorem facts_ok {h : Heap} (X : K.In h) (G : h.Ns mainGlobals mg) (hf : factB P K = true) : Facts (G0.of P K mg) (fdK P K) ∧ ∀ (i : Nat) (F : Fn), P.funs[i]? = some F → DefF (G0.of P K mg) (fdK P K) i F := by
  unfold factB at hf
  simp only [Bool.and_eq_true, decide_eq_true_eq, List.all_eq_true] at hf
  obtain ⟨f0, f1, f2, f2e, f3, f4, f5, f6⟩ := hf
  have free : ∀ x ∈ frees, mg x = none := fun x hx => PySem.W.mg_none_of X G (He.eqO_ok (f3 x hx))
  have fall : ∀ (i : Nat) (F : Fn), P.funs[i]? = some F → FnAll (G0.of P K mg) (fdK P K) i F := fun i F e => fn_ok (by simpa using allIx_get f6 e)
  refine ⟨⟨f0, f1, f2, f2e, fun i F e => ?_, fun k C e => cl_ok X G (by simpa using allIx_get f5 e), fun k c e => ?_, free, fun x hx => free x ?_⟩, fun i F e => (fall i F e).df⟩
  · have A := fall i F e
    exact ⟨fun q => PySem.W.mg_of X G (A.gl q), A.kp, fun s us KI l => fnF_bind A.pr s us KI l, fun s us ws vs zs ks ds kd ful KI l1 l2 l3 hb => fnF_bindK A.pr s us ws vs zs ks ds kd ful KI l1 l2 l3 hb⟩
  · have := f4 c (List.mem_of_getElem? e)
    unfold conB at this
    split at this
    · rename_i u eu
      obtain ⟨v, r1, r2⟩ := vB_ok (P := P) (mg := mg) this
      exact ⟨v, u, PySem.W.mg_of X G eu, r1, r2⟩
    · cases this
  · unfold frees
    simp only [List.mem_cons, List.not_mem_nil, or_false] at hx ⊢
    rcases hx with rfl | rfl | rfl | rfl | rfl <;> simp
end
end PY
end
section
set_option Elab.async false
set_option autoImplicit false
set_option linter.all false
set_option maxRecDepth 100000
/-! From a run of the small program to the law. -/
namespace PY
open PySem PySem.Spec PyProof.Rows L2
/-- the script alone -/
def scrH (a : Addr) (o : Obj) (xs : List V) : Hp := fun b => if b = a then some (.frz o (.lst xs)) else none
section
variable {P : Program} {w : World} {K : PySem.W.Frag} {mg mb : Str → Option Value} {k : Nat} {fa a : Addr} {fd : FuncData} {x : Str} {sp : Sp} {s1 : Shared} {us : List Value} {ns : List Int}
theorem law_from (H : Hp) (hO : Only H) (ok : HOk P w H s1.heap) (hA : ∀ b, H b ≠ none → b = a) (hK : H a ≠ none → K.lookup a = none)
    (KX : K.In s1.heap) (hns : s1.heap.Ns mainGlobals mg) (hb : s1.heap.Ns builtinsNs mb) (hbb : ∀ x : Str, x ≠ "__name__" → mb x = bootBuiltins x) (hlim : s1.heap.NoLimit) (hg : s1.gens = #[])
    (ha : s1.heap.get? a = some { cls := .type "list", data := .seq us.toArray }) (hr : Room k callerA)
    (F : ∀ base : Heap, K.In base → base.Ns mainGlobals mg → FnG P w K mg base k fa fd [x] sp) (hbind : BindsTo s1 fd ⟨[.ref a], []⟩ [(x, .ref a)])
    (q0 : sp [.ref a] H (fun v _ => v = .bl true) E0) :
    codeAny (model P w) callerA (.call (.ref fa) ⟨[.ref a], []⟩) (fun r s' => r = .ok (.ret (.bool true)) ∧ OldK s1.heap s'.heap ∧ s'.os = s1.os ∧ AllBare s'.gens) s1 := by
  have off : ∀ {b : Addr} {o : Obj} {es : Array DictEntry} {ep : Nat}, s1.heap.get? b = some o → o.data = .dict es ep → H b = none := fun {b o es ep} e d => by
    by_cases z : H b = none
    · exact z
    · rw [hA b z, ha] at e
      cases e
      exact absurd (show Data.seq us.toArray _ = Data.dict es ep from d) (fun y => by cases y)
  have keepNs : ∀ {b : Addr} {m : Str → Option Value}, s1.heap.Ns b m → (hidT s1.heap H).Ns b m := fun {b m} ⟨o, es, ep, e, d, r⟩ => ⟨o, es, ep, hidT_get e (off e d), d, r⟩
  have inK : K.In (hidT s1.heap H) := fun b o e => hidT_get (KX b o e) (by
    by_cases z : H b = none
    · exact z
    · have q := hA b z
      rw [q] at e z
      rw [hK z] at e
      cases e)
  have md : Mod K mg (hidT s1.heap H) := ⟨inK, keepNs hns, ⟨mb, keepNs hb, hbb⟩, hlim.imp fun mc q => ⟨keepNs q.1, q.2⟩⟩
  have ee : Env0 P w K mg (hidT s1.heap H) callerA [] s1 H := ⟨rfl, md, fun b o e => of_hidT e, Nat.le_of_eq (hidT_size _ _), trivial, (fun b z => by cases z), ok, .of_eq hg⟩
  refine codeAny_mono ((F _ inK (keepNs hns)).run callerA [] s1 H ⟨[.ref a], []⟩ [.ref a] [.ref a] _ rfl hr ee hbind rfl (.cons rfl .nil) q0) fun r s' z => ?_
  match r, z with
  | .ok (.ret u), ⟨v, H', os, bare, un, ok', rv, q⟩ =>
    obtain rfl : v = .bl true := q
    obtain rfl : u = Value.bool true := rv
    refine ⟨rfl, OldK.of_keep fun b o e => ?_, os, bare⟩
    rcases hO b with z | ⟨ob, xs, z⟩
    · exact un.keep b o e z (by intro y; cases y) (by simp)
    · obtain ⟨g1, _⟩ := ok b _ z
      obtain ⟨g2, _⟩ := ok' b _ (un.frzs b ob _ z)
      rw [e] at g1; cases g1
      exact g2
  | .ok .next, z => exact z.elim
  | .ok .brk, z => exact z.elim
  | .ok .cont, z => exact z.elim
  | .error e, z => exact z.elim
theorem law_go (KX : K.In s1.heap) (hns : s1.heap.Ns mainGlobals mg) (hb : s1.heap.Ns builtinsNs mb) (hbb : ∀ x : Str, x ≠ "__name__" → mb x = bootBuiltins x) (hlim : s1.heap.NoLimit) (hg : s1.gens = #[])
    (ha : s1.heap.get? a = some { cls := .type "list", data := .seq us.toArray }) (hi : IntsAre us ns) (hl : ns.length ≤ sizeLine) (hr : Room k callerA)
    (F : ∀ base : Heap, K.In base → base.Ns mainGlobals mg → FnG P w K mg base k fa fd [x] sp) (hbind : BindsTo s1 fd ⟨[.ref a], []⟩ [(x, .ref a)])
    (hsp : ∀ H : Hp, Only H → SqL K H a (ns.map V.int) → sp [.ref a] H (fun v _ => v = .bl true) E0) :
    codeAny (model P w) callerA (.call (.ref fa) ⟨[.ref a], []⟩) (fun r s' => r = .ok (.ret (.bool true)) ∧ OldK s1.heap s'.heap ∧ s'.os = s1.os ∧ AllBare s'.gens) s1 := by
  have rv := vals_ints hi
  cases hk : K.lookup a with
  | some o =>
    have e := KX a o hk
    rw [ha] at e
    cases e
    have hO : Only fun _ => none := fun _ => .inl rfl
    exact law_from _ hO (fun b u z => by cases (show (none : Option HO) = some u from z)) (fun b z => absurd rfl z) (fun z => absurd rfl z) KX hns hb hbb hlim hg ha hr F hbind
      (hsp _ hO (.inr ⟨_, us.toArray, _, hk, rfl, rfl, rfl, by rw [List.size_toArray, hi.length]; exact hl, by simpa using rv⟩))
  | none =>
    have one : scrH a { cls := .type "list", data := .seq us.toArray } (ns.map V.int) a = some (.frz { cls := .type "list", data := .seq us.toArray } (.lst (ns.map V.int))) := if_pos rfl
    have two : ∀ b, b ≠ a → scrH a { cls := .type "list", data := .seq us.toArray } (ns.map V.int) b = none := fun b z => if_neg z
    have hO : Only (scrH a { cls := .type "list", data := .seq us.toArray } (ns.map V.int)) := fun b => by
      by_cases z : b = a
      · rw [z]; exact .inr ⟨_, _, one⟩
      · exact .inl (two b z)
    refine law_from _ hO (fun b u z => ?_) (fun b z => ?_) (fun _ => hk) KX hns hb hbb hlim hg ha hr F hbind (hsp _ hO (.inl (.inr ⟨_, one⟩)))
    · by_cases y : b = a
      · subst y
        rw [one] at z; cases z
        exact ⟨ha, by rw [List.length_map]; exact hl, us, _, rv, ha⟩
      · rw [two b y] at z; cases z
    · by_cases y : b = a
      · exact y
      · exact absurd (two b y) z
end
theorem reps_ints {Γ : G0} {ρ : List Addr} {L : Addr → Prop} {H : Hp} : ∀ ns : List Int, Reps Γ ρ L H (ns.map D.int) (ns.map V.int)
  | [] => .nil
  | n :: ns => .cons (.int n) (reps_ints ns)
/-- a run of the small program -/
theorem sp_of {Γ : G0} {n i : Nat} {a : Addr} {ns : List Int} {H : Hp} (hO : Only H) (hS : SqL Γ.K H a (ns.map V.int)) (hrun : ∃ h', run Γ.P n i [.scr (ns.map D.int)] [] = .ok (.bool true) h') : spT ⟨Γ, fun _ => False⟩ (run Γ.P n i) [.ref a] H (fun v _ => v = .bl true) E0 := by
  obtain ⟨h', e⟩ := hrun
  refine ⟨[], [], [.scr (ns.map D.int)], ⟨rfl, fun _ _ _ e => by simp at e, fun _ _ e => by simp at e, fun _ _ _ e => by simp at e, fun _ z => z.elim, fun _ _ e => by simp at e⟩, .cons (.scr ?_ (reps_ints ns)) .nil, ?_⟩
  · rcases hS with z | ⟨o, its, k, h1, h2, h3, h4, h5, h6⟩
    · exact .inl ⟨z, fun y => by
        rcases y with y | ⟨i, o, y, _⟩
        · exact y
        · simp at y⟩
    · exact .inr ⟨o, its, k, h1, h2, h3, h4, h5, h6⟩
  · show okR (run Γ.P n i [.scr (ns.map D.int)] []) _
    rw [e]
    exact fun ρ' v H' nx r => by cases r; rfl
/-- what the head's run is to show -/
def hookP (P : Prg) (m : Nat) : PySem.W.Hook where
  α := Bool
  obs := fun s => factB P (He.frG s.heap.get? (He5.asA s.heap.get? m))
  val := fun _ => true
  says := fun _ h => ∃ K : PySem.W.Frag, K.In h ∧ factB P K = true
  of := fun _ _ e => ⟨_, He.frG_in, e⟩
  keeps := fun _ _ _ ⟨K, hK, c⟩ k => ⟨K, PySem.W.Frag.In.keeps hK k, c⟩
/-- the walk of a law -/
theorem walk_run {l : PySem.W.OpenLaw} {most n i : Nat} {q : Program} {loose : List Str} {XP : (Str → Option Value) → Heap → Prop} {d : DefRec} {Pr : Prg} {Fl : Fn} {x : Str} {m : Nat} (hn : l.most = some most) (hn2 : most ≤ sizeLine) (hdf : d.params.defaults = []) (hr : Room (3 * n) callerA)
    (hF : Pr.funs[i]? = some Fl) (hcl : Fl.cl = none) (hnm : Fl.name = d.name) (hps : Fl.ps = [x])
    (hrun : ∀ ns : List Int, ns.length ≤ most → ∃ h', run Pr n i [.scr (ns.map D.int)] [] = .ok (.bool true) h') :
    PySem.W.WalkO q loose XP (hookP Pr m).says l.row.toRowW d [] (fun f vs => PySem.call f vs) := by
  refine Att.attach_call hn hdf fun w s₀ s₁ mg mb fa o pm cd doc a vs ns G Y ho hd hcd hmg hobj hints hlen hg => ?_
  obtain ⟨K, KX, hf⟩ := Y
  obtain ⟨fx, df⟩ := facts_ok KX G.T.g hf
  have F0 := fx.fn i Fl hF
  have ga := F0.glob hcl
  rw [hnm] at ga
  have e : fa = faK Pr K i := by
    have z := hmg.symm.trans ga
    cases z; rfl
  subst e
  have b := F0.bind s₁ [.ref a] KX (by rw [hps]; rfl)
  rw [hps] at b
  refine law_go (k := 3 * n) (fd := fdK Pr K i) (x := x) (sp := spT ⟨G0.of Pr K mg, fun _ => False⟩ (run Pr n i)) KX G.T.g G.T.b G.T.builtins G.T.nolimit hg hobj hints (Nat.le_trans hlen hn2) hr (fun base _ _ => ?_) b fun H hO hS => sp_of hO hS (hrun ns hlen)
  have := fn_sound fx df l.prog w base n (fun _ => False) i Fl hF
  rw [hps] at this
  exact this
end PY
end
section
set_option Elab.async false
set_option autoImplicit false
set_option linter.all false
set_option maxRecDepth 100000
/-! Runs of the small program, in plain Lean. -/
namespace PY
open PySem
mutual
theorem lt_mono {n m : Nat} (h : n ≤ m) : ∀ {d : D}, d.lt n = true → d.lt m = true
  | .none, _ => rfl
  | .bool _, _ => rfl
  | .int _, _ => rfl
  | .str _, _ => rfl
  | .tup xs, e => by simp only [D.lt] at e ⊢; exact lts_mono h e
  | .list xs, e => by simp only [D.lt] at e ⊢; exact lts_mono h e
  | .scr xs, e => by simp only [D.lt] at e ⊢; exact lts_mono h e
  | .inst _ xs, e => by simp only [D.lt] at e ⊢; exact lts_mono h e
  | .ref i, e => by simp only [D.lt, decide_eq_true_eq] at e ⊢; omega
  | .cls _, _ => rfl
theorem lts_mono {n m : Nat} (h : n ≤ m) : ∀ {ds : List D}, D.lts n ds = true → D.lts m ds = true
  | [], _ => rfl
  | d :: ds, e => by
    simp only [D.lts, Bool.and_eq_true] at e ⊢
    exact ⟨lt_mono h e.1, lts_mono h e.2⟩
end
theorem O.beq_refl (o : O) : O.beq o o = true := by
  cases o with
  | lst xs => simp only [O.beq, beqs_refl]
  | ins c xs => simp only [O.beq, beqs_refl]; simp
  | dct kvs => simp only [O.beq, beqs_refl]; simp
  | dead => rfl
theorem kept_app {n : Nat} {x : Hh} : ∀ {h : Hh}, kept n h (h ++ x) = true
  | [] => rfl
  | o :: h => by simp only [List.cons_append, kept, O.beq_refl, kept_app, Bool.true_or, Bool.and_self]
theorem kept_refl {n : Nat} {h : Hh} : kept n h h = true := by
  have := kept_app (n := n) (h := h) (x := [])
  rwa [List.append_nil] at this
/-- a call that leaves the cells as they were -/
theorem trim_app {out : Bool} {d : D} {h x : Hh} (hd : d.lt 0 = true) : trim out h (.ok d (h ++ x)) = .ok d h := by
  have l : d.lt h.length = true := lt_mono (Nat.zero_le _) hd
  cases d <;> cases out <;> first
    | (simp only [trim, kept_app, guard, l, List.take_left']; done)
    | (simp [trim, kept_app, guard, l]; done)
    | (simp [D.lt] at hd; done)
theorem trim_same {out : Bool} {d : D} {h : Hh} (hd : d.lt 0 = true) : trim out h (.ok d h) = .ok d h := by
  have := trim_app (out := out) (h := h) (x := []) hd
  rwa [List.append_nil] at this
theorem run_succ {P : Prg} {n i : Nat} {F : Fn} {ds : List D} {h : Hh} (e : P.funs[i]? = some F) (l : ds.length = F.ps.length) : run P (n + 1) i ds h = runF P (run P n) F ds h := by
  unfold run
  rw [e]
  simp only [l, beq_self_eq_true, guard_true]
end PY
namespace PY
open PySem
/-! ### the sack of draws: a cell of three numbers -/
def Sk (i : Nat) (h : Hh) : Prop := ∃ a b c : Int, h[i]? = some (.lst [.int a, .int b, .int c]) ∧ 0 ≤ a ∧ 0 ≤ b ∧ 0 ≤ c
/-- only the sack has changed -/
structure Stp (i : Nat) (h h' : Hh) : Prop where
  len : h'.length = h.length
  old : ∀ j, j ≠ i → h'[j]? = h[j]?
  sk : Sk i h'
theorem Stp.refl {i : Nat} {h : Hh} (s : Sk i h) : Stp i h h := ⟨rfl, fun _ _ => rfl, s⟩
theorem Stp.trans {i : Nat} {h h' h'' : Hh} (a : Stp i h h') (b : Stp i h' h'') : Stp i h h'' := ⟨b.len.trans a.len, fun j n => (b.old j n).trans (a.old j n), b.sk⟩
theorem Sk.lt {i : Nat} {h : Hh} (s : Sk i h) : i < h.length := by
  obtain ⟨a, b, c, e, _⟩ := s
  exact (List.getElem?_eq_some_iff.mp e).1
theorem Sk.app {i : Nat} {h x : Hh} (s : Sk i h) : Sk i (h ++ x) := by
  have l := s.lt
  obtain ⟨a, b, c, e, q⟩ := s
  exact ⟨a, b, c, by rw [List.getElem?_append_left l]; exact e, q⟩
theorem Stp.split {i : Nat} {h x hb : Hh} (l : i < h.length) (s : Stp i (h ++ x) hb) : ∃ h', hb = h' ++ x ∧ Stp i h h' := by
  have e : hb = hb.take h.length ++ x := by
    refine List.ext_getElem? fun j => ?_
    by_cases hj : j < h.length
    · rw [List.getElem?_append_left (by rw [List.length_take, s.len, List.length_append]; omega), List.getElem?_take_of_lt hj]
    · rw [s.old j (by omega), List.getElem?_append_right (by omega), List.getElem?_append_right (by rw [List.length_take, s.len, List.length_append]; omega), List.length_take, s.len, List.length_append]
      congr 1
      omega
  refine ⟨hb.take h.length, e, by rw [List.length_take, s.len, List.length_append]; omega, fun j n => ?_, ?_⟩
  · by_cases hj : j < h.length
    · rw [List.getElem?_take_of_lt hj, s.old j n, List.getElem?_append_left hj]
    · rw [List.getElem?_eq_none (by rw [List.length_take]; omega), List.getElem?_eq_none (by omega)]
  · obtain ⟨a, b, c, q, r⟩ := s.sk
    exact ⟨a, b, c, by rw [List.getElem?_take_of_lt l]; exact q, r⟩
theorem Stp.put {i : Nat} {h : Hh} {a b c : Int} (l : i < h.length) (ha : 0 ≤ a) (hb : 0 ≤ b) (hc : 0 ≤ c) : Stp i h (h.set i (.lst [.int a, .int b, .int c])) :=
  ⟨by simp, fun j n => by rw [List.getElem?_set_ne (Ne.symm n)], a, b, c, by rw [List.getElem?_set_self l], ha, hb, hc⟩
theorem kept_of {n : Nat} : ∀ {h h' : Hh}, h.length ≤ h'.length → (∀ (j : Nat) (o o' : O), h[j]? = some o → h'[j]? = some o' → o = o' ∨ o'.lt n = true) → kept n h h' = true
  | [], _, _, _ => rfl
  | o :: h, [], l, _ => by simp at l
  | o :: h, o' :: h', l, q => by
    simp only [kept, Bool.and_eq_true, Bool.or_eq_true]
    refine ⟨?_, kept_of (by simpa using l) fun j a b e1 e2 => q (j + 1) a b (by simpa using e1) (by simpa using e2)⟩
    rcases q 0 o o' rfl rfl with z | z
    · exact .inl (by rw [z]; exact O.beq_refl _)
    · exact .inr z
/-- a call that has changed the sack alone -/
theorem trim_stp {i : Nat} {out : Bool} {d : D} {h h' x : Hh} (s : Stp i h h') (hd : d.lt 0 = true) : trim out h (.ok d (h' ++ x)) = .ok d h' := by
  have k : kept h.length h (h' ++ x) = true := kept_of (by rw [List.length_append, s.len]; omega) fun j o o' e1 e2 => by
    have jl := (List.getElem?_eq_some_iff.mp e1).1
    rw [List.getElem?_append_left (by rw [s.len]; exact jl)] at e2
    by_cases z : j = i
    · obtain ⟨a, b, c, q, _⟩ := s.sk
      rw [z, q] at e2
      cases e2
      exact .inr rfl
    · rw [s.old j z, e1] at e2
      cases e2
      exact .inl rfl
  have l : d.lt h.length = true := lt_mono (Nat.zero_le _) hd
  have t : (h' ++ x).take h.length = h' := by rw [← s.len]; simp
  cases d <;> cases out <;> first
    | (simp only [trim, k, guard, l, t]; done)
    | (simp [D.lt] at hd; done)
theorem okR_bind {α β : Type} {r : Res α} {f : α → Hh → Res β} {Q : β → Hh → Prop} (x : okR r fun a h => okR (f a h) Q) : okR (r.bind f) Q := by
  cases r with
  | ok a h => exact x
  | ex e h => exact x
  | stuck => exact x
/-! ### bodies -/
/-- what a statement's end must meet -/
def wF (f : Fl) (kn : En → Hh → Prop) (kr : D → Hh → Prop) : Prop := match f with
  | .nx env h => kn env h
  | .rt d h => kr d h
  | _ => False
theorem wF_fl {α : Type} {r : Res α} {f : α → Hh → Fl} {kn : En → Hh → Prop} {kr : D → Hh → Prop} (x : okR r fun a h => wF (f a h) kn kr) : wF (r.fl f) kn kr := by
  cases r with
  | ok a h => exact x
  | ex e h => exact x
  | stuck => exact x
theorem wF_cons {P : Prg} {T : Tab} {s : IS} {r : List IS} {env : En} {h : Hh} {kn : En → Hh → Prop} {kr : D → Hh → Prop} (x : wF (evS P T s env h) (fun env h => wF (evSs P T r env h) kn kr) kr) : wF (evSs P T (s :: r) env h) kn kr := by
  rw [evSs]
  cases e : evS P T s env h <;> rw [e] at x <;> exact x
theorem run_w {P : Prg} {n i : Nat} {F : Fn} {ds : List D} {h : Hh} {Q : D → Hh → Prop} (e : P.funs[i]? = some F) (l : ds.length = F.ps.length)
    (x : wF (evSs P (run P n) F.body (ds.map some ++ List.replicate (F.N.length - ds.length) none) h) (fun _ hb => okR (trim F.out h (.ok .none hb)) Q) (fun d hb => okR (trim F.out h (.ok d hb)) Q)) : okR (run P (n + 1) i ds h) Q := by
  rw [run_succ e l]
  unfold runF
  cases ef : evSs P (run P n) F.body (ds.map some ++ List.replicate (F.N.length - ds.length) none) h <;> rw [ef] at x <;> first | exact x | exact x.elim
end PY
end
section
set_option Elab.async false
set_option autoImplicit false
set_option linter.all false
set_option maxRecDepth 100000
/-! The evaluator's steps as rewriting rules. -/
namespace PY
open PySem
section
variable {α β : Type} {h : Hh} {P : Prg} {T : Tab} {env : En} {m : Bool}
theorem bind_ok {a : α} {f : α → Hh → Res β} : (Res.ok a h).bind f = f a h := rfl
theorem fl_ok {a : α} {f : α → Hh → Fl} : (Res.ok a h).fl f = f a h := rfl
theorem guard_t {r : Res α} {b : Bool} (e : b = true) : guard b r = r := by rw [e]; rfl
theorem opt_s {a : α} : opt (some a) h = .ok a h := rfl
theorem bin_add {i j : Int} : binD m .Add (.int i) (.int j) h = .ok (.int (i + j)) h := rfl
theorem bin_sub {i j : Int} : binD m .Sub (.int i) (.int j) h = .ok (.int (i - j)) h := rfl
theorem bin_mul {i j : Int} : binD m .Mult (.int i) (.int j) h = guard (fitsMul i j) (.ok (.int (i * j)) h) := rfl
theorem bin_fdiv {i j : Int} : binD m .FloorDiv (.int i) (.int j) h = guard (decide (0 < j) && decide (j < 1073741824)) (.ok (.int (i / j)) h) := rfl
theorem bin_mod {i j : Int} : binD m .Mod (.int i) (.int j) h = guard (decide (0 < j)) (.ok (.int (i % j)) h) := rfl
theorem bin_cat {a b : Str} : binD m .Add (.str a) (.str b) h = guard (decide (a.length + b.length ≤ sizeLine)) (.ok (.str (a ++ b)) h) := rfl
theorem cmp_lt {i j : Int} : cmpD .Lt (.int i) (.int j) h = .ok (.bool (decide (i < j))) h := rfl
theorem cmp_le {i j : Int} : cmpD .LtE (.int i) (.int j) h = .ok (.bool (decide (i ≤ j))) h := rfl
theorem cmp_gt {i j : Int} : cmpD .Gt (.int i) (.int j) h = .ok (.bool (decide (j < i))) h := rfl
theorem cmp_ge {i j : Int} : cmpD .GtE (.int i) (.int j) h = .ok (.bool (decide (j ≤ i))) h := rfl
theorem un_not {b : Bool} : unD .Not (.bool b) h = .ok (.bool (!b)) h := rfl
theorem un_neg {i : Int} : unD .USub (.int i) h = .ok (.int (-i)) h := rfl
theorem idx_ref {i : Nat} {k : Int} {xs : List D} (e : h[i]? = some (.lst xs)) : idxD (.ref i) (.int k) h = opt (L2.atI xs k) h := by
  unfold idxD
  simp only [dctOf, seqOf, e]
theorem idx_tup {xs : List D} {k : Int} : idxD (.tup xs) (.int k) h = opt (L2.atI xs k) h := rfl
theorem idx_list {xs : List D} {k : Int} : idxD (.list xs) (.int k) h = opt (L2.atI xs k) h := rfl
theorem idx_scr {xs : List D} {k : Int} : idxD (.scr xs) (.int k) h = opt (L2.atI xs k) h := rfl
theorem getV_0 {d : D} {r : En} : getV (some d :: r) 0 = some d := rfl
theorem getV_s {o : Option D} {r : En} {i : Nat} : getV (o :: r) (i + 1) = getV r i := rfl
theorem bc_int {i : Int} : bcM P T m .int [.int i] h = .ok (.int i) h := rfl
theorem bc_abs {i : Int} : bcM P T m .abs [.int i] h = .ok (.int (if i < 0 then -i else i)) h := rfl
theorem bc_divmod {i j : Int} : bcM P T m .divmod [.int i, .int j] h = guard (decide (0 < j) && decide (j < 1073741824)) (.ok (.tup [.int (i / j), .int (i % j)]) h) := rfl
theorem bc_lenS {s : Str} : bcM P T m .len [.str s] h = guard (decide (s.length ≤ sizeLine)) (.ok (.int s.length) h) := rfl
theorem bc_lenT {xs : List D} : bcM P T m .len [.tup xs] h = .ok (.int xs.length) h := rfl
theorem bc_lenL {xs : List D} : bcM P T m .len [.list xs] h = .ok (.int xs.length) h := rfl
theorem bc_lenC {xs : List D} : bcM P T m .len [.scr xs] h = .ok (.int xs.length) h := rfl
theorem e_v {i : Nat} : evE P T (.v i) env h = opt (getV env i) h := by rw [evE]
theorem e_c {d : D} : evE P T (.c d) env h = .ok d h := by rw [evE]
theorem e_bin {op : Operator} {a b : IE} : evE P T (.bin m op a b) env h = (evE P T a env h).bind fun x h1 => (evE P T b env h1).bind fun y h2 => binD m op x y h2 := by rw [evE]
theorem e_un {op : UnaryOp} {a : IE} : evE P T (.un op a) env h = (evE P T a env h).bind fun x h1 => unD op x h1 := by rw [evE]
theorem e_cmp {op : CmpOp} {a b : IE} : evE P T (.cmp op a b) env h = (evE P T a env h).bind fun x h1 => (evE P T b env h1).bind fun y h2 => cmpM P T op x y h2 := by rw [evE]
theorem cm_lt {x y : D} : cmpM P T .Lt x y h = cmpD .Lt x y h := rfl
theorem cm_le {x y : D} : cmpM P T .LtE x y h = cmpD .LtE x y h := rfl
theorem cm_gt {x y : D} : cmpM P T .Gt x y h = cmpD .Gt x y h := rfl
theorem cm_ge {x y : D} : cmpM P T .GtE x y h = cmpD .GtE x y h := rfl
theorem cm_is {x y : D} : cmpM P T .Is x y h = cmpD .Is x y h := rfl
theorem cm_isn {x y : D} : cmpM P T .IsNot x y h = cmpD .IsNot x y h := rfl
theorem cm_in {x y : D} : cmpM P T .In x y h = cmpD .In x y h := rfl
theorem cm_nin {x y : D} : cmpM P T .NotIn x y h = cmpD .NotIn x y h := rfl
theorem cm_eqI {x : Int} {y : D} : cmpM P T .Eq (.int x) y h = cmpD .Eq (.int x) y h := rfl
theorem cm_neI {x : Int} {y : D} : cmpM P T .NotEq (.int x) y h = cmpD .NotEq (.int x) y h := rfl
theorem cm_eqS {x : Str} {y : D} : cmpM P T .Eq (.str x) y h = cmpD .Eq (.str x) y h := rfl
theorem cm_neS {x : Str} {y : D} : cmpM P T .NotEq (.str x) y h = cmpD .NotEq (.str x) y h := rfl
theorem cm_eqL {x : List D} {y : D} : cmpM P T .Eq (.list x) y h = cmpD .Eq (.list x) y h := rfl
theorem cm_neL {x : List D} {y : D} : cmpM P T .NotEq (.list x) y h = cmpD .NotEq (.list x) y h := rfl
theorem cm_eqT {x : List D} {y : D} : cmpM P T .Eq (.tup x) y h = cmpD .Eq (.tup x) y h := rfl
theorem cm_neT {x : List D} {y : D} : cmpM P T .NotEq (.tup x) y h = cmpD .NotEq (.tup x) y h := rfl
theorem cm_ref {op : CmpOp} {i : Nat} {xs : List D} {y : D} (e : h[i]? = some (.lst xs)) : cmpM P T op (.ref i) y h = cmpD op (.ref i) y h := by
  have z : ownEq P (.ref i) y h = none := by
    unfold ownEq insOf
    simp only [e]
  unfold cmpM
  rw [z]
  cases op <;> rfl
theorem e_idx {a b : IE} : evE P T (.idx a b) env h = (evE P T a env h).bind fun x h1 => (evE P T b env h1).bind fun y h2 => idxD x y h2 := by rw [evE]
theorem e_bc {f : BF} {es : List IE} : evE P T (.bc m f es) env h = (evEs P T es env h).bind fun ds h1 => bcM P T m f ds h1 := by rw [evE]
theorem e_call {f : Nat} {es : List IE} {ks : List (Str × IE)} : evE P T (.call f es ks) env h = (evEs P T es env h).bind fun ds h1 => (evKs P T ks env h1).bind fun kd h2 => callM P T f ds kd h2 := by rw [evE]
theorem e_lst {es : List IE} : evE P T (.lst m es) env h = (evEs P T es env h).bind fun ds h1 => mkL m ds h1 := by rw [evE]
theorem e_tup {es : List IE} : evE P T (.tup es) env h = (evEs P T es env h).bind fun ds h1 => guard (decide (ds.length ≤ sizeLine)) (.ok (.tup ds) h1) := by rw [evE]
theorem es_nil : evEs P T [] env h = .ok [] h := by rw [evEs]
theorem ks_nil : evKs P T [] env h = .ok [] h := by rw [evKs]
theorem s_set {t : IL} {e : IE} : evS P T (.set t e) env h = (evE P T e env h).fl fun d h => (asg P T t d env h).fl fun env h => .nx env h := by rw [evS]
theorem s_ret {e : IE} : evS P T (.ret e) env h = (evE P T e env h).fl fun d h => .rt d h := by rw [evS]
theorem s_expr {e : IE} : evS P T (.expr e) env h = (evE P T e env h).fl fun _ h => .nx env h := by rw [evS]
theorem s_if {c : IE} {a b : List IS} : evS P T (.ifs c a b) env h = (evE P T c env h).fl fun x h => match x with
    | .bool true => evSs P T a env h
    | .bool false => evSs P T b env h
    | _ => .stuck := by
  rw [evS]
  try rfl
theorem a_n {i : Nat} {d : D} (l : i < env.length) : asg P T (.n i) d env h = .ok (env.set i (some d)) h := by rw [asg, if_pos l]
theorem a_sub {a b : IE} {d : D} {i : Nat} {k : Int} {xs : List D} {j : Nat} (e1 : evE P T a env h = .ok (.ref i) h) (e2 : evE P T b env h = .ok (.int k) h) (e3 : h[i]? = some (.lst xs)) (e4 : L2.ixN xs.length k = some j) :
    asg P T (.sub a b) d env h = .ok env (h.set i (.lst (xs.set j d))) := by
  rw [asg, e1]
  simp only [bind_ok, e2, dctOf, e3, e4]
theorem a_tup {ts : List IL} {ds : List D} : asg P T (.tup ts) (.tup ds) env h = asgs P T ts ds env h := by rw [asg]
theorem as_nil : asgs P T [] [] env h = .ok env h := by rw [asgs]
theorem as_cons {t : IL} {ts : List IL} {d : D} {ds : List D} : asgs P T (t :: ts) (d :: ds) env h = (asg P T t d env h).bind fun env h => asgs P T ts ds env h := by rw [asgs]
theorem es_cons {a : IE} {r : List IE} (ha : ∀ b, a ≠ .star b) : evEs P T (a :: r) env h = (evE P T a env h).bind fun d h1 => (evEs P T r env h1).bind fun ds h2 => .ok (d :: ds) h2 := by
  cases a <;> first | (rw [evEs]; done) | (exact absurd rfl (ha _)) | (intros; rfl)
theorem wF_nx {kn : En → Hh → Prop} {kr : D → Hh → Prop} (x : kn env h) : wF (.nx env h) kn kr := x
theorem wF_rt {d : D} {kn : En → Hh → Prop} {kr : D → Hh → Prop} (x : kr d h) : wF (.rt d h) kn kr := x
theorem wF_nil {kn : En → Hh → Prop} {kr : D → Hh → Prop} (x : kn env h) : wF (evSs P T [] env h) kn kr := by rw [evSs]; exact x
theorem pick_self {α : Type} : ∀ {ps : List Str} {us : List α} {r : List (Str × α)}, ps.Nodup → us.length = ps.length → (ps.filterMap fun n => (ps.zip us ++ r).lookup n) = us
  | [], [], _, _, _ => rfl
  | p :: ps, u :: us, r, hn, l => by
    have hn := List.nodup_cons.mp hn
    have ih := pick_self (ps := ps) (us := us) (r := r) hn.2 (by simpa using l)
    have e : ps.filterMap (fun n => ((p :: ps).zip (u :: us) ++ r).lookup n) = ps.filterMap fun n => (ps.zip us ++ r).lookup n := fm_congr fun n hm => by
      have ne : (n == p) = false := beq_eq_false_iff_ne.mpr fun z => hn.1 (z ▸ hm)
      simp only [List.zip_cons_cons, List.cons_append, List.lookup, ne]
    rw [List.filterMap_cons, e, ih]
    simp only [List.zip_cons_cons, List.cons_append, List.lookup, beq_self_eq_true]
  | [], _ :: _, _, _, l => by simp at l
  | _ :: _, [], _, _, l => by simp at l
theorem bindA_pos {ps : List Str} {dfl ds : List D} (nd : ps.Nodup) (l : ds.length = ps.length) (dl : dfl.length ≤ ps.length) : bindA ps dfl ds [] = some ds := by
  have p : pickG ps ds [] dfl = ds := by
    unfold pickG slG
    rw [List.append_assoc]
    exact pick_self nd l
  unfold bindA
  rw [p, if_pos]
  simp only [Bool.and_eq_true, decide_eq_true_eq, List.all_eq_true]
  refine ⟨by omega, dl, (fun _ z => by cases z), List.nodup_nil, fun n hn => ?_, fun n hn => ?_⟩
  · rw [List.append_nil]
    exact zip_hit l (List.mem_of_mem_take hn)
  · unfold slG
    rw [List.append_assoc, look_app]
    have := zip_hit (us := ds) l hn
    cases e : (ps.zip ds).lookup n with
    | none => rw [e] at this; cases this
    | some v => rfl
theorem callM_pos {f : Nat} {F : Fn} {ds : List D} (e : P.funs[f]? = some F) (nd : F.ps.Nodup) (l : ds.length = F.ps.length) (dl : F.dfl.length ≤ F.ps.length) : callM P T f ds [] h = T f ds h := by
  unfold callM
  rw [e]
  simp only [bindA_pos nd l dl]
theorem okR_mono {r : Res α} {Q Q' : α → Hh → Prop} (x : okR r Q) (q : ∀ a h, Q a h → Q' a h) : okR r Q' := x.mono q
theorem lts_mem {n : Nat} {d : D} : ∀ {xs : List D}, D.lts n xs = true → d ∈ xs → d.lt n = true
  | x :: xs, h, m => by
    simp only [D.lts, Bool.and_eq_true] at h
    rcases List.mem_cons.mp m with z | z
    · rw [z]; exact h.1
    · exact lts_mem h.2 z
theorem atI_nat {γ : Type} {xs : List γ} {d : Int} (d0 : 0 ≤ d) (d1 : d < xs.length) : ∃ x, L2.atI xs d = some x ∧ x ∈ xs := by
  have il : d.toNat < xs.length := by omega
  refine ⟨xs[d.toNat], ?_, List.getElem_mem il⟩
  unfold L2.atI L2.ixN
  rw [if_pos d0, if_pos d1]
  show xs[d.toNat]? = _
  exact List.getElem?_eq_getElem il
theorem okR_ok {a : α} {Q : α → Hh → Prop} (x : Q a h) : okR (.ok a h) Q := x
theorem s_for {t : IT} {src : II} {b : List IS} : evS P T (.for t src b) env h = (evI P T src env h).fl fun it h => forM it.2 (fun d env h => match tgt h d env t with
    | some env => evSs P T b env h
    | none => .stuck) it.1 env h := by
  rw [evS]
  try rfl
/-- a loop by what holds of the items that are left -/
theorem forM_w {chk : Hh → Bool} {f : D → En → Hh → Fl} {kn : En → Hh → Prop} {kr : D → Hh → Prop} (I : List D → En → Hh → Prop) (hc : ∀ r env h, I r env h → chk h = true) (hs : ∀ d r env h, I (d :: r) env h → wF (f d env h) (I r) kr) (he : ∀ env h, I [] env h → kn env h) :
    ∀ {xs : List D} {env : En} {h : Hh}, I xs env h → wF (forM chk f xs env h) kn kr
  | [], env, h, i => by
    unfold forM
    rw [hc _ _ _ i]
    exact he _ _ i
  | d :: r, env, h, i => by
    have w := hs _ _ _ _ i
    unfold forM
    rw [hc _ _ _ i]
    cases e : f d env h with
    | nx env1 h1 => rw [e] at w; exact forM_w I hc hs he w
    | rt d1 h1 => rw [e] at w; exact w
    | _ => rw [e] at w; exact w.elim
theorem tgt_n {d : D} {i : Nat} (l : i < env.length) : tgt h d env (.n i) = some (env.set i (some d)) := by
  unfold tgt
  rw [if_pos l]
theorem i_e {x : IE} {xs : List D} {d : D} {h1 : Hh} (e : evE P T x env h = .ok d h1) (e2 : itemsOf h1 d = some (xs, none)) : evI P T (.e x) env h = .ok (xs, chkM xs none) h1 := by
  rw [evI, e]
  simp only [bind_ok, e2]
theorem i_range1 {a : IE} {j : Int} {h1 : Hh} (ha : ∀ b, a ≠ .star b) (e : evE P T a env h = .ok (.int j) h1) (r : inR j = true) : evI P T (.range [a]) env h = .ok (upto 0 j.toNat, fun _ => true) h1 := by
  rw [evI, es_cons ha, e, bind_ok, es_nil, bind_ok, bind_ok]
  simp only [r, guard_true]
theorem trim_new {o : O} (l : o.lt 0 = true) (hl : ∀ n, o.lt 0 = true → o.lt n = true) : trim true h (.ok (.ref h.length) (h ++ [o])) = .ok (.ref h.length) (h ++ [o]) := by
  have e : (h ++ [o])[h.length]? = some o := by simp
  simp only [trim, kept_app, guard_true, e, hl _ l, Nat.le_refl, decide_true, Bool.and_self, List.take_left']
theorem e_ite {c a b : IE} : evE P T (.ite c a b) env h = (evE P T c env h).bind fun x h1 => match x with
    | .bool true => evE P T a env h1
    | .bool false => evE P T b env h1
    | _ => .stuck := by
  rw [evE]
  try rfl
theorem e_or {es : List IE} : evE P T (.or es) env h = evOr P T es env h := by rw [evE]
theorem e_and {es : List IE} : evE P T (.and es) env h = evAnd P T es env h := by rw [evE]
theorem or1 {e : IE} : evOr P T [e] env h = evE P T e env h := by rw [evOr]
theorem or2 {e e2 : IE} {r : List IE} : evOr P T (e :: e2 :: r) env h = (evE P T e env h).bind fun x h1 => match x with
    | .bool false => evOr P T (e2 :: r) env h1
    | .bool true => .ok (.bool true) h1
    | _ => .stuck := by
  rw [evOr]
  try rfl
theorem and1 {e : IE} : evAnd P T [e] env h = evE P T e env h := by rw [evAnd]
theorem and2 {e e2 : IE} {r : List IE} : evAnd P T (e :: e2 :: r) env h = (evE P T e env h).bind fun x h1 => match x with
    | .bool true => evAnd P T (e2 :: r) env h1
    | .bool false => .ok (.bool false) h1
    | _ => .stuck := by
  rw [evAnd]
  try rfl
theorem e_slc {a : IE} {lo hi : Option IE} : evE P T (.slc a lo hi) env h = (evE P T a env h).bind fun x h1 => (evO P T lo env h1).bind fun l h2 => (evO P T hi env h2).bind fun u h3 => slcD x l u h3 := by rw [evE]
theorem o_none : evO P T none env h = .ok none h := by rw [evO]
theorem o_int {i : Int} : evO P T (some (.c (.int i))) env h = .ok (some i) h := by
  rw [evO, e_c]
  rfl
theorem bin_pow {i j : Int} : binD m .Pow (.int i) (.int j) h = guard (decide (0 ≤ j) && decide (j ≤ 1000000) && decide (i.natAbs < 2 ^ 64)) (.ok (.int (i ^ j.toNat)) h) := rfl
theorem cut_mem {xs : List D} {lo hi : Option Int} {d : D} (m : d ∈ cutD xs lo hi) : d ∈ xs := List.mem_of_mem_drop (List.mem_of_mem_take m)
theorem okE {a : α} {Q : α → Hh → Prop} : okR (.ok a h) Q = Q a h := rfl
theorem bindE {r : Res α} {f : α → Hh → Res β} {Q : β → Hh → Prop} : okR (r.bind f) Q = okR r fun a h => okR (f a h) Q := by cases r <;> rfl
theorem flE {r : Res α} {f : α → Hh → Fl} {kn : En → Hh → Prop} {kr : D → Hh → Prop} : wF (r.fl f) kn kr = okR r fun a h => wF (f a h) kn kr := by cases r <;> rfl
theorem rtE {d : D} {kn : En → Hh → Prop} {kr : D → Hh → Prop} : wF (.rt d h) kn kr = kr d h := rfl
theorem nxE {kn : En → Hh → Prop} {kr : D → Hh → Prop} : wF (.nx env h) kn kr = kn env h := rfl
theorem bc_min2 {i j : Int} : bcM P T m .min [.int i, .int j] h = .ok (.int (if j < i then j else i)) h := rfl
theorem mkL_v {xs : List D} (l : xs.length ≤ sizeLine) : mkL false xs h = .ok (.list xs) h := by
  unfold mkL
  rw [guard_t (decide_eq_true l)]
/-- a comprehension's turns that leave the cells as they are -/
theorem compM_pure {f : D → Hh → Res (Option D)} {g : D → Option D} : ∀ {xs : List D}, (∀ d ∈ xs, f d h = .ok (g d) h) → compM f xs h = .ok (xs.filterMap g) h
  | [], _ => rfl
  | d :: xs, hf => by
    unfold compM
    rw [hf d List.mem_cons_self, bind_ok, compM_pure fun x hx => hf x (List.mem_cons_of_mem _ hx), bind_ok, List.filterMap_cons]
    cases g d <;> rfl
end
end PY
end
section
set_option Elab.async false
set_option autoImplicit false
set_option linter.all false
set_option maxRecDepth 100000
/-! What a run must meet, as rewriting rules: one `simp only` unrolls a body. -/
namespace PY
open PySem
/-- two ways -/
def ifQ (x : D) (p q : Prop) : Prop := match x with
  | .bool true => p
  | .bool false => q
  | _ => False
theorem ifQ_t {p q : Prop} : ifQ (.bool true) p q = p := rfl
theorem ifQ_f {p q : Prop} : ifQ (.bool false) p q = q := rfl
theorem ifQ_b {b : Bool} {p q : Prop} : ifQ (.bool b) p q = ((b = true → p) ∧ (b = false → q)) := by
  cases b <;> simp [ifQ]
theorem ifQ_d {c : Prop} [Decidable c] {p q : Prop} : ifQ (.bool (decide c)) p q = ((c → p) ∧ (¬ c → q)) := by
  by_cases h : c <;> simp [ifQ, h]
theorem ifQ_nd {c : Prop} [Decidable c] {p q : Prop} : ifQ (.bool (!decide c)) p q = ((c → q) ∧ (¬ c → p)) := by
  by_cases h : c <;> simp [ifQ, h]
section
variable {α β : Type} {h : Hh} {P : Prg} {T : Tab} {env : En} {m : Bool} {kn : En → Hh → Prop} {kr : D → Hh → Prop} {Q : D → Hh → Prop} {QE : En → Hh → Prop}
theorem wSs {s : IS} {r : List IS} : wF (evSs P T (s :: r) env h) kn kr = wF (evS P T s env h) (fun env h => wF (evSs P T r env h) kn kr) kr := by
  rw [evSs]
  cases e : evS P T s env h <;> rfl
theorem wSn : wF (evSs P T [] env h) kn kr = kn env h := by rw [evSs]; rfl
theorem w_if {c : IE} {a b : List IS} : wF (evS P T (.ifs c a b) env h) kn kr = okR (evE P T c env h) fun x h => ifQ x (wF (evSs P T a env h) kn kr) (wF (evSs P T b env h) kn kr) := by
  rw [s_if, flE]
  congr 1
  funext x h
  cases x with
  | bool b => cases b <;> rfl
  | _ => rfl
theorem w_and2 {e e2 : IE} {r : List IE} : okR (evAnd P T (e :: e2 :: r) env h) Q = okR (evE P T e env h) fun x h1 => ifQ x (okR (evAnd P T (e2 :: r) env h1) Q) (Q (.bool false) h1) := by
  rw [and2, bindE]
  congr 1
  funext x h
  cases x with
  | bool b => cases b <;> rfl
  | _ => rfl
theorem w_or2 {e e2 : IE} {r : List IE} : okR (evOr P T (e :: e2 :: r) env h) Q = okR (evE P T e env h) fun x h1 => ifQ x (Q (.bool true) h1) (okR (evOr P T (e2 :: r) env h1) Q) := by
  rw [or2, bindE]
  congr 1
  funext x h
  cases x with
  | bool b => cases b <;> rfl
  | _ => rfl
theorem w_ite {c a b : IE} : okR (evE P T (.ite c a b) env h) Q = okR (evE P T c env h) fun x h1 => ifQ x (okR (evE P T a env h1) Q) (okR (evE P T b env h1) Q) := by
  rw [e_ite, bindE]
  congr 1
  funext x h
  cases x with
  | bool b => cases b <;> rfl
  | _ => rfl
theorem w_chain {p q : CmpOp} {a b c : IE} : okR (evE P T (.chain p q a b c) env h) Q = okR (evE P T a env h) fun x h1 => okR (evE P T b env h1) fun y h2 => okR (cmpD p x y h2) fun r h3 => ifQ r (okR (evE P T c env h3) fun z h4 => okR (cmpD q y z h4) Q) (Q (.bool false) h3) := by
  rw [evE, bindE]
  congr 1
  funext x h1
  rw [bindE]
  congr 1
  funext y h2
  rw [bindE]
  congr 1
  funext r h3
  cases r with
  | bool b =>
    cases b
    · rfl
    · show okR ((evE P T c env h3).bind _) Q = _
      rw [bindE]
      rfl
  | _ => rfl
theorem w_opt {o : Option α} {Q : α → Hh → Prop} : okR (opt o h) Q = ∃ a, o = some a ∧ Q a h := by
  cases o with
  | none => simp [opt, okR]
  | some a => simp [opt, okR]
theorem w_opt_s {a : α} {Q : α → Hh → Prop} : okR (opt (some a) h) Q = Q a h := rfl
theorem w_guard {b : Bool} {r : Res α} {Q : α → Hh → Prop} : okR (guard b r) Q = (b = true ∧ okR r Q) := by
  cases b <;> simp [guard, okR]
theorem w_set_n0 {d : D} {o : Option D} : okR (asg P T (.n 0) d (o :: env) h) QE = QE (some d :: env) h := by
  rw [a_n (by simp)]
  rfl
theorem w_set_ns {d : D} {o : Option D} {i : Nat} : okR (asg P T (.n (i + 1)) d (o :: env) h) QE = okR (asg P T (.n i) d env h) fun e h => QE (o :: e) h := by
  by_cases l : i < env.length
  · rw [a_n (by simpa using l), a_n l]
    rfl
  · have h1 : asg P T (.n i) d env h = .stuck := by rw [asg, if_neg l]
    have h2 : asg P T (.n (i + 1)) d (o :: env) h = .stuck := by rw [asg, if_neg (by simpa using l)]
    rw [h1, h2]
    rfl
theorem w_aug {i : Nat} {op : Operator} {e : IE} : wF (evS P T (.aug i op e) env h) kn kr = okR (evE P T e env h) fun y h => okR (opt (getV env i) h) fun x h => okR (augD op x y h) fun z h => kn (env.set i (some z)) h := by
  rw [evS, flE]
  congr 1
  funext y h1
  cases getV env i with
  | none => rfl
  | some x =>
    show wF ((augD op x y h1).fl _) _ _ = _
    rw [flE]
    rfl
theorem aug_sub {i j : Int} : augD .Sub (.int i) (.int j) h = .ok (.int (i - j)) h := rfl
theorem aug_add {i j : Int} : augD .Add (.int i) (.int j) h = .ok (.int (i + j)) h := rfl
theorem w_mkLf {xs : List D} : okR (mkL false xs h) Q = (xs.length ≤ sizeLine ∧ Q (.list xs) h) := by
  unfold mkL
  rw [w_guard, decide_eq_true_eq]
  rfl
theorem w_mkLt {xs : List D} : okR (mkL true xs h) Q = (xs.length ≤ sizeLine ∧ Q (.ref h.length) (h ++ [.lst xs])) := by
  unfold mkL
  rw [w_guard, decide_eq_true_eq]
  rfl
theorem es_star {a : IE} {r : List IE} {Q : List D → Hh → Prop} : okR (evEs P T (.star a :: r) env h) Q = okR (evE P T a env h) fun d h1 => okR (opt (seqOf h1 d) h1) fun xs h1 => okR (evEs P T r env h1) fun ds h2 => Q (xs ++ ds) h2 := by
  rw [evEs, bindE]
  congr 1
  funext d h1
  cases seqOf h1 d with
  | none => rfl
  | some xs =>
    show okR ((evEs P T r env h1).bind _) Q = okR (evEs P T r env h1) _
    rw [bindE]
    rfl
theorem ks_cons {k : Str} {e : IE} {r : List (Str × IE)} : evKs P T ((k, e) :: r) env h = (evE P T e env h).bind fun d h1 => (evKs P T r env h1).bind fun ds h2 => .ok ((k, d) :: ds) h2 := by rw [evKs]
theorem es_v {i : Nat} {r : List IE} : evEs P T (.v i :: r) env h = (evE P T (.v i) env h).bind fun d h1 => (evEs P T r env h1).bind fun ds h2 => .ok (d :: ds) h2 := es_cons fun _ z => by cases z
theorem es_c {d : D} {r : List IE} : evEs P T (.c d :: r) env h = (evEs P T r env h).bind fun ds h2 => .ok (d :: ds) h2 := by rw [es_cons (fun _ z => by cases z), e_c, bind_ok]
theorem es_g {k : Nat} {r : List IE} : evEs P T (.g k :: r) env h = (evE P T (.g k) env h).bind fun d h1 => (evEs P T r env h1).bind fun ds h2 => .ok (d :: ds) h2 := es_cons fun _ z => by cases z
theorem es_bin {op : Operator} {a b : IE} {r : List IE} : evEs P T (.bin m op a b :: r) env h = (evE P T (.bin m op a b) env h).bind fun d h1 => (evEs P T r env h1).bind fun ds h2 => .ok (d :: ds) h2 := es_cons fun _ z => by cases z
theorem es_un {op : UnaryOp} {a : IE} {r : List IE} : evEs P T (.un op a :: r) env h = (evE P T (.un op a) env h).bind fun d h1 => (evEs P T r env h1).bind fun ds h2 => .ok (d :: ds) h2 := es_cons fun _ z => by cases z
theorem es_cmp {op : CmpOp} {a b : IE} {r : List IE} : evEs P T (.cmp op a b :: r) env h = (evE P T (.cmp op a b) env h).bind fun d h1 => (evEs P T r env h1).bind fun ds h2 => .ok (d :: ds) h2 := es_cons fun _ z => by cases z
theorem es_chain {p q : CmpOp} {a b c : IE} {r : List IE} : evEs P T (.chain p q a b c :: r) env h = (evE P T (.chain p q a b c) env h).bind fun d h1 => (evEs P T r env h1).bind fun ds h2 => .ok (d :: ds) h2 := es_cons fun _ z => by cases z
theorem es_and {es : List IE} {r : List IE} : evEs P T (.and es :: r) env h = (evE P T (.and es) env h).bind fun d h1 => (evEs P T r env h1).bind fun ds h2 => .ok (d :: ds) h2 := es_cons fun _ z => by cases z
theorem es_or {es : List IE} {r : List IE} : evEs P T (.or es :: r) env h = (evE P T (.or es) env h).bind fun d h1 => (evEs P T r env h1).bind fun ds h2 => .ok (d :: ds) h2 := es_cons fun _ z => by cases z
theorem es_ite {a b c : IE} {r : List IE} : evEs P T (.ite a b c :: r) env h = (evE P T (.ite a b c) env h).bind fun d h1 => (evEs P T r env h1).bind fun ds h2 => .ok (d :: ds) h2 := es_cons fun _ z => by cases z
theorem es_tup {es : List IE} {r : List IE} : evEs P T (.tup es :: r) env h = (evE P T (.tup es) env h).bind fun d h1 => (evEs P T r env h1).bind fun ds h2 => .ok (d :: ds) h2 := es_cons fun _ z => by cases z
theorem es_lst {es : List IE} {r : List IE} : evEs P T (.lst m es :: r) env h = (evE P T (.lst m es) env h).bind fun d h1 => (evEs P T r env h1).bind fun ds h2 => .ok (d :: ds) h2 := es_cons fun _ z => by cases z
theorem es_idx {a b : IE} {r : List IE} : evEs P T (.idx a b :: r) env h = (evE P T (.idx a b) env h).bind fun d h1 => (evEs P T r env h1).bind fun ds h2 => .ok (d :: ds) h2 := es_cons fun _ z => by cases z
theorem es_slc {a : IE} {lo hi : Option IE} {r : List IE} : evEs P T (.slc a lo hi :: r) env h = (evE P T (.slc a lo hi) env h).bind fun d h1 => (evEs P T r env h1).bind fun ds h2 => .ok (d :: ds) h2 := es_cons fun _ z => by cases z
theorem es_rev {a : IE} {r : List IE} : evEs P T (.rev a :: r) env h = (evE P T (.rev a) env h).bind fun d h1 => (evEs P T r env h1).bind fun ds h2 => .ok (d :: ds) h2 := es_cons fun _ z => by cases z
theorem es_call {f : Nat} {es : List IE} {ks : List (Str × IE)} {r : List IE} : evEs P T (.call f es ks :: r) env h = (evE P T (.call f es ks) env h).bind fun d h1 => (evEs P T r env h1).bind fun ds h2 => .ok (d :: ds) h2 := es_cons fun _ z => by cases z
theorem es_make {f : Nat} {es : List IE} {ks : List (Str × IE)} {r : List IE} : evEs P T (.make f es ks :: r) env h = (evE P T (.make f es ks) env h).bind fun d h1 => (evEs P T r env h1).bind fun ds h2 => .ok (d :: ds) h2 := es_cons fun _ z => by cases z
theorem es_bc {f : BF} {es : List IE} {r : List IE} : evEs P T (.bc m f es :: r) env h = (evE P T (.bc m f es) env h).bind fun d h1 => (evEs P T r env h1).bind fun ds h2 => .ok (d :: ds) h2 := es_cons fun _ z => by cases z
theorem es_bm {f : BM} {o : IE} {es : List IE} {r : List IE} : evEs P T (.bm m f o es :: r) env h = (evE P T (.bm m f o es) env h).bind fun d h1 => (evEs P T r env h1).bind fun ds h2 => .ok (d :: ds) h2 := es_cons fun _ z => by cases z
theorem es_meth {a : Nat} {o : IE} {es : List IE} {ks : List (Str × IE)} {r : List IE} : evEs P T (.meth a o es ks :: r) env h = (evE P T (.meth a o es ks) env h).bind fun d h1 => (evEs P T r env h1).bind fun ds h2 => .ok (d :: ds) h2 := es_cons fun _ z => by cases z
theorem es_attr {a : Nat} {o : IE} {r : List IE} : evEs P T (.attr a o :: r) env h = (evE P T (.attr a o) env h).bind fun d h1 => (evEs P T r env h1).bind fun ds h2 => .ok (d :: ds) h2 := es_cons fun _ z => by cases z
theorem es_isi {e : IE} {t : Ty} {r : List IE} : evEs P T (.isi e t :: r) env h = (evE P T (.isi e t) env h).bind fun d h1 => (evEs P T r env h1).bind fun ds h2 => .ok (d :: ds) h2 := es_cons fun _ z => by cases z
theorem es_comp {own : List (Str × Nat)} {t : IT} {src : II} {cs : List IE} {e : IE} {r : List IE} : evEs P T (.comp m own t src cs e :: r) env h = (evE P T (.comp m own t src cs e) env h).bind fun d h1 => (evEs P T r env h1).bind fun ds h2 => .ok (d :: ds) h2 := es_cons fun _ z => by cases z
theorem es_frz {e : IE} {r : List IE} : evEs P T (.frz e :: r) env h = (evE P T (.frz e) env h).bind fun d h1 => (evEs P T r env h1).bind fun ds h2 => .ok (d :: ds) h2 := es_cons fun _ z => by cases z
theorem e_attr {a : Nat} {o : IE} : evE P T (.attr a o) env h = (evE P T o env h).bind fun d h1 => attrM P T a d h1 := by rw [evE]
theorem e_make {k : Nat} {es : List IE} {ks : List (Str × IE)} : evE P T (.make k es ks) env h = (evEs P T es env h).bind fun ds h1 => (evKs P T ks env h1).bind fun kd h2 => makeM P T k ds kd h2 := by rw [evE]
theorem e_isi {e : IE} {t : Ty} : evE P T (.isi e t) env h = (evE P T e env h).bind fun d h1 => opt ((isiM t d).map D.bool) h1 := by rw [evE]
theorem e_bm {f : BM} {o : IE} {es : List IE} : evE P T (.bm m f o es) env h = (evE P T o env h).bind fun d h1 => guard (recv f d h1) ((evEs P T es env h1).bind fun ds h2 => bmM m f d ds h2) := by rw [evE]
theorem w_rev {a : IE} : okR (evE P T (.rev a) env h) Q = okR (evE P T a env h) fun x h1 => okR (opt (lstOf h1 x) h1) fun xs h1 => Q (.list xs.reverse) h1 := by
  rw [evE, bindE]
  congr 1
  funext x h1
  cases lstOf h1 x <;> rfl
theorem w_frz {e : IE} : okR (evE P T (.frz e) env h) Q = okR (evE P T e env h) fun d h1 => okR (match d with
    | .ref i => (match h1[i]? with
      | some (.lst xs) => .ok (.list xs) (h1.set i .dead)
      | _ => .stuck)
    | d => .ok d h1) Q := by
  rw [evE, bindE]
  try rfl
/-- a comprehension's turn -/
def cB (P : Prg) (T : Tab) (env : En) (own : List (Str × Nat)) (t : IT) (cs : List IE) (e : IE) (chk : Hh → Bool) (d : D) (h : Hh) : Res (Option D) := guard (chk h) (match tgt h d (wipeE env (own.map (·.2))) t with
        | some env' => (evCs P T cs env' h).bind fun b h2 => match b with
          | true => (evE P T e env' h2).bind fun x h3 => .ok (some x) h3
          | false => .ok Option.none h2
        | Option.none => .stuck)
theorem w_comp {own : List (Str × Nat)} {t : IT} {src : II} {cs : List IE} {e : IE} : okR (evE P T (.comp m own t src cs e) env h) Q = okR (evI P T src env h) fun it h1 => okR (compM (cB P T env own t cs e it.2) it.1 h1) fun ds h2 => it.2 h2 = true ∧ okR (mkL m ds h2) Q := by
  rw [evE, bindE]
  congr 1
  funext it h1
  rw [bindE]
  unfold cB
  congr 1
  funext ds h2
  rw [w_guard]
theorem w_cB {own : List (Str × Nat)} {t : IT} {cs : List IE} {e : IE} {chk : Hh → Bool} {d : D} {env' : En} {Q : Option D → Hh → Prop} (et : tgt h d (wipeE env (own.map (·.2))) t = some env') : okR (cB P T env own t cs e chk d h) Q = (chk h = true ∧ okR (evCs P T cs env' h) fun b h2 => if b = true then okR (evE P T e env' h2) fun x h3 => Q (some x) h3 else Q none h2) := by
  unfold cB
  rw [w_guard]
  simp only [et, bindE]
  congr 2
  funext b h2
  cases b
  · simp [okR]
  · simp only [bindE, okE, if_true]
theorem w_csn {Q : Bool → Hh → Prop} : okR (evCs P T [] env h) Q = Q true h := by rw [evCs]; rfl
theorem w_csc {e : IE} {r : List IE} {Q : Bool → Hh → Prop} : okR (evCs P T (e :: r) env h) Q = okR (evE P T e env h) fun d h1 => ifQ d (okR (evCs P T r env h1) Q) (Q false h1) := by
  rw [evCs, bindE]
  congr 1
  funext d h1
  cases d with
  | bool b => cases b <;> rfl
  | _ => rfl
theorem w_i_e {x : IE} {Q : List D × (Hh → Bool) → Hh → Prop} : okR (evI P T (.e x) env h) Q = okR (evE P T x env h) fun d h1 => okR (opt (itemsOf h1 d) h1) fun it h1 => Q (it.1, chkM it.1 it.2) h1 := by
  rw [evI, bindE]
  congr 1
  funext d h1
  cases itemsOf h1 d <;> rfl
theorem w_i_enum {x : IE} {Q : List D × (Hh → Bool) → Hh → Prop} : okR (evI P T (.enum x) env h) Q = okR (evE P T x env h) fun d h1 => okR (opt (itemsN h1 d) h1) fun it h1 => Q (pairs (upto 0 it.1.length) it.1, chkM it.1 it.2) h1 := by
  rw [evI, bindE]
  congr 1
  funext d h1
  cases itemsN h1 d <;> rfl
theorem w_for {t : IT} {src : II} {b : List IS} : wF (evS P T (.for t src b) env h) kn kr = okR (evI P T src env h) fun it h => wF (forM it.2 (fun d env h => match tgt h d env t with
    | some env => evSs P T b env h
    | none => .stuck) it.1 env h) kn kr := by
  rw [s_for, flE]
  try rfl
theorem itm_tup {xs : List D} : itemsOf h (.tup xs) = some (xs, none) := rfl
theorem itm_list {xs : List D} : itemsOf h (.list xs) = some (xs, none) := rfl
theorem itm_scr {xs : List D} : itemsOf h (.scr xs) = some (xs, none) := rfl
theorem itm_str {z : Str} : itemsOf h (.str z) = some (z.cps.toList.map fun c => D.str ⟨#[c]⟩, none) := rfl
theorem itN_tup {xs : List D} : itemsN h (.tup xs) = some (xs, none) := rfl
theorem chk_none {xs : List D} : chkM xs none h = true := rfl
theorem sq_tup {xs : List D} : seqOf h (.tup xs) = some xs := rfl
theorem sq_list {xs : List D} : seqOf h (.list xs) = some xs := rfl
theorem bin_L {xs ys : List D} : binD m .Add (.list xs) (.list ys) h = mkL m (xs ++ ys) h := rfl
theorem bin_T {xs ys : List D} : binD m .Add (.tup xs) (.tup ys) h = guard (decide (xs.length + ys.length ≤ sizeLine)) (.ok (.tup (xs ++ ys)) h) := rfl
theorem bc_strI {i : Int} : bcM P T m .str [.int i] h = guard (decide (i.natAbs.log2 < 1920)) (.ok (.str (toString i)) h) := rfl
theorem bc_strS {s : Str} : bcM P T m .str [.str s] h = .ok (.str s) h := rfl
theorem bc_tupL {xs : List D} : bcM P T m .tuple [.list xs] h = .ok (.tup xs) h := rfl
theorem bc_tupT {xs : List D} : bcM P T m .tuple [.tup xs] h = .ok (.tup xs) h := rfl
theorem bc_max2 {i j : Int} : bcM P T m .max [.int i, .int j] h = .ok (.int (if j > i then j else i)) h := rfl
theorem o_some {e : IE} {Q : Option Int → Hh → Prop} : okR (evO P T (some e) env h) Q = okR (evE P T e env h) fun x h1 => okR (opt x.toInt? h1) fun i h1 => Q (some i) h1 := by
  rw [evO, bindE]
  congr 1
  funext x h1
  cases x <;> rfl
/-! lists of made values -/
theorem compM_map {α : Type} {enc : α → D} {f : D → Hh → Res (Option D)} {g : α → Option D} : ∀ {ys : List α}, (∀ a ∈ ys, okR (f (enc a) h) fun o h' => o = g a ∧ h' = h) → compM f (ys.map enc) h = .ok (ys.filterMap g) h
  | [], _ => rfl
  | a :: ys, hf => by
    have hh := hf a List.mem_cons_self
    obtain ⟨o, h', e, e1, e2⟩ := okR.of hh
    rw [List.map_cons]
    unfold compM
    rw [e, e1, e2, bind_ok, compM_map fun x hx => hf x (List.mem_cons_of_mem _ hx), bind_ok, List.filterMap_cons]
    cases g a <;> rfl
theorem w_cmap {α : Type} {enc : α → D} {f : D → Hh → Res (Option D)} (k : α → D) {ys : List α} {Q : List D → Hh → Prop} (hf : ∀ a ∈ ys, okR (f (enc a) h) fun o h' => o = some (k a) ∧ h' = h) (q : Q (ys.map k) h) : okR (compM f (ys.map enc) h) Q := by
  rw [compM_map (g := fun a => some (k a)) hf]
  show Q _ h
  rw [List.filterMap_eq_map' (f := k)]
  exact q
theorem w_cfil {α : Type} {enc : α → D} {f : D → Hh → Res (Option D)} (p : α → Bool) (k : α → D) {ys : List α} {Q : List D → Hh → Prop} (hf : ∀ a ∈ ys, okR (f (enc a) h) fun o h' => o = (if p a = true then some (k a) else none) ∧ h' = h) (q : Q ((ys.filter p).map k) h) : okR (compM f (ys.map enc) h) Q := by
  rw [compM_map (g := fun a => if p a = true then some (k a) else none) hf]
  show Q _ h
  have e : ys.filterMap (fun a => if p a = true then some (k a) else none) = (ys.filter p).map k := by
    clear q hf
    induction ys with
    | nil => rfl
    | cons a ys ih =>
      rw [List.filterMap_cons, List.filter_cons, ih]
      cases p a <;> rfl
  rw [e]
  exact q
theorem okR_eq {r : Res α} {a : α} (x : okR r fun b h' => b = a ∧ h' = h) : r = .ok a h := by
  obtain ⟨b, h', e, rfl, rfl⟩ := okR.of x
  exact e
end
inductive All2 {α β : Type} (R : α → β → Prop) : List α → List β → Prop
  | nil : All2 R [] []
  | cons {a b as bs} : R a b → All2 R as bs → All2 R (a :: as) (b :: bs)
theorem All2.len {α β : Type} {R : α → β → Prop} {as : List α} {bs : List β} (x : All2 R as bs) : as.length = bs.length := by
  induction x with
  | nil => rfl
  | cons _ _ ih => simp [ih]
theorem All2.mem {α β : Type} {R : α → β → Prop} {as : List α} {bs : List β} (x : All2 R as bs) : ∀ b ∈ bs, ∃ a ∈ as, R a b := by
  induction x with
  | nil => intro b m; cases m
  | cons r _ ih =>
    intro b m
    rcases List.mem_cons.mp m with rfl | m
    · exact ⟨_, List.mem_cons_self, r⟩
    · obtain ⟨a, ma, ra⟩ := ih b m
      exact ⟨a, List.mem_cons_of_mem _ ma, ra⟩
theorem All2.map {α β γ : Type} {R : α → β → Prop} {f : α → γ} {g : β → γ} {as : List α} {bs : List β} (x : All2 R as bs) (e : ∀ a b, R a b → f a = g b) : as.map f = bs.map g := by
  induction x with
  | nil => rfl
  | cons r _ ih => simp [ih, e _ _ r]
/-- a comprehension that draws -/
theorem w_cdraw {i : Nat} {α β : Type} {enc : α → D} {encB : β → D} {R : α → β → Prop} {f : D → Hh → Res (Option D)} : ∀ {ys : List α} {h : Hh}, (∀ a ∈ ys, ∀ h, Sk i h → okR (f (enc a) h) fun o h' => Stp i h h' ∧ ∃ b, o = some (encB b) ∧ R a b) → Sk i h →
    okR (compM f (ys.map enc) h) fun ds h' => Stp i h h' ∧ ∃ zs, ds = List.map encB zs ∧ All2 R ys zs
  | [], h, _, s => ⟨Stp.refl s, [], rfl, .nil⟩
  | a :: ys, h, hf, s => by
    rw [List.map_cons]
    unfold compM
    rw [bindE]
    refine okR_mono (hf a List.mem_cons_self h s) ?_
    rintro o h1 ⟨s1, b, rfl, r⟩
    rw [bindE]
    refine okR_mono (w_cdraw (fun x hx => hf x (List.mem_cons_of_mem _ hx)) s1.sk) ?_
    rintro ds h2 ⟨s2, zs, rfl, r2⟩
    exact ⟨s1.trans s2, b :: zs, rfl, .cons r r2⟩
theorem framed {i : Nat} {r : Res D} {φ : D → Prop} {h x : Hh} {Q : D → Hh → Prop} (l : i < h.length) (hr : okR r fun d h' => φ d ∧ Stp i (h ++ x) h') (q : ∀ d h1, φ d → Stp i h h1 → Q d (h1 ++ x)) : okR r Q := by
  refine okR_mono hr ?_
  rintro d h' ⟨p, s⟩
  obtain ⟨h1, rfl, s1⟩ := Stp.split l s
  exact q d h1 p s1
theorem last_get {h : Hh} {o : O} {n : Nat} (e : h.length = n) : (h ++ [o])[n]? = some o := by
  rw [← e]
  simp
theorem last_set {h : Hh} {o o' : O} {n : Nat} (e : h.length = n) : (h ++ [o]).set n o' = h ++ [o'] := by
  rw [← e]
  simp
/-! comparisons of what stands by value -/
theorem strOk_eqD {a b : Str} {h : Hh} (ha : PyData.strOk a = true) (hb : PyData.strOk b = true) : eqD (.str a) (.str b) h = some (decide (a = b)) := by
  unfold eqD
  simp only [dataOf, D.data]
  rw [if_pos]
  · congr 1
  · simp [SeqAt.shaped, PyData.canLay0, PyData.depth, ha, hb]
theorem eqD_int {a b : Int} {h : Hh} : eqD (.int a) (.int b) h = some (decide (a = b)) := by
  unfold eqD
  simp only [dataOf, D.data]
  rw [if_pos]
  · congr 1
  · simp [SeqAt.shaped, PyData.canLay0, PyData.depth]
theorem cmp_eqI {i j : Int} {h : Hh} : cmpD .Eq (.int i) (.int j) h = .ok (.bool (decide (i = j))) h := by
  show opt ((eqD (.int i) (.int j) h).map D.bool) h = _
  rw [eqD_int]
  rfl
theorem cmp_neI {i j : Int} {h : Hh} : cmpD .NotEq (.int i) (.int j) h = .ok (.bool (!decide (i = j))) h := by
  show opt ((eqD (.int i) (.int j) h).map fun b => D.bool (!b)) h = _
  rw [eqD_int]
  rfl
theorem cmp_eqS {a b : Str} {h : Hh} : cmpD .Eq (.str a) (.str b) h = .ok (.bool (decide (a = b))) h := rfl
theorem cmp_neS {a b : Str} {h : Hh} : cmpD .NotEq (.str a) (.str b) h = .ok (.bool (!decide (a = b))) h := rfl
theorem flat_strs {ws : List Str} : (ws.map D.str).all D.flat = true := by
  rw [List.all_eq_true]
  intro d m
  obtain ⟨w, _, rfl⟩ := List.mem_map.mp m
  rfl
theorem any_strs {w : Str} {ws : List Str} : ((ws.map D.str).any fun y => D.eqF y (.str w)) = decide (w ∈ ws) := by
  induction ws with
  | nil => rfl
  | cons a ws ih =>
    rw [List.map_cons, List.any_cons, ih]
    simp only [D.eqF, List.mem_cons]
    by_cases e : a = w
    · simp [e]
    · have : ¬ w = a := fun z => e z.symm
      simp [e, this]
theorem cmp_inS {w : Str} {x : D} {ws : List Str} {h : Hh} (e : seqOf h x = some (ws.map D.str)) (hx : ∀ z, x ≠ .str z) : cmpD .In (.str w) x h = .ok (.bool (decide (w ∈ ws))) h := by
  show opt ((inD (.str w) x h).map D.bool) h = _
  have : inD (.str w) x h = some (decide (w ∈ ws)) := by
    unfold inD
    split
    · exact absurd rfl (hx _)
    · rw [e]
      simp only [D.flat, flat_strs, Bool.and_self, if_true, any_strs]
  rw [this]
  rfl
theorem cmp_ninS {w : Str} {x : D} {ws : List Str} {h : Hh} (e : seqOf h x = some (ws.map D.str)) (hx : ∀ z, x ≠ .str z) : cmpD .NotIn (.str w) x h = .ok (.bool (!decide (w ∈ ws))) h := by
  show opt ((inD (.str w) x h).map fun b => D.bool (!b)) h = _
  have : inD (.str w) x h = some (decide (w ∈ ws)) := by
    unfold inD
    split
    · exact absurd rfl (hx _)
    · rw [e]
      simp only [D.flat, flat_strs, Bool.and_self, if_true, any_strs]
  rw [this]
  rfl
theorem run_wE {P : Prg} {n i : Nat} {F : Fn} {ds : List D} {h : Hh} {Q : D → Hh → Prop} (e : P.funs[i]? = some F) (l : ds.length = F.ps.length) : okR (run P (n + 1) i ds h) Q = wF (evSs P (run P n) F.body (ds.map some ++ List.replicate (F.N.length - ds.length) none) h) (fun _ hb => okR (trim F.out h (.ok .none hb)) Q) (fun d hb => okR (trim F.out h (.ok d hb)) Q) := by
  rw [run_succ e l]
  unfold runF
  cases evSs P (run P n) F.body (ds.map some ++ List.replicate (F.N.length - ds.length) none) h with
  | ex e h' =>
    show okR (trim F.out h (.ex e h')) Q = False
    unfold trim guard
    simp only [eq_iff_iff, iff_false]
    intro z
    revert z
    split <;> intro z <;> exact z
  | _ => rfl
theorem tr_same {out : Bool} {d : D} {h : Hh} {Q : D → Hh → Prop} (hd : d.lt 0 = true) : okR (trim out h (.ok d h)) Q = Q d h := by
  rw [trim_same hd]
  rfl
theorem tr_app {out : Bool} {d : D} {h x : Hh} {Q : D → Hh → Prop} (hd : d.lt 0 = true) : okR (trim out h (.ok d (h ++ x))) Q = Q d h := by
  rw [trim_app hd]
  rfl
theorem tr_b {out : Bool} {b : Bool} {h : Hh} {Q : D → Hh → Prop} : okR (trim out h (.ok (.bool b) h)) Q = Q (.bool b) h := tr_same rfl
theorem tr_i {out : Bool} {b : Int} {h : Hh} {Q : D → Hh → Prop} : okR (trim out h (.ok (.int b) h)) Q = Q (.int b) h := tr_same rfl
theorem tr_s {out : Bool} {b : Str} {h : Hh} {Q : D → Hh → Prop} : okR (trim out h (.ok (.str b) h)) Q = Q (.str b) h := tr_same rfl
theorem tr_n {out : Bool} {h : Hh} {Q : D → Hh → Prop} : okR (trim out h (.ok .none h)) Q = Q .none h := tr_same rfl
theorem tr_stp {i : Nat} {out : Bool} {d : D} {h h' x : Hh} {Q : D → Hh → Prop} (s : Stp i h h') (hd : d.lt 0 = true) (q : Q d h') : okR (trim out h (.ok d (h' ++ x))) Q := by
  rw [trim_stp s hd]
  exact q
theorem tr_st {i : Nat} {out : Bool} {d : D} {h h' : Hh} {Q : D → Hh → Prop} (s : Stp i h h') (hd : d.lt 0 = true) (q : Q d h') : okR (trim out h (.ok d h')) Q := by
  have := tr_stp (out := out) (x := []) s hd q
  rwa [List.append_nil] at this
theorem w_isi {b : Bool} {h : Hh} {t : Ty} {d : D} {Q : D → Hh → Prop} (e : isiM t d = some b) : okR (opt ((isiM t d).map D.bool) h) Q = Q (.bool b) h := by
  rw [e]
  rfl
theorem isi_ii {i : Int} : isiM (.b "int") (.int i) = some true := by rfl
theorem isi_bi {i : Int} : isiM (.b "bool") (.int i) = some false := by rfl
theorem isi_ss {i : Str} : isiM (.b "str") (.str i) = some true := by rfl
theorem isi_tt {i : List D} : isiM (.b "tuple") (.tup i) = some true := by rfl
theorem cmp_inT {a b : Str} {h : Hh} : cmpD .In (.str a) (.str b) h = .ok (.bool (inStr a b)) h := rfl
end PY
end
section
set_option Elab.async false
set_option linter.all false
set_option maxRecDepth 100000
namespace PY
open PySem PyProof.Rows
def LET : Str := "abcdefghijklmnopqrstuvwxyz"
def DIG : Str := "0123456789"
/-- a good name -/
structure GN (w : Str) : Prop where
  l0 : 1 ≤ w.length
  l1 : w.length ≤ 8
  hd : ∃ c r, w.cps.toList = c :: r ∧ c ∈ LET.cps.toList
  al : ∀ c ∈ w.cps.toList, c ∈ LET.cps.toList ∨ c ∈ DIG.cps.toList
theorem app_list (a b : Str) : (a ++ b).cps.toList = a.cps.toList ++ b.cps.toList := by
  show (a.cps ++ b.cps).toList = _
  simp
theorem len_list (a : Str) : a.length = a.cps.toList.length := by simp [Str.length]
theorem GN.one {c : Nat} (h : c ∈ LET.cps.toList) : GN ⟨#[c]⟩ := ⟨by rw [len_list]; simp, by rw [len_list]; simp, ⟨c, [], rfl, h⟩, fun d m => by
  have : d = c := by simpa using m
  rw [this]; exact .inl h⟩
theorem GN.more {w : Str} {c : Nat} (g : GN w) (l : w.length < 8) (h : c ∈ LET.cps.toList ∨ c ∈ DIG.cps.toList) : GN (w ++ ⟨#[c]⟩) := by
  obtain ⟨d, r, e, m⟩ := g.hd
  refine ⟨?_, ?_, ⟨d, r ++ [c], by rw [app_list, e]; rfl, m⟩, fun x hx => ?_⟩
  · have := g.l0
    rw [len_list] at this ⊢
    rw [app_list, List.length_append]
    omega
  · rw [len_list] at l ⊢
    rw [app_list, List.length_append]
    show w.cps.toList.length + 1 ≤ 8
    omega
  · rw [app_list] at hx
    rcases List.mem_append.mp hx with z | z
    · exact g.al x z
    · have : x = c := by simpa using z
      rw [this]; exact h
end PY
namespace PY
open PySem PyProof.Rows
def gnB (w : Str) : Bool := decide (1 ≤ w.length) && (decide (w.length ≤ 8) && ((match w.cps.toList with
  | c :: _ => LET.cps.toList.contains c
  | [] => false) && w.cps.toList.all fun c => LET.cps.toList.contains c || DIG.cps.toList.contains c))
theorem GN.of {w : Str} (h : gnB w = true) : GN w := by
  unfold gnB at h
  simp only [Bool.and_eq_true, decide_eq_true_eq, List.all_eq_true, Bool.or_eq_true] at h
  obtain ⟨h1, h2, h3, h4⟩ := h
  refine ⟨h1, h2, ?_, fun c m => (h4 c m).imp List.contains_iff_mem.mp List.contains_iff_mem.mp⟩
  cases e : w.cps.toList with
  | nil => rw [e] at h3; cases h3
  | cons c r =>
    rw [e] at h3
    exact ⟨c, r, rfl, List.contains_iff_mem.mp h3⟩
theorem words_ok : ∀ w ∈ (["slide", "channel", "effect", "click", "pauses", "run", "q0", "q1", "q2", "q3"] : List Str), GN w ∧ w ≠ "pause" := fun w m => by
  have : gnB w = true ∧ w ≠ "pause" := by
    revert w
    decide +kernel
  exact ⟨GN.of this.1, this.2⟩
end PY
namespace PY
open PySem PyProof.Rows
theorem cut8 (z : Str) : (L2.cutS z none (some 8)).cps.toList = z.cps.toList.take 8 := by
  unfold L2.cutS
  rw [HT.sIx_none, show (8 : Int) = ((8 : Nat) : Int) from rfl, HT.sIx_nat]
  rw [len_list]
  simp only [List.drop_zero, Nat.sub_zero]
  rw [List.take_eq_take_iff]
  omega
theorem GN.cut {a w : Str} (ga : GN a) (gw : GN w) : GN (L2.cutS (a ++ w) none (some 8)) := by
  obtain ⟨c, r, e, m⟩ := ga.hd
  have el : (L2.cutS (a ++ w) none (some 8)).cps.toList = (a.cps.toList ++ w.cps.toList).take 8 := by rw [cut8, app_list]
  refine ⟨?_, ?_, ⟨c, (r ++ w.cps.toList).take 7, by rw [el, e]; rfl, m⟩, fun x hx => ?_⟩
  · rw [len_list, el, e]
    simp
  · rw [len_list, el, List.length_take]
    omega
  · rw [el] at hx
    rcases List.mem_append.mp (List.mem_of_mem_take hx) with z | z
    · exact ga.al x z
    · exact gw.al x z
theorem in_let : ∀ c ∈ LET.cps.toList, inStr ⟨#[c]⟩ LET = true := by decide +kernel
theorem in_all : ∀ c ∈ LET.cps.toList ++ DIG.cps.toList, inStr ⟨#[c]⟩ (LET ++ DIG) = true := by decide +kernel
theorem sign_ok : ∀ c ∈ LET.cps.toList ++ DIG.cps.toList, c < 0x110000 := by decide +kernel
theorem GN.sign {w : Str} (g : GN w) {c : Nat} (m : c ∈ w.cps.toList) : inStr ⟨#[c]⟩ (LET ++ DIG) = true := in_all c (List.mem_append.mpr (g.al c m))
theorem GN.ok {w : Str} (g : GN w) : PyData.strOk w = true := by
  unfold PyData.strOk
  rw [Array.all_eq_true]
  intro i hi
  refine decide_eq_true (sign_ok _ (List.mem_append.mpr (g.al _ ?_)))
  rw [Array.mem_toList_iff]
  exact Array.getElem_mem hi
theorem GN.first {w : Str} (g : GN w) {h : Hh} : ∃ c, idxD (.str w) (.int 0) h = .ok (.str ⟨#[c]⟩) h ∧ inStr ⟨#[c]⟩ LET = true := by
  obtain ⟨c, r, e, m⟩ := g.hd
  refine ⟨c, ?_, in_let c m⟩
  show guard (decide (w.length ≤ sizeLine)) (opt ((L2.atI w.cps.toList 0).map fun c => D.str ⟨#[c]⟩) h) = _
  rw [guard_t (decide_eq_true (by have := g.l1; have := sizeLine_eq; omega)), e]
  have : L2.atI (c :: r) 0 = some c := by
    unfold L2.atI L2.ixN
    rw [if_pos (Int.le_refl 0), if_pos (by simp only [List.length_cons]; omega)]
    rfl
  rw [this]
  rfl
theorem bools_map {α : Type} {p : α → Bool} : ∀ {ys : List α}, bools? (ys.map fun a => D.bool (p a)) = some (ys.map p)
  | [] => rfl
  | a :: ys => by
    rw [List.map_cons, bools?, bools_map]
    rfl
theorem bc_allM {α : Type} {p : α → Bool} {ys : List α} {P : Prg} {T : Tab} {m : Bool} {h : Hh} : bcM P T m .all [.list (ys.map fun a => D.bool (p a))] h = .ok (.bool (ys.all p)) h := by
  show (match (lstOf h (.list (ys.map fun a => D.bool (p a)))).bind bools? with
    | some bs => Res.ok (D.bool (bs.all id)) h
    | none => .stuck) = _
  simp only [lstOf, Option.bind_some, bools_map, List.all_map]
  rfl
end PY
end
section
set_option Elab.async false
set_option linter.all false
set_option maxRecDepth 100000
/-! What slides are made of. -/
namespace PY
open PySem
theorem atI_0 {γ : Type} {x : γ} {r : List γ} : L2.atI (x :: r) 0 = some x := by
  unfold L2.atI L2.ixN
  rw [if_pos (Int.le_refl 0), if_pos (by simp only [List.length_cons]; omega)]
  rfl
theorem atI_1 {γ : Type} {x y : γ} {r : List γ} : L2.atI (x :: y :: r) 1 = some y := by
  unfold L2.atI L2.ixN
  rw [if_pos (by decide), if_pos (by simp only [List.length_cons]; omega)]
  rfl
theorem atI_2 {γ : Type} {x y z : γ} {r : List γ} : L2.atI (x :: y :: z :: r) 2 = some z := by
  unfold L2.atI L2.ixN
  rw [if_pos (by decide), if_pos (by simp only [List.length_cons]; omega)]
  rfl
theorem atI_3 {γ : Type} {x y z u : γ} {r : List γ} : L2.atI (x :: y :: z :: u :: r) 3 = some u := by
  unfold L2.atI L2.ixN
  rw [if_pos (by decide), if_pos (by simp only [List.length_cons]; omega)]
  rfl
theorem atI_4 {γ : Type} {x y z u v : γ} {r : List γ} : L2.atI (x :: y :: z :: u :: v :: r) 4 = some v := by
  unfold L2.atI L2.ixN
  rw [if_pos (by decide), if_pos (by simp only [List.length_cons]; omega)]
  rfl
theorem atI_5 {γ : Type} {x y z u v w : γ} {r : List γ} : L2.atI (x :: y :: z :: u :: v :: w :: r) 5 = some w := by
  unfold L2.atI L2.ixN
  rw [if_pos (by decide), if_pos (by simp only [List.length_cons]; omega)]
  rfl
theorem upto_succ {k : Int} {n : Nat} : upto k (n + 1) = .int k :: upto (k + 1) n := by
  unfold upto
  rw [List.range_succ_eq_map, List.map_cons, List.map_map]
  congr 1
  · simp
  · refine List.map_congr_left fun a _ => ?_
    show D.int (k + ((a + 1 : Nat) : Int)) = D.int (k + 1 + (a : Int))
    congr 1
    omega
theorem upto_zero {k : Int} : upto k 0 = [] := rfl
section
variable {α : Type} {enc : α → D} {chk : Hh → Bool} {f : D → En → Hh → Fl} {kn : En → Hh → Prop} {kr : D → Hh → Prop}
/-- a loop over made items -/
theorem forM_map (I : List α → En → Hh → Prop) (hc : ∀ r env h, I r env h → chk h = true) (hs : ∀ a r env h, I (a :: r) env h → wF (f (enc a) env h) (I r) kr) (he : ∀ env h, I [] env h → kn env h) :
    ∀ {ys : List α} {env : En} {h : Hh}, I ys env h → wF (forM chk f (ys.map enc) env h) kn kr
  | [], env, h, i => by
    rw [List.map_nil]
    unfold forM
    rw [hc _ _ _ i]
    exact he _ _ i
  | a :: ys, env, h, i => by
    have w := hs _ _ _ _ i
    rw [List.map_cons]
    unfold forM
    rw [hc _ _ _ i]
    cases e : f (enc a) env h with
    | nx env1 h1 => rw [e] at w; exact forM_map I hc hs he w
    | rt d1 h1 => rw [e] at w; exact w
    | _ => rw [e] at w; exact w.elim
/-- a loop over a range -/
theorem forM_upto (I : Int → Nat → En → Hh → Prop) (hc : ∀ k n env h, I k n env h → chk h = true) (hs : ∀ k n env h, I k (n + 1) env h → wF (f (.int k) env h) (I (k + 1) n) kr) (he : ∀ k env h, I k 0 env h → kn env h) :
    ∀ {n : Nat} {k : Int} {env : En} {h : Hh}, I k n env h → wF (forM chk f (upto k n) env h) kn kr
  | 0, k, env, h, i => by
    rw [upto_zero]
    unfold forM
    rw [hc _ _ _ _ i]
    exact he _ _ _ i
  | n + 1, k, env, h, i => by
    have w := hs _ _ _ _ i
    rw [upto_succ]
    unfold forM
    rw [hc _ _ _ _ i]
    cases e : f (.int k) env h with
    | nx env1 h1 => rw [e] at w; exact forM_upto I hc hs he w
    | rt d1 h1 => rw [e] at w; exact w
    | _ => rw [e] at w; exact w.elim
/-- a loop over numbered made items -/
theorem forM_enum (I : Int → List α → En → Hh → Prop) (hc : ∀ k r env h, I k r env h → chk h = true) (hs : ∀ k a r env h, I k (a :: r) env h → wF (f (.tup [.int k, enc a]) env h) (I (k + 1) r) kr) (he : ∀ k env h, I k [] env h → kn env h) :
    ∀ {ys : List α} {k : Int} {env : En} {h : Hh}, I k ys env h → wF (forM chk f (pairs (upto k (ys.map enc).length) (ys.map enc)) env h) kn kr
  | [], k, env, h, i => by
    show wF (forM chk f [] env h) kn kr
    unfold forM
    rw [hc _ _ _ _ i]
    exact he _ _ _ i
  | a :: ys, k, env, h, i => by
    have w := hs _ _ _ _ _ i
    rw [List.map_cons, List.length_cons, upto_succ, pairs]
    unfold forM
    rw [hc _ _ _ _ i]
    cases e : f (.tup [.int k, enc a]) env h with
    | nx env1 h1 => rw [e] at w; exact forM_enum I hc hs he w
    | rt d1 h1 => rw [e] at w; exact w
    | _ => rw [e] at w; exact w.elim
end
/-- a channel's data -/
def laneD (p : Str × Int) : D := .tup [.str p.1, .int p.2]
/-- an effect -/
structure Part where
  w : Str
  s : Str
  d : Int
  l : Int
  a : Int
  b : Int
def partD (p : Part) : D := .tup [.str p.w, .str p.s, .int p.d, .int p.l, .int p.a, .int p.b]
def Part.click (p : Part) : Bool := decide (p.s = "click")
structure GLane (p : Str × Int) : Prop where
  n : GN p.1
  np : p.1 ≠ "pause"
  v0 : -1000000 ≤ p.2
  v1 : p.2 ≤ 1000000
structure GLanes (ls : List (Str × Int)) : Prop where
  l0 : 1 ≤ ls.length
  l1 : ls.length ≤ 3
  all : ∀ p ∈ ls, GLane p
  nd : (ls.map (·.1)).Nodup
structure GPart (ws : List Str) (p : Part) : Prop where
  w : p.w = "pause" ∨ (p.w ∈ ws ∧ GN p.w)
  s : p.s = "click" ∨ p.s = "with" ∨ p.s = "after"
  d0 : 0 ≤ p.d
  d1 : p.d ≤ 1000000
  l0 : 0 ≤ p.l
  l1 : p.l ≤ 1000000
  a0 : -1000000 ≤ p.a
  a1 : p.a ≤ 1000000
  b0 : -1000000 ≤ p.b
  b1 : p.b ≤ 1000000
  z : p.w = "pause" → p.a = 0 ∧ p.b = 0
structure GParts (ws : List Str) (ps : List Part) : Prop where
  l1 : ps.length ≤ 8
  all : ∀ p ∈ ps, GPart ws p
  c : (ps.filter Part.click).length ≤ 3
theorem GPart.wOk {ws : List Str} {p : Part} (g : GPart ws p) : PyData.strOk p.w = true := by
  rcases g.w with z | ⟨_, z⟩
  · rw [z]; decide +kernel
  · exact z.ok
theorem GPart.sOk {ws : List Str} {p : Part} (g : GPart ws p) : PyData.strOk p.s = true := by
  rcases g.s with z | z | z <;> (rw [z]; decide +kernel)
theorem ok_pause : PyData.strOk "pause" = true := by decide +kernel
theorem ok_click : PyData.strOk "click" = true := by decide +kernel
theorem idx_l0 {p : Str × Int} {h : Hh} : idxD (laneD p) (.int 0) h = .ok (.str p.1) h := by rw [laneD, idx_tup, atI_0, opt_s]
theorem idx_l1 {p : Str × Int} {h : Hh} : idxD (laneD p) (.int 1) h = .ok (.int p.2) h := by rw [laneD, idx_tup, atI_1, opt_s]
theorem idx_p0 {p : Part} {h : Hh} : idxD (partD p) (.int 0) h = .ok (.str p.w) h := by rw [partD, idx_tup, atI_0, opt_s]
theorem idx_p1 {p : Part} {h : Hh} : idxD (partD p) (.int 1) h = .ok (.str p.s) h := by rw [partD, idx_tup, atI_1, opt_s]
theorem idx_p2 {p : Part} {h : Hh} : idxD (partD p) (.int 2) h = .ok (.int p.d) h := by rw [partD, idx_tup, atI_2, opt_s]
theorem idx_p3 {p : Part} {h : Hh} : idxD (partD p) (.int 3) h = .ok (.int p.l) h := by rw [partD, idx_tup, atI_3, opt_s]
theorem idx_p4 {p : Part} {h : Hh} : idxD (partD p) (.int 4) h = .ok (.int p.a) h := by rw [partD, idx_tup, atI_4, opt_s]
theorem idx_p5 {p : Part} {h : Hh} : idxD (partD p) (.int 5) h = .ok (.int p.b) h := by rw [partD, idx_tup, atI_5, opt_s]
theorem a_fld {P : Prg} {T : Tab} {a : Nat} {o : IE} {d : D} {env : En} {h : Hh} {i c p : Nat} {fs : List D} {C : Cl} (e1 : evE P T o env h = .ok (.ref i) h) (e2 : h[i]? = some (.ins c fs)) (e3 : P.clss[c]? = some C) (e4 : C.fields.idxOf? a = some p) (e5 : p = fs.length) :
    asg P T (.fld a o) d env h = .ok env (h.set i (.ins c (fs ++ [d]))) := by
  rw [asg, e1, bind_ok]
  simp only [e2, e3, e4, e5, Nat.lt_irrefl, if_false, if_true]
theorem kept_last {n : Nat} {o o' : O} (l : o'.lt n = true) : ∀ {h : Hh}, kept n (h ++ [o]) (h ++ [o']) = true
  | [] => by simp [kept, l]
  | a :: h => by simp only [List.cons_append, kept, O.beq_refl, kept_last l, Bool.true_or, Bool.and_self]
theorem tr_last {o o' : O} {h : Hh} {Q : D → Hh → Prop} {out : Bool} (l : o'.lt 0 = true) (hl : ∀ n, o'.lt n = true) (q : Q .none (h ++ [o'])) : okR (trim out (h ++ [o]) (.ok .none (h ++ [o']))) Q := by
  have e : (h ++ [o']).take (h ++ [o]).length = h ++ [o'] := by
    rw [List.take_of_length_le]
    simp
  have k := kept_last (o := o) (hl (h ++ [o]).length) (h := h)
  unfold trim
  simp only [k, guard_true, D.lt, e]
  cases out <;> exact q
theorem lanes_lt {n : Nat} : ∀ {ls : List (Str × Int)}, D.lts n (ls.map laneD) = true
  | [] => rfl
  | a :: ls => by rw [List.map_cons, D.lts, lanes_lt]; rfl
theorem parts_lt {n : Nat} : ∀ {ls : List Part}, D.lts n (ls.map partD) = true
  | [] => rfl
  | a :: ls => by rw [List.map_cons, D.lts, parts_lt]; rfl
theorem strs_lt {n : Nat} : ∀ {ls : List Str}, D.lts n (ls.map D.str) = true
  | [] => rfl
  | a :: ls => by rw [List.map_cons, D.lts, strs_lt]; rfl
theorem callM_of {P : Prg} {T : Tab} {f : Nat} {F : Fn} {ds ds' : List D} {ks : List (Str × D)} {h : Hh} (e : P.funs[f]? = some F) (hb : bindA F.ps F.dfl ds ks = some ds') : callM P T f ds ks h = T f ds' h := by
  unfold callM
  rw [e]
  simp only [hb]
theorem makeM_fr {P : Prg} {T : Tab} {k : Nat} {ds fs : List D} {ks : List (Str × D)} {h : Hh} {C : Cl} (e : P.clss[k]? = some C) (fr : C.frozen = true) (c : callM P T C.init (.ref h.length :: ds) ks (h ++ [.ins k []]) = .ok .none (h ++ [.ins k fs])) (l : ∀ n, D.lts n fs = true) : makeM P T k ds ks h = .ok (.inst k fs) h := by
  unfold makeM
  rw [e]
  have t : (h ++ [O.ins k fs]).take h.length = h := by simp
  simp only [c, bind_ok, last_get rfl, fr, l, kept_app, List.length_append, List.length_cons, List.length_nil, beq_self_eq_true, Bool.and_self, guard_true, t]
end PY
end
section
set_option Elab.async false
set_option linter.all false
set_option maxRecDepth 100000
/-! Texts of slides; how long what is shown is. -/
namespace PY
open PySem
theorem tj_nil {a : Str} : Txt.join a [] = Str.empty := rfl
theorem tj_one {a x : Str} : Txt.join a [x] = x := by
  unfold Txt.join
  rw [StrLaws.glued_eq_join]
  rfl
theorem tj_cons {a x y : Str} {r : List Str} : Txt.join a (x :: y :: r) = x ++ a ++ Txt.join a (y :: r) := by
  unfold Txt.join
  rw [StrLaws.glued_eq_join, StrLaws.glued_eq_join]
  rfl
theorem tj_le {a : Str} {B : Nat} : ∀ {xs : List Str}, (∀ t ∈ xs, t.length ≤ B) → (Txt.join a xs).length ≤ xs.length * (B + a.length)
  | [], _ => by rw [tj_nil]; exact Nat.zero_le _
  | [x], h => by
    rw [tj_one]
    have := h x List.mem_cons_self
    simp only [List.length_cons, List.length_nil]
    omega
  | x :: y :: r, h => by
    have h1 := h x List.mem_cons_self
    have ih := tj_le (a := a) (xs := y :: r) fun t m => h t (List.mem_cons_of_mem _ m)
    rw [tj_cons, Str.length_append, Str.length_append]
    rw [List.length_cons, Nat.succ_mul]
    omega
theorem jl_le {a : Str} {B : Nat} : ∀ {xs : List Str}, (∀ t ∈ xs, t.length ≤ B) → joinLen a xs ≤ xs.length * (B + a.length)
  | [], _ => by simp [joinLen]
  | x :: r, h => by
    have h1 := h x List.mem_cons_self
    have ih := jl_le (a := a) (xs := r) fun t m => h t (List.mem_cons_of_mem _ m)
    unfold joinLen at ih ⊢
    simp only [List.map_cons, List.sum_cons, List.length_cons, Nat.succ_mul] at ih ⊢
    omega
theorem strs_map : ∀ {xs : List Str}, strs? (xs.map D.str) = some xs
  | [] => rfl
  | x :: xs => by
    rw [List.map_cons, strs?, strs_map]
    rfl
theorem w_join {m : Bool} {a : Str} {xs : List D} {ys : List Str} {h : Hh} {Q : D → Hh → Prop} (e : strs? xs = some ys) : okR (bmM m .join (.str a) [.list xs] h) Q = (joinLen a ys ≤ 16777216 ∧ Q (.str (Txt.join a ys)) h) := by
  show okR (match (seqOf h (.list xs)).bind strs? with
    | some ys => guard (decide (joinLen a ys ≤ 16777216)) (Res.ok (D.str (Txt.join a ys)) h)
    | none => .stuck) Q = _
  simp only [seqOf, Option.bind_some, e]
  rw [w_guard, decide_eq_true_eq]
  rfl
theorem rc_join {a : Str} {h : Hh} : recv .join (.str a) h = true := rfl
theorem int_len {i : Int} (h0 : -1000000 ≤ i) (h1 : i ≤ 1000000) : (Str.ofString (toString i)).length ≤ 8 := by
  by_cases z : 0 ≤ i
  · exact Nat.le_trans (PyProof.Rows.toString_length_le (k := 7) z (by decide) (by omega)) (by decide)
  · obtain ⟨n, rfl⟩ : ∃ n : Nat, i = Int.negSucc n := ⟨(-i - 1).toNat, by omega⟩
    have e : toString (Int.negSucc n) = "-" ++ toString (((n + 1 : Nat)) : Int) := rfl
    have l := PyProof.Rows.toString_length_le (v := ((n + 1 : Nat) : Int)) (k := 7) (by omega) (by decide) (by omega)
    rw [PyProof.Rows.ofString_length] at l ⊢
    rw [e, String.toList_append, List.length_append]
    have : ("-" : String).toList.length = 1 := rfl
    omega
theorem log_ok {i : Int} (h0 : -1000000 ≤ i) (h1 : i ≤ 1000000) : i.natAbs.log2 < 1920 := by
  by_cases z : i.natAbs = 0
  · rw [z]; decide
  · exact (Nat.log2_lt z).mpr (Nat.lt_of_lt_of_le (m := 2 ^ 20) (by show i.natAbs < 1048576; omega) (Nat.pow_le_pow_right (by decide) (by decide)))
/-- signs that are small enough -/
def Sm (x : Str) : Prop := ∀ c ∈ x.cps.toList, c < 16 ^ 8
theorem Sm.of (s : String) : Sm (Str.ofString s) := fun c m => by
  rw [Str.ofString_eq_toList] at m
  simp only [List.mem_map] at m
  obtain ⟨d, _, rfl⟩ := m
  exact UInt32.toNat_lt _
theorem Sm.app {a b : Str} (ha : Sm a) (hb : Sm b) : Sm (a ++ b) := fun c m => by
  rw [app_list] at m
  rcases List.mem_append.mp m with z | z
  · exact ha c z
  · exact hb c z
theorem Sm.join {a : Str} (ha : Sm a) : ∀ {xs : List Str}, (∀ t ∈ xs, Sm t) → Sm (Txt.join a xs)
  | [], _ => by rw [tj_nil]; intro c m; cases m
  | [x], h => by rw [tj_one]; exact h x List.mem_cons_self
  | x :: y :: r, h => by
    rw [tj_cons]
    exact ((h x List.mem_cons_self).app ha).app (Sm.join ha fun t m => h t (List.mem_cons_of_mem _ m))
theorem GN.sm {w : Str} (g : GN w) : Sm w := fun c m => Nat.lt_trans (sign_ok c (List.mem_append.mpr (g.al c m))) (by decide)
theorem shownAll_map : ∀ {xs : List PyData}, PyData.shownAll xs = xs.map PyData.shown
  | [] => rfl
  | x :: xs => by rw [PyData.shownAll, shownAll_map]; rfl
theorem textFrom_le {B : Nat} : ∀ {ts : List Str} {k : Nat} {acc : Str}, (∀ t ∈ ts, t.length ≤ B) → (textFrom k acc ts).length ≤ acc.length + ts.length * (B + 2)
  | [], k, acc, _ => by show acc.length ≤ _; omega
  | t :: ts, k, acc, h => by
    have h1 := h t List.mem_cons_self
    have ih := textFrom_le (ts := ts) (k := k + 1) (acc := acc ++ (if k > 0 then ", " else "" : String) ++ t) fun t m => h t (List.mem_cons_of_mem _ m)
    show (textFrom (k + 1) (acc ++ (if k > 0 then ", " else "" : String) ++ t) ts).length ≤ _
    have e : (acc ++ (if k > 0 then ", " else "" : String) ++ t).length ≤ acc.length + 2 + t.length := by
      rw [Str.length_append, Str.length_append]
      have : (Str.ofString (if k > 0 then ", " else "")).length ≤ 2 := by split <;> decide
      omega
    simp only [List.length_cons, Nat.succ_mul]
    omega
theorem listText_le {B : Nat} {ts : List Str} (h : ∀ t ∈ ts, t.length ≤ B) : (listText ts).length ≤ 2 + ts.length * (B + 2) := by
  unfold listText
  rw [Str.length_append]
  have := textFrom_le (k := 0) (acc := "[") h
  have e1 : (("[" : String) : Str).length = 1 := rfl
  have e2 : (("]" : String) : Str).length = 1 := rfl
  omega
theorem join_le' {a : Str} {B : Nat} {xs : List Str} (h : ∀ t ∈ xs, t.length ≤ B) : (Str.join a xs).length ≤ xs.length * (B + a.length) := by
  have := tj_le (a := a) h
  unfold Txt.join at this
  rwa [StrLaws.glued_eq_join] at this
theorem tupleText_le {B : Nat} {ts : List Str} (h : ∀ t ∈ ts, t.length ≤ B) : (tupleText ts).length ≤ 3 + ts.length * (B + 2) := by
  unfold tupleText
  rw [Str.length_append, Str.length_append]
  have := join_le' (a := ", ") h
  have e1 : (("(" : String) : Str).length = 1 := rfl
  have e3 : ((", " : String) : Str).length = 2 := rfl
  have e2 : (Str.ofString (if ts.length == 1 then ",)" else ")")).length ≤ 2 := by split <;> decide
  rw [e3] at this
  omega
/-- a word or a number -/
inductive WN where
  | s (x : Str) | i (x : Int)
def siD : WN → D
  | .s x => .str x
  | .i x => .int x
def siT : WN → Str
  | .s x => x
  | .i x => Str.ofString (toString x)
def plist (p : Part) : List WN := [.s p.w, .s p.s, .i p.d, .i p.l, .i p.a, .i p.b]
theorem partD_list {p : Part} : partD p = .tup ((plist p).map siD) := rfl
def lrow (p : Str × Int) : Str := Txt.join " " ["channel", p.1, Str.ofString (toString p.2)]
def prow (p : Part) : Str := Txt.join " " ("effect" :: (plist p).map siT)
def slText (m : Str) (ls : List (Str × Int)) (ps : List Part) : Str := Txt.join "\n" (("slide " ++ m) :: (ls.map lrow ++ ps.map prow))
theorem lrow_eq {p : Str × Int} : lrow p = ("channel " : Str) ++ p.1 ++ " " ++ Str.ofString (toString p.2) := by
  unfold lrow
  rw [tj_cons, tj_cons, tj_one]
  have e : ("channel " : Str) = ("channel" : Str) ++ " " := rfl
  rw [e]
  simp only [Str.append_assoc]
theorem prow_eq {p : Part} : prow p = ("effect " : Str) ++ Txt.join " " ((plist p).map siT) := by
  unfold prow plist
  rw [List.map_cons, tj_cons]
  rfl
theorem GPart.wl {ws : List Str} {p : Part} (g : GPart ws p) : p.w.length ≤ 8 := by
  rcases g.w with z | z
  · rw [z]; decide
  · exact z.2.l1
theorem GPart.sl {ws : List Str} {p : Part} (g : GPart ws p) : p.s.length ≤ 8 := by
  rcases g.s with z | z | z <;> (rw [z]; decide)
theorem GPart.txt {ws : List Str} {p : Part} (g : GPart ws p) : ∀ t ∈ (plist p).map siT, t.length ≤ 8 := fun t m => by
  simp only [plist, List.map_cons, List.map_nil, siT, List.mem_cons, List.not_mem_nil, or_false] at m
  rcases m with rfl | rfl | rfl | rfl | rfl | rfl
  · exact g.wl
  · exact g.sl
  · exact int_len (by have := g.d0; omega) g.d1
  · exact int_len (by have := g.l0; omega) g.l1
  · exact int_len g.a0 g.a1
  · exact int_len g.b0 g.b1
theorem GPart.wsm {ws : List Str} {p : Part} (g : GPart ws p) : Sm p.w := by
  rcases g.w with z | z
  · rw [z]; exact Sm.of _
  · exact z.2.sm
theorem GPart.ssm {ws : List Str} {p : Part} (g : GPart ws p) : Sm p.s := by
  rcases g.s with z | z | z <;> (rw [z]; exact Sm.of _)
theorem GPart.sms {ws : List Str} {p : Part} (g : GPart ws p) : ∀ t ∈ (plist p).map siT, Sm t := fun t m => by
  simp only [plist, List.map_cons, List.map_nil, siT, List.mem_cons, List.not_mem_nil, or_false] at m
  rcases m with rfl | rfl | rfl | rfl | rfl | rfl
  · exact g.wsm
  · exact g.ssm
  all_goals exact Sm.of _
theorem GPart.row {ws : List Str} {p : Part} (g : GPart ws p) : (prow p).length ≤ 63 := by
  refine tj_le (B := 8) (fun t m => ?_)
  rcases List.mem_cons.mp m with rfl | m
  · decide
  · exact g.txt t m
theorem GPart.rsm {ws : List Str} {p : Part} (g : GPart ws p) : Sm (prow p) := by
  refine Sm.join (Sm.of _) (fun t m => ?_)
  rcases List.mem_cons.mp m with rfl | m
  · exact Sm.of _
  · exact g.sms t m
theorem GLane.txt {p : Str × Int} (g : GLane p) : ∀ t ∈ (["channel", p.1, Str.ofString (toString p.2)] : List Str), t.length ≤ 8 := fun t m => by
  simp only [List.mem_cons, List.not_mem_nil, or_false] at m
  rcases m with rfl | rfl | rfl
  · decide
  · exact g.n.l1
  · exact int_len g.v0 g.v1
theorem GLane.row {p : Str × Int} (g : GLane p) : (lrow p).length ≤ 27 := tj_le (B := 8) g.txt
theorem GLane.rsm {p : Str × Int} (g : GLane p) : Sm (lrow p) := by
  refine Sm.join (Sm.of _) (fun t m => ?_)
  simp only [List.mem_cons, List.not_mem_nil, or_false] at m
  rcases m with rfl | rfl | rfl
  · exact Sm.of _
  · exact g.n.sm
  · exact Sm.of _
/-- a good slide -/
structure GS (m : Str) (ls : List (Str × Int)) (ps : List Part) : Prop where
  hm : m = "run" ∨ m = "finish"
  hl : GLanes ls
  hp : GParts (ls.map (·.1)) ps
theorem GS.rows {m : Str} {ls : List (Str × Int)} {ps : List Part} (g : GS m ls ps) : ∀ t ∈ ("slide " ++ m) :: (ls.map lrow ++ ps.map prow), t.length ≤ 63 := fun t q => by
  rcases List.mem_cons.mp q with rfl | q
  · rcases g.hm with z | z <;> (rw [z]; decide)
  · rcases List.mem_append.mp q with q | q
    · obtain ⟨p, mp, rfl⟩ := List.mem_map.mp q
      exact Nat.le_trans (g.hl.all p mp).row (by decide)
    · obtain ⟨p, mp, rfl⟩ := List.mem_map.mp q
      exact (g.hp.all p mp).row
theorem GS.len {m : Str} {ls : List (Str × Int)} {ps : List Part} (g : GS m ls ps) : (("slide " ++ m) :: (ls.map lrow ++ ps.map prow)).length ≤ 12 := by
  have := g.hl.l1
  have := g.hp.l1
  simp only [List.length_cons, List.length_append, List.length_map]
  omega
theorem GS.tlen {m : Str} {ls : List (Str × Int)} {ps : List Part} (g : GS m ls ps) : (slText m ls ps).length ≤ 768 := by
  have := tj_le (a := "\n") g.rows
  have l := g.len
  have e : (("\n" : String) : Str).length = 1 := rfl
  unfold slText
  rw [e] at this
  omega
theorem GS.jl {m : Str} {ls : List (Str × Int)} {ps : List Part} (g : GS m ls ps) : joinLen "\n" (("slide " ++ m) :: (ls.map lrow ++ ps.map prow)) ≤ 16777216 := by
  have := jl_le (a := "\n") g.rows
  have l := g.len
  have e : (("\n" : String) : Str).length = 1 := rfl
  rw [e] at this
  omega
theorem GS.tsm {m : Str} {ls : List (Str × Int)} {ps : List Part} (g : GS m ls ps) : Sm (slText m ls ps) := by
  refine Sm.join (Sm.of _) (fun t q => ?_)
  rcases List.mem_cons.mp q with rfl | q
  · rcases g.hm with z | z <;> (rw [z]; exact (Sm.of _).app (Sm.of _))
  · rcases List.mem_append.mp q with q | q
    · obtain ⟨p, mp, rfl⟩ := List.mem_map.mp q
      exact (g.hl.all p mp).rsm
    · obtain ⟨p, mp, rfl⟩ := List.mem_map.mp q
      exact (g.hp.all p mp).rsm
def rngR (ds : List D) (h : Hh) : Res (List D × (Hh → Bool)) := match ds with
    | [.int j] => guard (inR j) (.ok (upto 0 j.toNat, fun _ => true) h)
    | [.int i, .int j] => guard (inR i && inR j) (.ok (upto i (j - i).toNat, fun _ => true) h)
    | _ => .stuck
theorem w_i_range {P : Prg} {T : Tab} {env : En} {h : Hh} {es : List IE} {Q : List D × (Hh → Bool) → Hh → Prop} : okR (evI P T (.range es) env h) Q = okR (evEs P T es env h) fun ds h1 => okR (rngR ds h1) Q := by
  rw [evI, bindE]
  rfl
theorem rng_1 {j : Int} {h : Hh} : rngR [.int j] h = guard (inR j) (.ok (upto 0 j.toNat, fun _ => true) h) := rfl
theorem rng_2 {i j : Int} {h : Hh} : rngR [.int i, .int j] h = guard (inR i && inR j) (.ok (upto i (j - i).toNat, fun _ => true) h) := rfl
theorem pig {ws : List Str} (l : ws.length ≤ 2) : ∃ q ∈ (["q0", "q1", "q2", "q3"] : List Str), q ∉ ws := by
  by_cases h0 : ("q0" : Str) ∈ ws
  · by_cases h1 : ("q1" : Str) ∈ ws
    · refine ⟨"q2", by simp, fun h2 => ?_⟩
      have d01 : ("q0" : Str) ≠ "q1" := by decide +kernel
      have d02 : ("q0" : Str) ≠ "q2" := by decide +kernel
      have d12 : ("q1" : Str) ≠ "q2" := by decide +kernel
      match ws, l with
      | [], _ => cases h0
      | [a], _ =>
        simp only [List.mem_cons, List.not_mem_nil, or_false] at h0 h1 h2
        exact d01 (h0.trans h1.symm)
      | [a, b], _ =>
        simp only [List.mem_cons, List.not_mem_nil, or_false] at h0 h1 h2
        rcases h0 with h0 | h0 <;> rcases h1 with h1 | h1 <;> rcases h2 with h2 | h2
        · exact d01 (h0.trans h1.symm)
        · exact d01 (h0.trans h1.symm)
        · exact d02 (h0.trans h2.symm)
        · exact d12 (h1.trans h2.symm)
        · exact d12 (h1.trans h2.symm)
        · exact d02 (h0.trans h2.symm)
        · exact d01 (h0.trans h1.symm)
        · exact d01 (h0.trans h1.symm)
    · exact ⟨"q1", by simp, h1⟩
  · exact ⟨"q0", by simp, h0⟩
theorem datas_strs : ∀ {ws : List Str}, D.datas (ws.map D.str) = some (ws.map PyData.str)
  | [] => rfl
  | w :: ws => by
    rw [List.map_cons, D.datas, datas_strs]
    rfl
theorem canAll_strs : ∀ {ws : List Str}, (∀ w ∈ ws, PyData.strOk w = true) → PyData.canLayAll0 (ws.map PyData.str) = true
  | [], _ => rfl
  | w :: ws, g => by
    rw [List.map_cons, PyData.canLayAll0, canAll_strs fun x m => g x (List.mem_cons_of_mem _ m), PyData.canLay0, g w List.mem_cons_self]
    rfl
theorem depAll_strs : ∀ {ws : List Str}, PyData.depthAll (ws.map PyData.str) = 0
  | [] => rfl
  | w :: ws => by
    rw [List.map_cons, PyData.depthAll, depAll_strs]
    rfl
theorem ne_empty {ws : List Str} {h : Hh} {p : Nat} (e : h[p]? = some (.lst (ws.map D.str))) (g : ∀ w ∈ ws, PyData.strOk w = true) : cmpD .NotEq (.ref p) (.list []) h = .ok (.bool (!decide (ws = []))) h := by
  show opt ((eqD (.ref p) (.list []) h).map fun b => D.bool (!b)) h = _
  have : eqD (.ref p) (.list []) h = some (decide (ws = [])) := by
    unfold eqD
    simp only [dataOf, e, datas_strs, Option.map_some, D.data, D.datas]
    rw [if_pos]
    · cases ws with
      | nil => rfl
      | cons w ws => rfl
    · simp [SeqAt.shaped, PyData.canLay0, canAll_strs g, PyData.depth, depAll_strs, PyData.canLayAll0, PyData.depthAll]
  rw [this]
  rfl
theorem atI_neg1 {γ : Type} {xs : List γ} (h : xs ≠ []) : ∃ x, L2.atI xs (-1) = some x ∧ x ∈ xs := by
  have l : 0 < xs.length := List.length_pos_iff.mpr h
  unfold L2.atI L2.ixN
  rw [if_neg (by decide)]
  rw [if_pos (by omega)]
  have e : ((xs.length : Int) + -1).toNat < xs.length := by omega
  exact ⟨xs[((xs.length : Int) + -1).toNat], List.getElem?_eq_getElem e, List.getElem_mem e⟩
theorem tr_lanes {out : Bool} {ls : List (Str × Int)} {h : Hh} {Q : D → Hh → Prop} : okR (trim out h (.ok (.tup (ls.map laneD)) h)) Q = Q (.tup (ls.map laneD)) h := tr_same (by simp only [D.lt]; exact lanes_lt)
theorem tr_parts {out : Bool} {ls : List Part} {h : Hh} {Q : D → Hh → Prop} : okR (trim out h (.ok (.tup (ls.map partD)) h)) Q = Q (.tup (ls.map partD)) h := tr_same (by simp only [D.lt]; exact parts_lt)
theorem tr_tstrs {out : Bool} {ls : List Str} {h : Hh} {Q : D → Hh → Prop} : okR (trim out h (.ok (.tup (ls.map D.str)) h)) Q = Q (.tup (ls.map D.str)) h := tr_same (by simp only [D.lt]; exact strs_lt)
theorem inR_ok {j : Int} (h0 : 0 ≤ j) (h1 : j ≤ 1000000) : PY.inR j = true := by
  have a : (-(2 ^ 62) : Int) ≤ j := by omega
  have b : j < (2 ^ 62 : Int) := by omega
  unfold PY.inR
  rw [decide_eq_true a, decide_eq_true b]
  rfl
end PY
namespace PY
open PySem
theorem slc_str {z : Str} {lo hi : Option Int} {h : Hh} : slcD (.str z) lo hi h = guard (decide (z.length ≤ sizeLine)) (.ok (.str (L2.cutS z lo hi)) h) := rfl
theorem toI {i : Int} : (D.int i).toInt? = some i := rfl
theorem qnames : ([0, 1, 2, 3] : List Int).map (fun a => ("q" : Str) ++ Str.ofString (toString a)) = (["q0", "q1", "q2", "q3"] : List Str) := by decide +kernel
theorem qnamesD : ([0, 1, 2, 3] : List Int).map (fun a => D.str (("q" : Str) ++ Str.ofString (toString a))) = (["q0", "q1", "q2", "q3"] : List Str).map D.str := by
  rw [← qnames, List.map_map]
  rfl
theorem u4 : upto 0 (Int.toNat 4) = ([0, 1, 2, 3] : List Int).map D.int := rfl
theorem log_small {i : Int} (h0 : 0 ≤ i) (h1 : i ≤ 1000000) : i.natAbs.log2 < 1920 := log_ok (by omega) h1
end PY
namespace PY
open PySem
theorem wF_mono {f : Fl} {kn kn' : En → Hh → Prop} {kr : D → Hh → Prop} (x : wF f kn kr) (q : ∀ env h, kn env h → kn' env h) : wF f kn' kr := by
  cases f <;> first | exact q _ _ x | exact x
/-- a step, with what is known behind it -/
theorem w_cut {P : Prg} {T : Tab} {s : IS} {r : List IS} {env : En} {h : Hh} {kn : En → Hh → Prop} {kr : D → Hh → Prop} (J : En → Hh → Prop) (a : wF (evS P T s env h) J kr) (b : ∀ env h, J env h → wF (evSs P T r env h) kn kr) : wF (evSs P T (s :: r) env h) kn kr := by
  rw [wSs]
  exact wF_mono a b
theorem itm_ref {h : Hh} {i : Nat} {xs : List D} (e : h[i]? = some (.lst xs)) : itemsOf h (.ref i) = some (xs, some i) := by
  simp only [itemsOf, e]
theorem chk_ref {h : Hh} {i : Nat} {xs : List D} (e : h[i]? = some (.lst xs)) : chkM xs (some i) h = true := by
  unfold chkM
  simp only [e, beqs_refl]
theorem bin_LI {m : Bool} {xs : List D} {k : Int} {h : Hh} : binD m .Mult (.list xs) (.int k) h = guard (decide (-(2 ^ 63) ≤ k) && decide (k < 2 ^ 63)) (mkL m (List.replicate k.toNat xs).flatten h) := rfl
theorem bc_tupR {P : Prg} {T : Tab} {m : Bool} {h : Hh} {i : Nat} {xs : List D} (e : h[i]? = some (.lst xs)) : bcM P T m .tuple [.ref i] h = .ok (.tup xs) h := by
  show (match rlOf h (.ref i) with
    | some xs => Res.ok (D.tup xs) h
    | none => .stuck) = _
  simp only [rlOf, e]
theorem rc_app {h : Hh} {i : Nat} {xs : List D} (e : h[i]? = some (.lst xs)) : recv .append (.ref i) h = true := by
  simp only [recv, e]
theorem w_app {m : Bool} {h : Hh} {i : Nat} {xs : List D} {x : D} {Q : D → Hh → Prop} (e : h[i]? = some (.lst xs)) : okR (bmM m .append (.ref i) [x] h) Q = (xs.length < sizeLine ∧ Q .none (h.set i (.lst (xs ++ [x])))) := by
  show okR (match h[i]? with
    | some (.lst xs) => guard (decide (xs.length < sizeLine)) (Res.ok D.none (h.set i (.lst (xs ++ [x]))))
    | _ => .stuck) Q = _
  simp only [e, w_guard, decide_eq_true_eq]
  rfl
end PY
end
section
set_option Elab.async false
set_option linter.all false
set_option maxRecDepth 100000
/-! What is shown of values. -/
namespace PY
open PySem
structure Rp (n B : Nat) (p : PyData) : Prop where
  s : p.showable = true
  d : p.depth ≤ n
  h : p.hasDict = false
  l : p.shown.length ≤ B
theorem Rp.mono {n B n' B' : Nat} {d : PyData} (r : Rp n B d) (hn : n ≤ n') (hB : B ≤ B') : Rp n' B' d := ⟨r.s, Nat.le_trans r.d hn, r.h, Nat.le_trans r.l hB⟩
theorem rp_int {i : Int} (h0 : -1000000 ≤ i) (h1 : i ≤ 1000000) : Rp 0 8 (.int i) := ⟨by simp only [PyData.showable]; exact decide_eq_true (log_ok h0 h1), by simp [PyData.depth], by simp [PyData.hasDict], by simp only [PyData.shown]; exact int_len h0 h1⟩
theorem rp_str {x : Str} {L : Nat} (s : Sm x) (l : x.length ≤ L) : Rp 0 (10 * L + 2) (.str x) := ⟨by simp [PyData.showable], by simp [PyData.depth], by simp [PyData.hasDict], by
  simp only [PyData.shown]
  have := StrLaws.reprText_len x s
  omega⟩
theorem rp_bool {b : Bool} : Rp 0 5 (.bool b) := ⟨by simp [PyData.showable], by simp [PyData.depth], by simp [PyData.hasDict], by
  simp only [PyData.shown]
  cases b <;> decide⟩
theorem all_show : ∀ {ds : List PyData}, (∀ d ∈ ds, d.showable = true) → PyData.showableAll ds = true
  | [], _ => by simp [PyData.showableAll]
  | d :: ds, h => by simp [PyData.showableAll, h d List.mem_cons_self, all_show fun x m => h x (List.mem_cons_of_mem _ m)]
theorem all_nodict : ∀ {ds : List PyData}, (∀ d ∈ ds, d.hasDict = false) → PyData.hasDictAll ds = false
  | [], _ => by simp [PyData.hasDictAll]
  | d :: ds, h => by simp [PyData.hasDictAll, h d List.mem_cons_self, all_nodict fun x m => h x (List.mem_cons_of_mem _ m)]
theorem all_depth {n : Nat} : ∀ {ds : List PyData}, (∀ d ∈ ds, d.depth ≤ n) → PyData.depthAll ds ≤ n
  | [], _ => by simp [PyData.depthAll]
  | d :: ds, h => by
    have h1 := h d List.mem_cons_self
    have h2 := all_depth (n := n) fun x m => h x (List.mem_cons_of_mem d m)
    simp only [PyData.depthAll]
    omega
theorem rp_list {n B k : Nat} {ds : List PyData} (r : ∀ d ∈ ds, Rp n B d) (l : ds.length ≤ k) : Rp (n + 1) (2 + k * (B + 2)) (.list ds) := ⟨by simp only [PyData.showable]; exact all_show fun d m => (r d m).s,
  by simp only [PyData.depth]; exact Nat.succ_le_succ (all_depth fun d m => (r d m).d),
  by simp only [PyData.hasDict]; exact all_nodict fun d m => (r d m).h, by
  simp only [PyData.shown, shownAll_map]
  have := listText_le (B := B) (ts := ds.map PyData.shown) fun t m => by
    obtain ⟨d, dm, rfl⟩ := List.mem_map.mp m
    exact (r d dm).l
  rw [List.length_map] at this
  exact Nat.le_trans this (Nat.add_le_add_left (Nat.mul_le_mul_right _ l) _)⟩
theorem rp_tuple {n B k : Nat} {ds : List PyData} (r : ∀ d ∈ ds, Rp n B d) (l : ds.length ≤ k) : Rp (n + 1) (3 + k * (B + 2)) (.tuple ds) := ⟨by simp only [PyData.showable]; exact all_show fun d m => (r d m).s,
  by simp only [PyData.depth]; exact Nat.succ_le_succ (all_depth fun d m => (r d m).d),
  by simp only [PyData.hasDict]; exact all_nodict fun d m => (r d m).h, by
  simp only [PyData.shown, shownAll_map]
  have := tupleText_le (B := B) (ts := ds.map PyData.shown) fun t m => by
    obtain ⟨d, dm, rfl⟩ := List.mem_map.mp m
    exact (r d dm).l
  rw [List.length_map] at this
  exact Nat.le_trans this (Nat.add_le_add_left (Nat.mul_le_mul_right _ l) _)⟩
theorem bc_repr {P : Prg} {T : Tab} {m : Bool} {h : Hh} {xs : List D} {ds : List PyData} {n B : Nat} (e : D.datas xs = some ds) (r : Rp n B (.list ds)) (hn : n ≤ 100) (hB : B ≤ 16777216) : bcM P T m .repr [.list xs] h = .ok (.str (PyData.shown (.list ds))) h := by
  have e2 : dataOf h (.list xs) = some (.list ds) := by
    show D.data (.list xs) = _
    simp only [D.data, e, Option.map_some]
  show (match dataOf h (.list xs) with
    | some p => guard (p.showable && decide (p.depth ≤ 100) && !p.hasDict && decide (p.shown.length ≤ sizeLine)) (Res.ok (D.str p.shown) h)
    | none => .stuck) = _
  simp only [e2]
  have sl := sizeLine_eq
  have r1 := r.d
  have r2 := r.l
  rw [guard_t]
  rw [r.s, r.h, decide_eq_true (by omega), decide_eq_true (by omega)]
  rfl
def laneP (p : Str × Int) : PyData := .tuple [.str p.1, .int p.2]
def partP (p : Part) : PyData := .tuple [.str p.w, .str p.s, .int p.d, .int p.l, .int p.a, .int p.b]
theorem datas_map {α : Type} {enc : α → D} {pe : α → PyData} (e : ∀ a, (enc a).data = some (pe a)) : ∀ {ys : List α}, D.datas (ys.map enc) = some (ys.map pe)
  | [] => by simp [D.datas]
  | y :: ys => by simp [D.datas, e, datas_map e]
theorem lane_data {p : Str × Int} : (laneD p).data = some (laneP p) := by simp [laneD, D.data, D.datas, laneP]
theorem part_data {p : Part} : (partD p).data = some (partP p) := by simp [partD, D.data, D.datas, partP]
theorem GLane.rp {p : Str × Int} (g : GLane p) : Rp 1 200 (laneP p) := (rp_tuple (n := 0) (B := 82) (k := 2) (fun d m => by
  simp only [List.mem_cons, List.not_mem_nil, or_false] at m
  rcases m with rfl | rfl
  · exact rp_str (L := 8) g.n.sm g.n.l1
  · exact (rp_int g.v0 g.v1).mono (by decide) (by decide)) (by simp)).mono (by decide) (by decide)
theorem GPart.rp {ws : List Str} {p : Part} (g : GPart ws p) : Rp 1 600 (partP p) := (rp_tuple (n := 0) (B := 82) (k := 6) (fun d m => by
  simp only [List.mem_cons, List.not_mem_nil, or_false] at m
  rcases m with rfl | rfl | rfl | rfl | rfl | rfl
  · exact rp_str (L := 8) g.wsm g.wl
  · exact rp_str (L := 8) g.ssm g.sl
  · exact (rp_int (by have := g.d0; omega) g.d1).mono (by decide) (by decide)
  · exact (rp_int (by have := g.l0; omega) g.l1).mono (by decide) (by decide)
  · exact (rp_int g.a0 g.a1).mono (by decide) (by decide)
  · exact (rp_int g.b0 g.b1).mono (by decide) (by decide)) (by simp)).mono (by decide) (by decide)
theorem GLanes.rp {ls : List (Str × Int)} (g : GLanes ls) : Rp 2 1000 (.tuple (ls.map laneP)) := (rp_tuple (n := 1) (B := 200) (k := 3) (fun d m => by
  obtain ⟨p, pm, rfl⟩ := List.mem_map.mp m
  exact (g.all p pm).rp) (by rw [List.length_map]; exact g.l1)).mono (by decide) (by decide)
theorem GParts.rp {ws : List Str} {ps : List Part} (g : GParts ws ps) : Rp 2 6000 (.tuple (ps.map partP)) := (rp_tuple (n := 1) (B := 600) (k := 8) (fun d m => by
  obtain ⟨p, pm, rfl⟩ := List.mem_map.mp m
  exact (g.all p pm).rp) (by rw [List.length_map]; exact g.l1)).mono (by decide) (by decide)
theorem GLanes.rpn {ls : List (Str × Int)} (g : GLanes ls) : Rp 1 1000 (.tuple ((ls.map (·.1)).map .str)) := (rp_tuple (n := 0) (B := 82) (k := 3) (fun d m => by
  obtain ⟨w, wm, rfl⟩ := List.mem_map.mp m
  obtain ⟨p, pm, rfl⟩ := List.mem_map.mp wm
  exact rp_str (L := 8) (g.all p pm).n.sm (g.all p pm).n.l1) (by rw [List.length_map, List.length_map]; exact g.l1)).mono (by decide) (by decide)
theorem GS.mrp {m : Str} {ls : List (Str × Int)} {ps : List Part} (g : GS m ls ps) : Rp 0 82 (.str m) := by
  have : m.length ≤ 8 := by rcases g.hm with z | z <;> (rw [z]; decide)
  refine rp_str (L := 8) ?_ this
  rcases g.hm with z | z <;> (rw [z]; exact Sm.of _)
theorem GS.trp {m : Str} {ls : List (Str × Int)} {ps : List Part} (g : GS m ls ps) : Rp 0 7682 (.str (slText m ls ps)) := rp_str (L := 768) g.tsm g.tlen
theorem bin_RL {m : Bool} {h : Hh} {i : Nat} {xs ys : List D} (e : h[i]? = some (.lst xs)) : binD m .Add (.ref i) (.list ys) h = mkL m (xs ++ ys) h := by
  show (match lstOf h (.ref i), lstOf h (.list ys) with
    | some xs, some ys => mkL m (xs ++ ys) h
    | _, _ => .stuck) = _
  simp only [lstOf, e]
theorem lstOf_ref {h : Hh} {i : Nat} {xs : List D} (e : h[i]? = some (.lst xs)) : lstOf h (.ref i) = some xs := by
  simp only [lstOf, e]
theorem itm_part {p : Part} {h : Hh} : itemsOf h (partD p) = some ((plist p).map siD, none) := rfl
theorem eq_nil {h : Hh} : cmpD .Eq (.list []) (.list []) h = .ok (.bool true) h := by
  show opt ((eqD (.list []) (.list []) h).map D.bool) h = _
  have : eqD (.list []) (.list []) h = some true := by
    unfold eqD
    simp only [dataOf, D.data, D.datas, Option.map_some]
    rw [if_pos (by decide +kernel)]
    rfl
  rw [this]
  rfl
end PY
namespace PY
open PySem
theorem far_get {h x : Hh} {o : O} {n : Nat} (e : h.length = n) : (h ++ (x ++ [o]))[n + x.length]? = some o := by
  rw [← List.append_assoc, last_get (by rw [List.length_append, e])]
theorem far_set {h x : Hh} {o o' : O} {n : Nat} (e : h.length = n) : (h ++ (x ++ [o])).set (n + x.length) o' = h ++ (x ++ [o']) := by
  rw [← List.append_assoc, last_set (by rw [List.length_append, e]), List.append_assoc]
theorem fits_pow : (decide ((0 : Int) ≤ 6) && decide ((6 : Int) ≤ 1000000) && decide (Int.natAbs 10 < 2 ^ 64)) = true := by decide +kernel
end PY
namespace PY
open PySem
theorem tr_top {b : Bool} {h : Hh} {Q : D → Hh → Prop} : okR (trim false [] (.ok (.bool b) h)) Q = Q (.bool b) (h.take 0) := rfl
end PY
end
section
set_option Elab.async false
set_option linter.all false
set_option maxRecDepth 100000
/-! Groups and times, in plain Lean. -/
namespace PY
open PySem
/-- n integers from o on -/
def seqI (o : Int) : Nat → List Int
  | 0 => []
  | n + 1 => o :: seqI (o + 1) n
theorem seqI_len {n : Nat} : ∀ {o : Int}, (seqI o n).length = n := by
  induction n with
  | zero => intro o; rfl
  | succ n ih => intro o; simp [seqI, ih]
theorem seqI_snoc {n : Nat} : ∀ {o : Int}, seqI o (n + 1) = seqI o n ++ [o + n] := by
  induction n with
  | zero => intro o; simp [seqI]
  | succ n ih =>
    intro o
    rw [seqI, ih, seqI, List.cons_append]
    congr 3
    omega
theorem upto_seq {n : Nat} : ∀ {o : Int}, upto o n = (seqI o n).map D.int := by
  induction n with
  | zero => intro o; rfl
  | succ n ih => intro o; rw [upto_succ, ih]; rfl
theorem seqI_mem {n : Nat} {x : Int} : ∀ {o : Int}, x ∈ seqI o n ↔ o ≤ x ∧ x < o + n := by
  induction n with
  | zero => intro o; simp [seqI]
  | succ n ih =>
    intro o
    rw [seqI, List.mem_cons, ih]
    omega
/-- the groups' numbers: pieces of a row, numbered on -/
def gidx (o : Int) : List (List Part) → List (List Int)
  | [] => []
  | s :: r => seqI o s.length :: gidx (o + s.length) r
theorem gidx_len : ∀ {S : List (List Part)} {o : Int}, (gidx o S).length = S.length
  | [], _ => rfl
  | s :: r, o => by simp [gidx, gidx_len (S := r)]
theorem gidx_app : ∀ {S : List (List Part)} {o : Int} {T : List (List Part)}, gidx o (S ++ T) = gidx o S ++ gidx (o + S.flatten.length) T
  | [], o, T => by simp [gidx]
  | s :: r, o, T => by
    rw [List.cons_append, gidx, gidx, gidx_app (S := r), List.cons_append]
    rw [List.flatten_cons, List.length_append]
    congr 3
    omega
/-- pieces: each but the first begins at a click, and has no other -/
def Pcs : List (List Part) → Prop
  | [] => False
  | s :: r => (∀ p ∈ s, p.click = false) ∧ ∀ t ∈ r, ∃ a u, t = a :: u ∧ a.click = true ∧ ∀ p ∈ u, p.click = false
/-- begins and ends, as one walks along the row -/
def tmw : List Part → Int → Int → List (Int × Int)
  | [], _, _ => []
  | p :: r, an, far =>
    let b := (if p.s = "after" then (if p.click then 0 else far) else (if p.click then 0 else an)) + p.d
    (b, b + p.l) :: tmw r (if p.s = "after" then (if p.click then 0 else far) else (if p.click then 0 else an)) (max (if p.click then 0 else far) (b + p.l))
/-- the groups' numbers along the row -/
def plw : List Part → Int → List Int
  | [], _ => []
  | p :: r, k => (if p.click then k + 1 else k) :: plw r (if p.click then k + 1 else k)
theorem tmw_len : ∀ {ps : List Part} {an far : Int}, (tmw ps an far).length = ps.length
  | [], _, _ => rfl
  | p :: r, _, _ => by simp [tmw, tmw_len (ps := r)]
theorem plw_len : ∀ {ps : List Part} {k : Int}, (plw ps k).length = ps.length
  | [], _ => rfl
  | p :: r, _ => by simp [plw, plw_len (ps := r)]
theorem plw_none : ∀ {u r : List Part} {k : Int}, (∀ p ∈ u, p.click = false) → plw (u ++ r) k = List.replicate u.length k ++ plw r k
  | [], r, k, _ => rfl
  | p :: u, r, k, h => by
    have hp := h p List.mem_cons_self
    rw [List.cons_append, plw, hp]
    simp only [Bool.false_eq_true, if_false]
    rw [plw_none fun q m => h q (List.mem_cons_of_mem _ m)]
    rfl
/-- the places of a list where k stands, from o on -/
def flt (o : Int) (k : Int) : List Int → List Int
  | [] => []
  | x :: r => if x = k then o :: flt (o + 1) k r else flt (o + 1) k r
theorem flt_rep {k x : Int} {m : Nat} : ∀ {o : Int} {L : List Int}, flt o k (List.replicate m x ++ L) = (if x = k then seqI o m else []) ++ flt (o + m) k L := by
  induction m with
  | zero => intro o L; by_cases h : x = k <;> simp [h, seqI]
  | succ m ih =>
    intro o L
    rw [List.replicate_succ, List.cons_append, flt, ih]
    have e : o + 1 + (m : Int) = o + ((m + 1 : Nat) : Int) := by omega
    rw [e]
    by_cases h : x = k <;> simp [h, seqI]
theorem plw_ge : ∀ {ps : List Part} {k x : Int}, x ∈ plw ps k → k ≤ x
  | p :: r, k, x, m => by
    rw [plw, List.mem_cons] at m
    rcases m with rfl | m
    · split <;> omega
    · have := plw_ge m
      split at this <;> omega
theorem flt_none {k : Int} : ∀ {L : List Int} {o : Int}, (∀ x ∈ L, x ≠ k) → flt o k L = []
  | [], _, _ => rfl
  | x :: L, o, h => by
    rw [flt, if_neg (h x List.mem_cons_self)]
    exact flt_none fun y m => h y (List.mem_cons_of_mem _ m)
/-- the rest of the pieces, each of which begins at a click -/
theorem flt_pcs : ∀ {r : List (List Part)} {o k0 : Int} {j : Nat}, (∀ t ∈ r, ∃ a u, t = a :: u ∧ a.click = true ∧ ∀ p ∈ u, p.click = false) → (h : j < r.length) → flt o (k0 + 1 + j) (plw r.flatten k0) = (gidx o r)[j]'(by rw [gidx_len]; exact h)
  | t :: r, o, k0, j, hr, h => by
    obtain ⟨a, u, rfl, ha, hu⟩ := hr t List.mem_cons_self
    have e : plw ((a :: u) :: r).flatten k0 = List.replicate (u.length + 1) (k0 + 1) ++ plw r.flatten (k0 + 1) := by
      rw [List.flatten_cons, List.cons_append, plw, ha, if_pos rfl, plw_none hu]
      rfl
    rw [e, flt_rep]
    cases j with
    | zero =>
      have : flt (o + ((u.length + 1 : Nat) : Int)) (k0 + 1 + (0 : Nat)) (plw r.flatten (k0 + 1)) = [] := by
        cases r with
        | nil => rfl
        | cons t2 r2 =>
          obtain ⟨b, v, rfl, hb, hv⟩ := hr t2 (by simp)
          refine flt_none fun x m => ?_
          rw [List.flatten_cons, List.cons_append, plw, hb, if_pos rfl, List.mem_cons] at m
          rcases m with rfl | m
          · omega
          · have := plw_ge m
            omega
      rw [this, if_pos (by simp)]
      simp [gidx]
    | succ j =>
      rw [if_neg (by omega)]
      have ih := flt_pcs (r := r) (o := o + ((u.length + 1 : Nat) : Int)) (k0 := k0 + 1) (j := j) (fun t m => hr t (List.mem_cons_of_mem _ m)) (by simpa using h)
      have e3 : k0 + 1 + ((j + 1 : Nat) : Int) = k0 + 1 + 1 + (j : Int) := by omega
      rw [e3, List.nil_append, ih]
      simp [gidx]
theorem flt_all {S : List (List Part)} (hS : Pcs S) {j : Nat} (h : j < S.length) : flt 0 j (plw S.flatten 0) = (gidx 0 S)[j]'(by rw [gidx_len]; exact h) := by
  match S, hS, h with
  | s :: r, hS, h =>
    rw [List.flatten_cons, plw_none hS.1, flt_rep]
    cases j with
    | zero =>
      have : flt (0 + (s.length : Int)) ((0 : Nat) : Int) (plw r.flatten 0) = [] := by
        cases r with
        | nil => rfl
        | cons t2 r2 =>
          obtain ⟨b, v, rfl, hb, hv⟩ := hS.2 t2 (by simp)
          refine flt_none fun x m => ?_
          rw [List.flatten_cons, List.cons_append, plw, hb, if_pos rfl, List.mem_cons] at m
          rcases m with rfl | m
          · simp
          · have := plw_ge m
            simp
            omega
      rw [this, if_pos (by simp)]
      simp [gidx]
    | succ j =>
      rw [if_neg (by omega)]
      have ih := flt_pcs (r := r) (o := 0 + (s.length : Int)) (k0 := 0) (j := j) hS.2 (by simpa using h)
      have e3 : ((j + 1 : Nat) : Int) = 0 + 1 + (j : Int) := by omega
      rw [e3, List.nil_append, ih]
      simp [gidx]
/-- the greatest group's number -/
def plTop (ps : List Part) : Int := (ps.filter Part.click).length
theorem pcs_clicks : ∀ {r : List (List Part)}, (∀ t ∈ r, ∃ a u, t = a :: u ∧ a.click = true ∧ ∀ p ∈ u, p.click = false) → (r.flatten.filter Part.click).length = r.length
  | [], _ => rfl
  | t :: r, h => by
    obtain ⟨a, u, rfl, ha, hu⟩ := h t List.mem_cons_self
    have ih := pcs_clicks (r := r) fun t m => h t (List.mem_cons_of_mem _ m)
    have e : u.filter Part.click = [] := List.filter_eq_nil_iff.mpr fun p m => by rw [hu p m]; decide
    rw [List.flatten_cons, List.filter_append, List.filter_cons, ha, if_pos rfl, e, List.length_append, ih]
    simp only [List.length_cons, List.length_nil]
    omega
theorem Pcs.clicks {S : List (List Part)} (h : Pcs S) : (S.flatten.filter Part.click).length + 1 = S.length := by
  match S, h with
  | s :: r, h =>
    have e : s.filter Part.click = [] := List.filter_eq_nil_iff.mpr fun p m => by rw [h.1 p m]; decide
    rw [List.flatten_cons, List.filter_append, e, List.nil_append, pcs_clicks h.2, List.length_cons]
end PY
namespace PY
open PySem
/-- the pieces of a row -/
def cutP (cur : List Part) : List Part → List (List Part)
  | [] => [cur]
  | p :: r => if p.click then cur :: cutP [p] r else cutP (cur ++ [p]) r
def segs (ps : List Part) : List (List Part) := cutP [] ps
theorem cutP_flat : ∀ {r cur : List Part}, (cutP cur r).flatten = cur ++ r
  | [], cur => by simp [cutP]
  | p :: r, cur => by
    rw [cutP]
    split
    · rw [List.flatten_cons, cutP_flat]; simp
    · rw [cutP_flat]; simp
theorem segs_flat {ps : List Part} : (segs ps).flatten = ps := by
  rw [segs, cutP_flat]; rfl
/-- a piece from the second on -/
def Pc1 (t : List Part) : Prop := ∃ a u, t = a :: u ∧ a.click = true ∧ ∀ p ∈ u, p.click = false
theorem cutP_1 : ∀ {r cur : List Part}, Pc1 cur → ∀ t ∈ cutP cur r, Pc1 t
  | [], cur, h, t, m => by
    have : t = cur := by simpa [cutP] using m
    rw [this]; exact h
  | p :: r, cur, h, t, m => by
    rw [cutP] at m
    split at m
    · rcases List.mem_cons.mp m with rfl | m
      · exact h
      · exact cutP_1 ⟨p, [], rfl, by assumption, fun _ z => by cases z⟩ t m
    · rename_i hp
      refine cutP_1 ?_ t m
      obtain ⟨a, u, rfl, ha, hu⟩ := h
      refine ⟨a, u ++ [p], rfl, ha, fun q qm => ?_⟩
      rcases List.mem_append.mp qm with z | z
      · exact hu q z
      · have : q = p := by simpa using z
        rw [this]; exact Bool.not_eq_true _ ▸ hp
theorem cutP_0 : ∀ {r cur : List Part}, (∀ p ∈ cur, p.click = false) → Pcs (cutP cur r)
  | [], cur, h => ⟨h, fun _ z => by cases z⟩
  | p :: r, cur, h => by
    rw [cutP]
    split
    · exact ⟨h, cutP_1 ⟨p, [], rfl, by assumption, fun _ z => by cases z⟩⟩
    · rename_i hp
      refine cutP_0 fun q qm => ?_
      rcases List.mem_append.mp qm with z | z
      · exact h q z
      · have : q = p := by simpa using z
        rw [this]; exact Bool.not_eq_true _ ▸ hp
theorem segs_pcs {ps : List Part} : Pcs (segs ps) := cutP_0 fun _ z => by cases z
theorem atI_mid {γ : Type} {l r : List γ} {x : γ} {k : Int} (e : k = l.length) : L2.atI (l ++ x :: r) k = some x := by
  subst e
  unfold L2.atI L2.ixN
  rw [if_pos (by omega), if_pos (by simp only [List.length_append, List.length_cons]; omega)]
  show (l ++ x :: r)[((l.length : Int)).toNat]? = some x
  rw [Int.toNat_natCast]
  simp
theorem atI_last {γ : Type} {l : List γ} {x : γ} : L2.atI (l ++ [x]) (-1) = some x := by
  unfold L2.atI L2.ixN
  rw [if_neg (by decide), if_pos (by simp only [List.length_append, List.length_singleton]; omega)]
  show (l ++ [x])[(((l ++ [x]).length : Int) + -1).toNat]? = some x
  have : (((l ++ [x]).length : Int) + -1).toNat = l.length := by simp only [List.length_append, List.length_singleton]; omega
  rw [this]
  simp
def grD (g : List Int) : D := .tup (g.map D.int)
theorem grs_lt {n : Nat} : ∀ {gs : List (List Int)}, D.lts n (gs.map grD) = true
  | [] => rfl
  | g :: gs => by
    have : D.lts n (g.map D.int) = true := by
      induction g with
      | nil => rfl
      | cons a g ih => rw [List.map_cons, D.lts, ih]; rfl
    rw [List.map_cons, D.lts, grs_lt, grD, D.lt, this]
    rfl
def prI (p : Int × Int) : D := .tup [.int p.1, .int p.2]
theorem prs_lt {n : Nat} : ∀ {gs : List (Int × Int)}, D.lts n (gs.map prI) = true
  | [] => rfl
  | g :: gs => by
    rw [List.map_cons, D.lts, prs_lt]
    rfl
theorem tmw_step {p : Part} {r : List Part} {an far : Int} (h : p.click = true → an = 0 ∧ far = 0) : tmw (p :: r) an far = ((if p.s = "after" then far else an) + p.d, (if p.s = "after" then far else an) + p.d + p.l) :: tmw r (if p.s = "after" then far else an) (max far ((if p.s = "after" then far else an) + p.d + p.l)) := by
  rw [tmw]
  cases c : p.click with
  | false => simp
  | true =>
    obtain ⟨rfl, rfl⟩ := h c
    simp
theorem tmw_any {T : List (List Part)} (h : ∀ t ∈ T, Pc1 t) {a f : Int} : tmw T.flatten a f = tmw T.flatten 0 0 := by
  cases T with
  | nil => rfl
  | cons t T =>
    obtain ⟨x, u, rfl, hx, _⟩ := h t List.mem_cons_self
    rw [List.flatten_cons, List.cons_append, tmw, tmw, hx]
    simp
/-- pieces behind some others -/
def PcR : List (List Part) → Prop
  | [] => True
  | s :: r => (∀ p ∈ s.tail, p.click = false) ∧ ∀ t ∈ r, Pc1 t
theorem Pcs.r {S : List (List Part)} (h : Pcs S) : PcR S := by
  match S, h with
  | s :: r, h => exact ⟨fun p m => h.1 p (List.mem_of_mem_tail m), h.2⟩
theorem PcR.next {s : List Part} {r : List (List Part)} (h : PcR (s :: r)) : PcR r := by
  cases r with
  | nil => trivial
  | cons t r =>
    obtain ⟨a, u, rfl, ha, hu⟩ := h.2 t List.mem_cons_self
    exact ⟨hu, fun t m => h.2 t (List.mem_cons_of_mem _ m)⟩
end PY
end
section
set_option Elab.async false
set_option linter.all false
set_option maxRecDepth 100000
/-! More of groups and times. -/
namespace PY
open PySem
def hrs : List Part → Int → Int → Int → List (Int × Int × Int)
  | [], _, _, _ => []
  | p :: r, k, an, far =>
    ((if p.click then k + 1 else k), (if p.s = "after" then (if p.click then 0 else far) else (if p.click then 0 else an)) + p.d, (if p.s = "after" then (if p.click then 0 else far) else (if p.click then 0 else an)) + p.d + p.l) ::
      hrs r (if p.click then k + 1 else k) (if p.s = "after" then (if p.click then 0 else far) else (if p.click then 0 else an)) (max (if p.click then 0 else far) ((if p.s = "after" then (if p.click then 0 else far) else (if p.click then 0 else an)) + p.d + p.l))
def hrD (x : Int × Int × Int) : D := .tup [.int x.1, .int x.2.1, .int x.2.2]
theorem hrs_pl : ∀ {ps : List Part} {k an far : Int}, (hrs ps k an far).map (·.1) = plw ps k
  | [], _, _, _ => rfl
  | p :: r, k, an, far => by rw [hrs, plw, List.map_cons, hrs_pl]
theorem hrs_tm : ∀ {ps : List Part} {k an far : Int}, (hrs ps k an far).map (fun x => (x.2.1, x.2.2)) = tmw ps an far
  | [], _, _, _ => rfl
  | p :: r, k, an, far => by rw [hrs, tmw, List.map_cons, hrs_tm]
theorem hrs_len {ps : List Part} {k an far : Int} : (hrs ps k an far).length = ps.length := by rw [← plw_len (ps := ps) (k := k), ← hrs_pl (an := an) (far := far), List.length_map]
theorem hrs_lt {n : Nat} : ∀ {gs : List (Int × Int × Int)}, D.lts n (gs.map hrD) = true
  | [] => rfl
  | g :: gs => by
    rw [List.map_cons, D.lts, hrs_lt]
    rfl
theorem plw_max : ∀ {ps : List Part} {k : Int}, (plw ps k).foldl max k = k + (ps.filter Part.click).length
  | [], k => by simp [plw]
  | p :: r, k => by
    rw [plw, List.foldl_cons, List.filter_cons]
    cases c : p.click with
    | true =>
      have e : max k (k + 1) = k + 1 := by omega
      simp only [if_true, e]
      rw [plw_max, List.length_cons]
      omega
    | false =>
      have e : max k k = k := by omega
      simp only [Bool.false_eq_true, if_false, e]
      exact plw_max
theorem flt_filter {k : Int} : ∀ {L : List Int} {o : Int}, (seqI o L.length).filter (fun a => decide (L[(a - o).toNat]? = some k)) = flt o k L
  | [], _ => rfl
  | x :: L, o => by
    rw [List.length_cons, seqI, List.filter_cons, flt]
    have e1 : (x :: L)[(o - o).toNat]? = some x := by
      have : (o - o).toNat = 0 := by omega
      rw [this]; rfl
    have e2 : (seqI (o + 1) L.length).filter (fun a => decide ((x :: L)[(a - o).toNat]? = some k)) = flt (o + 1) k L := by
      rw [← flt_filter (L := L) (o := o + 1)]
      refine List.filter_congr fun a am => ?_
      rw [seqI_mem] at am
      have : (a - o).toNat = (a - (o + 1)).toNat + 1 := by omega
      rw [this]
      rfl
    rw [e1, e2]
    by_cases h : x = k <;> simp [h]
theorem seqI_get {n j : Nat} : ∀ {o : Int} (h : j < (seqI o n).length), (seqI o n)[j] = o + j := by
  induction n generalizing j with
  | zero => intro o h; simp [seqI] at h
  | succ n ih =>
    intro o h
    cases j with
    | zero => simp [seqI]
    | succ j =>
      have h2 : j < (seqI (o + 1) n).length := by simpa [seqI] using h
      have := ih h2
      simp only [seqI, List.getElem_cons_succ, this]
      omega
theorem apart_eq {ps : List Part} : (seqI 0 ((ps.filter Part.click).length + 1)).map (fun k => grD (flt 0 k (plw ps 0))) = (gidx 0 (segs ps)).map grD := by
  have c := (segs_pcs (ps := ps)).clicks
  rw [segs_flat] at c
  refine List.ext_getElem ?_ fun j h1 h2 => ?_
  · rw [List.length_map, List.length_map, seqI_len, gidx_len, c]
  · rw [List.getElem_map, List.getElem_map, seqI_get]
    have hj : j < (segs ps).length := by rw [List.length_map, gidx_len] at h2; exact h2
    have := flt_all (segs_pcs (ps := ps)) hj
    rw [segs_flat] at this
    rw [← this]
    simp
theorem gidx_mem : ∀ {S : List (List Part)} {o : Int} {g : List Int}, g ∈ gidx o S → g.length ≤ S.flatten.length ∧ ∀ x ∈ g, o ≤ x ∧ x < o + S.flatten.length
  | s :: r, o, g, m => by
    rw [gidx, List.mem_cons] at m
    rw [List.flatten_cons, List.length_append]
    rcases m with rfl | m
    · refine ⟨by rw [seqI_len]; omega, fun x xm => ?_⟩
      rw [seqI_mem] at xm
      omega
    · obtain ⟨h1, h2⟩ := gidx_mem m
      refine ⟨by omega, fun x xm => ?_⟩
      have := h2 x xm
      omega
theorem gidx_sum : ∀ {S : List (List Part)} {o : Int}, ((gidx o S).map fun g => (g.length : Int)).sum = S.flatten.length
  | [], _ => rfl
  | s :: r, o => by
    rw [gidx, List.map_cons, List.sum_cons, gidx_sum, seqI_len, List.flatten_cons, List.length_append]
    omega
def bareP (p : Part) : Part := ⟨"pause", p.s, p.d, p.l, 0, 0⟩
theorem bare_click {p : Part} : (bareP p).click = p.click := rfl
theorem tmw_bare : ∀ {ps : List Part} {an far : Int}, tmw (ps.map bareP) an far = tmw ps an far
  | [], _, _ => rfl
  | p :: r, an, far => by
    rw [List.map_cons, tmw, tmw, tmw_bare]
    rfl
theorem gidx_cut_bare : ∀ {r cur : List Part} {o : Int}, gidx o (cutP (cur.map bareP) (r.map bareP)) = gidx o (cutP cur r)
  | [], cur, o => by simp [cutP, gidx]
  | p :: r, cur, o => by
    rw [List.map_cons, cutP, cutP, bare_click]
    split
    · rw [gidx, gidx, List.length_map]
      congr 1
      exact gidx_cut_bare (cur := [p])
    · have := gidx_cut_bare (r := r) (cur := cur ++ [p]) (o := o)
      rw [List.map_append] at this
      exact this
theorem gidx_bare {ps : List Part} : gidx 0 (segs (ps.map bareP)) = gidx 0 (segs ps) := gidx_cut_bare (cur := [])
theorem click_bare : ∀ {ps : List Part}, ((ps.map bareP).filter Part.click).length = (ps.filter Part.click).length
  | [] => rfl
  | p :: r => by
    rw [List.map_cons, List.filter_cons, List.filter_cons, bare_click]
    split <;> simp [click_bare]
theorem GParts.bare {ws ws' : List Str} {ps : List Part} (g : GParts ws ps) : GParts ws' (ps.map bareP) := ⟨by rw [List.length_map]; exact g.l1, fun p m => by
  obtain ⟨q, qm, rfl⟩ := List.mem_map.mp m
  have := g.all q qm
  exact ⟨.inl rfl, this.s, this.d0, this.d1, this.l0, this.l1, (show (-1000000 : Int) ≤ 0 by decide), (show (0 : Int) ≤ 1000000 by decide), (show (-1000000 : Int) ≤ 0 by decide), (show (0 : Int) ≤ 1000000 by decide), fun _ => ⟨rfl, rfl⟩⟩, by rw [click_bare]; exact g.c⟩
theorem tmw_le : ∀ {ps : List Part} {an far M : Int}, (∀ p ∈ ps, 0 ≤ p.d ∧ p.d ≤ 1000000 ∧ 0 ≤ p.l ∧ p.l ≤ 1000000) → 0 ≤ an → an ≤ M → 0 ≤ far → far ≤ M → ∀ x ∈ tmw ps an far, 0 ≤ x.1 ∧ x.1 ≤ M + 2000000 * ps.length ∧ 0 ≤ x.2 ∧ x.2 ≤ M + 2000000 * ps.length
  | p :: r, an, far, M, h, a0, a1, f0, f1, x, m => by
    obtain ⟨d0, d1, l0, l1⟩ := h p List.mem_cons_self
    rw [tmw] at m
    have key : ∀ av fv : Int, 0 ≤ av → av ≤ M → 0 ≤ fv → fv ≤ M → x ∈ (av + p.d, av + p.d + p.l) :: tmw r av (max fv (av + p.d + p.l)) → 0 ≤ x.1 ∧ x.1 ≤ M + 2000000 * (p :: r).length ∧ 0 ≤ x.2 ∧ x.2 ≤ M + 2000000 * (p :: r).length := fun av fv v0 v1 g0 g1 m => by
      rw [List.length_cons]
      rcases List.mem_cons.mp m with rfl | m
      · simp only
        omega
      · have := tmw_le (ps := r) (an := av) (far := max fv (av + p.d + p.l)) (M := M + 2000000) (fun q qm => h q (List.mem_cons_of_mem _ qm)) v0 (by omega) (by omega) (by omega) x m
        omega
    refine key _ _ ?_ ?_ ?_ ?_ m
    · split <;> split <;> omega
    · split <;> split <;> omega
    · split <;> omega
    · split <;> omega
theorem int_len9 {i : Int} (h0 : 0 ≤ i) (h1 : i < 1000000000) : (Str.ofString (toString i)).length ≤ 9 := PyProof.Rows.toString_length_le (k := 9) h0 (by decide) (by omega)
theorem rp_int9 {i : Int} (h0 : 0 ≤ i) (h1 : i < 1000000000) : Rp 0 9 (.int i) := ⟨by
    simp only [PyData.showable]
    refine decide_eq_true ?_
    by_cases z : i.natAbs = 0
    · rw [z]; decide
    · exact (Nat.log2_lt z).mpr (Nat.lt_of_lt_of_le (m := 2 ^ 30) (by show i.natAbs < 1073741824; omega) (Nat.pow_le_pow_right (by decide) (by decide))), by simp [PyData.depth], by simp [PyData.hasDict], by simp only [PyData.shown]; exact int_len9 h0 h1⟩
def grP (g : List Int) : PyData := .tuple (g.map .int)
def prP (p : Int × Int) : PyData := .tuple [.int p.1, .int p.2]
theorem datas_ints : ∀ {g : List Int}, D.datas (g.map D.int) = some (g.map PyData.int)
  | [] => rfl
  | a :: g => by rw [List.map_cons, D.datas, datas_ints]; rfl
theorem gr_data {g : List Int} : (grD g).data = some (grP g) := by simp [grD, D.data, datas_ints, grP]
theorem pr_data {g : Int × Int} : (prI g).data = some (prP g) := by simp [prI, D.data, D.datas, prP]
theorem gs_rp {ps : List Part} (l8 : ps.length ≤ 8) : Rp 2 2000 (.tuple ((gidx 0 (segs ps)).map grP)) := by
  have c := (segs_pcs (ps := ps)).clicks
  have := List.length_filter_le Part.click ps
  rw [segs_flat] at c
  refine (rp_tuple (n := 1) (B := 100) (k := 9) (fun d m => ?_) (by rw [List.length_map, gidx_len]; omega)).mono (by decide) (by decide)
  obtain ⟨g, gm, rfl⟩ := List.mem_map.mp m
  obtain ⟨g1, g2⟩ := gidx_mem gm
  rw [segs_flat] at g1 g2
  refine (rp_tuple (n := 0) (B := 9) (k := 8) (fun d m => ?_) (by rw [List.length_map]; omega)).mono (by decide) (by decide)
  obtain ⟨x, xm, rfl⟩ := List.mem_map.mp m
  have := g2 x xm
  exact rp_int9 (by omega) (by omega)
theorem tm_rp {ps : List Part} (l8 : ps.length ≤ 8) (h : ∀ p ∈ ps, 0 ≤ p.d ∧ p.d ≤ 1000000 ∧ 0 ≤ p.l ∧ p.l ≤ 1000000) : Rp 2 2000 (.tuple ((tmw ps 0 0).map prP)) := by
  refine (rp_tuple (n := 1) (B := 100) (k := 8) (fun d m => ?_) (by rw [List.length_map, tmw_len]; omega)).mono (by decide) (by decide)
  obtain ⟨x, xm, rfl⟩ := List.mem_map.mp m
  have := tmw_le h (Int.le_refl 0) (Int.le_refl 0) (Int.le_refl 0) (Int.le_refl 0) x xm
  refine (rp_tuple (n := 0) (B := 9) (k := 2) (fun d m => ?_) (by simp)).mono (by decide) (by decide)
  simp only [List.mem_cons, List.not_mem_nil, or_false] at m
  rcases m with rfl | rfl
  · exact rp_int9 (by omega) (by omega)
  · exact rp_int9 (by omega) (by omega)
theorem ints_map : ∀ {g : List Int}, ints? (g.map D.int) = some g
  | [] => rfl
  | a :: g => by rw [List.map_cons, ints?, ints_map]; rfl
theorem bc_maxL {P : Prg} {T : Tab} {m : Bool} {h : Hh} {i : Int} {xs : List Int} : bcM P T m .max [.list (.int i :: xs.map D.int)] h = .ok (.int (xs.foldl max i)) h := by
  show (match (lstOf h (.list (.int i :: xs.map D.int))).bind ints? with
    | some ns => opt ((maxI ns).map D.int) h
    | none => .stuck) = _
  have : ints? (.int i :: xs.map D.int) = some (i :: xs) := ints_map (g := i :: xs)
  simp only [lstOf, Option.bind_some, this]
  rfl
theorem bc_sumL {P : Prg} {T : Tab} {m : Bool} {h : Hh} {xs : List Int} : bcM P T m .sum [.list (xs.map D.int)] h = .ok (.int xs.sum) h := by
  show (match (lstOf h (.list (xs.map D.int))).bind ints? with
    | some ns => Res.ok (D.int ns.sum) h
    | none => .stuck) = _
  simp only [lstOf, Option.bind_some, ints_map]
theorem atI_at {γ : Type} {xs : List γ} {k : Int} (h0 : 0 ≤ k) (h1 : k < xs.length) : L2.atI xs k = xs[k.toNat]? := by
  unfold L2.atI L2.ixN
  rw [if_pos h0, if_pos h1]
  rfl
theorem slc_tup {xs : List D} {lo hi : Option Int} {h : Hh} : slcD (.tup xs) lo hi h = .ok (.tup (cutD xs lo hi)) h := rfl
theorem cut14 {a b c d e f : D} : cutD [a, b, c, d, e, f] (some 1) (some 4) = [b, c, d] := rfl
theorem cut1n {a b c : D} : cutD [a, b, c] (some 1) none = [b, c] := rfl
end PY
end
section
set_option Elab.async false
set_option linter.all false
set_option maxRecDepth 100000
/-! Rests, in plain Lean. -/
namespace PY
open PySem
/-- the last one of those that are so, else v -/
theorem fold_last {α β : Type} (p : α → Bool) (f : α → β) : ∀ (R : List α) (v : β), R.foldl (fun v r => if p r = true then f r else v) v = (match (R.filter p).getLast? with
    | none => v
    | some r => f r)
  | [], v => rfl
  | r :: R, v => by
    rw [List.foldl_cons, List.filter_cons, fold_last p f R]
    by_cases h : p r = true
    · rw [if_pos h, if_pos h, List.getLast?_cons]
      cases (R.filter p).getLast? <;> rfl
    · rw [if_neg h, if_neg h]
/-- the greatest of some pairs -/
theorem ltP_lex {p q : Int × Int} : ltP p q = true ↔ (p.1 < q.1 ∨ (p.1 = q.1 ∧ p.2 < q.2)) := by
  unfold ltP
  split <;> simp <;> omega
theorem maxP_top : ∀ (ps : List (Int × Int)) (p : Int × Int), (maxP p ps = p ∨ maxP p ps ∈ ps) ∧ ∀ q, q = p ∨ q ∈ ps → ltP (maxP p ps) q = false
  | [], p => ⟨.inl rfl, fun q m => by
    have : q = p := by simpa using m
    rw [this]
    show ltP p p = false
    cases h : ltP p p with
    | false => rfl
    | true => rw [ltP_lex] at h; omega⟩
  | x :: ps, p => by
    have e : maxP p (x :: ps) = maxP (if ltP p x = true then x else p) ps := rfl
    obtain ⟨h1, h2⟩ := maxP_top ps (if ltP p x = true then x else p)
    rw [e]
    refine ⟨?_, fun q m => ?_⟩
    · rcases h1 with h1 | h1
      · rw [h1]
        split
        · exact .inr List.mem_cons_self
        · exact .inl rfl
      · exact .inr (List.mem_cons_of_mem _ h1)
    · have key : ∀ a b : Int × Int, ltP (maxP b ps) b = false → (a = b ∨ ltP a b = true) → ltP (maxP b ps) a = false := fun a b z1 z2 => by
        cases h : ltP (maxP b ps) a with
        | false => rfl
        | true =>
          have n1 : ¬ ltP (maxP b ps) b = true := by rw [z1]; decide
          rw [ltP_lex] at h n1
          rcases z2 with rfl | z2
          · exact absurd h n1
          · rw [ltP_lex] at z2; omega
      by_cases hx : ltP p x = true
      · rw [if_pos hx] at h2 ⊢
        rcases m with rfl | m
        · exact key _ _ (h2 x (.inl rfl)) (.inr hx)
        · rcases List.mem_cons.mp m with rfl | m
          · exact h2 _ (.inl rfl)
          · exact h2 q (.inr m)
      · rw [if_neg hx] at h2 ⊢
        rcases m with rfl | m
        · exact h2 _ (.inl rfl)
        · rcases List.mem_cons.mp m with rfl | m
          · have n1 : ¬ ltP (maxP p ps) p = true := by rw [h2 p (.inl rfl)]; decide
            cases h : ltP (maxP p ps) q with
            | false => rfl
            | true => rw [ltP_lex] at h n1 hx; omega
          · exact h2 q (.inr m)
theorem ltP_lexB : ltP = SrtO.lexB := by
  funext p q
  cases h : SrtO.lexB p q with
  | true =>
    rw [SrtO.lexB_iff] at h
    rw [ltP_lex]; omega
  | false =>
    have : ¬ ltP p q = true := by
      rw [ltP_lex]
      rw [SrtO.lexB_no] at h
      omega
    simpa using this
/-- the last of a sorted row's part is the greatest of the part -/
theorem sort_last {xs : List (Int × Int)} {p : Int × Int → Bool} : ((sortP xs).filter p).getLast? = (match xs.filter p with
    | [] => none
    | y :: ys => some (maxP y ys)) := by
  have pm : ((sortP xs).filter p).Perm (xs.filter p) := (sortP_perm xs).filter p
  have st : ((sortP xs).filter p).Pairwise fun a b => SrtO.lexB b a = false := List.Pairwise.filter p (sortP_srt xs)
  generalize (sortP xs).filter p = l at pm st
  generalize xs.filter p = m at pm
  cases m with
  | nil => rw [List.perm_nil.mp pm]; rfl
  | cons y ys =>
    have ne : l ≠ [] := fun z => by rw [z] at pm; have := pm.length_eq; simp at this
    obtain ⟨h1, h2⟩ := maxP_top ys y
    rw [List.getLast?_eq_some_getLast ne]
    congr 1
    have lm : l.getLast ne ∈ y :: ys := pm.subset (List.getLast_mem ne)
    have a := h2 (l.getLast ne) (List.mem_cons.mp lm)
    have mm : maxP y ys ∈ l := pm.symm.subset (by rcases h1 with h1 | h1 <;> simp [h1])
    have b : SrtO.lexB (l.getLast ne) (maxP y ys) = false ∨ l.getLast ne = maxP y ys := by
      have el := List.dropLast_concat_getLast ne
      rw [← el] at mm st
      rcases List.mem_append.mp mm with z | z
      · left
        exact (List.pairwise_append.mp st).2.2 _ z _ (by simp)
      · right
        have : maxP y ys = l.getLast ne := by simpa using z
        exact this.symm
    rcases b with b | b
    · rw [← ltP_lexB] at b
      have n1 : ¬ ltP (maxP y ys) (l.getLast ne) = true := by rw [a]; decide
      have n2 : ¬ ltP (l.getLast ne) (maxP y ys) = true := by rw [b]; decide
      rw [ltP_lex] at n1 n2
      exact Prod.ext (by omega) (by omega)
    · exact b

/-! ### a slide's rests -/
instance : Inhabited Part := ⟨⟨"", "", 0, 0, 0, 0⟩⟩
/-- the part at a place -/
def ptAt (ps : List Part) (i : Int) : Part := ps.getD i.toNat default
def bgAt (ps : List Part) (i : Int) : Int := ((tmw ps 0 0).getD i.toNat (0, 0)).1
def kyAt (ps : List Part) (i : Int) : Int × Int := (bgAt ps i, i)
/-- what a group leaves of a channel -/
def restG (ps : List Part) (n : Str) (v : Int) (g : List Int) : Int := match g.filter fun i => decide ((ptAt ps i).w = n) with
  | [] => v
  | i :: is => (ptAt ps (maxP (kyAt ps i) (is.map (kyAt ps))).2).b
def restV (ps : List Part) (gs : List (List Int)) (n : Str) (v : Int) : Int := gs.foldl (restG ps n) v
/-- the rests, behind the groups gs -/
def restL (ls : List (Str × Int)) (ps : List Part) (gs : List (List Int)) : List Int := ls.map fun p => restV ps gs p.1 p.2
/-- a value put under a name -/
def setV (w : Str) (b : Int) (ls : List (Str × Int)) : List (Str × Int) := ls.map fun p => if p.1 = w then (p.1, b) else p
theorem setV_names {w : Str} {b : Int} {ls : List (Str × Int)} : (setV w b ls).map (·.1) = ls.map (·.1) := by
  unfold setV
  rw [List.map_map]
  congr 1
  funext p
  show (if p.1 = w then (p.1, b) else p).1 = p.1
  split <;> rfl
/-- one group's rows, done in order -/
def doG (ps : List Part) (ls : List (Str × Int)) (g : List Int) : List (Str × Int) := (sortP (g.map (kyAt ps))).foldl (fun ls r => setV (ptAt ps r.2).w (ptAt ps r.2).b ls) ls
theorem fold_setV {α : Type} (W : α → Str) (B : α → Int) : ∀ (R : List α) (ls : List (Str × Int)), R.foldl (fun ls r => setV (W r) (B r) ls) ls = ls.map fun p => (p.1, R.foldl (fun v r => if decide (W r = p.1) = true then B r else v) p.2)
  | [], ls => by simp
  | r :: R, ls => by
    rw [List.foldl_cons, fold_setV W B R, setV, List.map_map]
    congr 1
    funext p
    simp only [Function.comp_def, List.foldl_cons, decide_eq_true_eq]
    by_cases h : p.1 = W r
    · have h' : W r = p.1 := h.symm
      rw [if_pos h, if_pos h']
    · have h' : ¬ W r = p.1 := fun z => h z.symm
      rw [if_neg h, if_neg h']
theorem doG_rest {ps : List Part} {ls : List (Str × Int)} {g : List Int} : doG ps ls g = ls.map fun p => (p.1, restG ps p.1 p.2 g) := by
  unfold doG
  rw [fold_setV (fun r : Int × Int => (ptAt ps r.2).w) (fun r : Int × Int => (ptAt ps r.2).b)]
  congr 1
  funext p
  congr 1
  rw [fold_last (fun r : Int × Int => decide ((ptAt ps r.2).w = p.1)) (fun r : Int × Int => (ptAt ps r.2).b), sort_last, List.filter_map]
  have : ((fun r : Int × Int => decide ((ptAt ps r.2).w = p.1)) ∘ kyAt ps) = fun i => decide ((ptAt ps i).w = p.1) := rfl
  rw [this, restG]
  cases g.filter fun i => decide ((ptAt ps i).w = p.1) <;> rfl
theorem doG_all {ps : List Part} : ∀ {gs : List (List Int)} {ls : List (Str × Int)}, gs.foldl (doG ps) ls = ls.map fun p => (p.1, restV ps gs p.1 p.2)
  | [], ls => by simp [restV]
  | g :: gs, ls => by
    rw [List.foldl_cons, doG_all, doG_rest, List.map_map]
    rfl
/-- a table of names and values -/
def encT (ls : List (Str × Int)) : List (L2.Key × D) := ls.map fun p => (Sum.inr p.1, D.int p.2)
theorem encT_get {n : Str} : ∀ {ls : List (Str × Int)}, (tget (encT ls) (.inr n)).isSome = decide (n ∈ ls.map (·.1))
  | [] => rfl
  | p :: ls => by
    have ih := encT_get (n := n) (ls := ls)
    rw [List.map_cons]
    by_cases h : p.1 = n
    · have : tget (encT (p :: ls)) (.inr n) = some (.int p.2) := by simp [tget, encT, h]
      rw [this]
      simp [h]
    · have : tget (encT (p :: ls)) (.inr n) = tget (encT ls) (.inr n) := by simp [tget, encT, h]
      rw [this, ih]
      have h' : ¬ n = p.1 := fun z => h z.symm
      simp [h']
theorem encT_put {w : Str} {b : Int} {ls : List (Str × Int)} (m : w ∈ ls.map (·.1)) : tput (encT ls) (.inr w) (.int b) = encT (setV w b ls) := by
  have g : ((encT ls).any fun kv => decide (kv.1 = Sum.inr w)) = true := by
    obtain ⟨p, pm, e⟩ := List.mem_map.mp m
    rw [List.any_eq_true]
    exact ⟨(.inr p.1, .int p.2), List.mem_map_of_mem pm, by simp [e]⟩
  unfold tput
  rw [if_pos g]
  unfold encT setV
  rw [List.map_map, List.map_map]
  congr 1
  funext p
  show (if (Sum.inr p.1 : L2.Key) = Sum.inr w then ((Sum.inr p.1 : L2.Key), D.int b) else ((Sum.inr p.1 : L2.Key), D.int p.2)) = (Sum.inr (if p.1 = w then (p.1, b) else p).1, D.int (if p.1 = w then (p.1, b) else p).2)
  by_cases h : p.1 = w
  · rw [if_pos h, if_pos (by rw [h])]
  · rw [if_neg h, if_neg (fun z => h (Sum.inr.inj z))]
theorem setV_none {w : Str} {b : Int} {ls : List (Str × Int)} (m : w ∉ ls.map (·.1)) : setV w b ls = ls := by
  unfold setV
  conv => rhs; rw [← List.map_id ls]
  refine List.map_congr_left fun p pm => ?_
  have : ¬ p.1 = w := fun z => m (z ▸ List.mem_map_of_mem pm)
  rw [if_neg this]; rfl
theorem encT_at {F : Str × Int → Int} : ∀ {ls : List (Str × Int)}, (ls.map (·.1)).Nodup → ∀ p ∈ ls, tget (encT (ls.map fun p => (p.1, F p))) (.inr p.1) = some (.int (F p))
  | q :: ls, nd, p, pm => by
    have nd' := List.nodup_cons.mp nd
    rcases List.mem_cons.mp pm with rfl | pm
    · simp [tget, encT]
    · have h : ¬ q.1 = p.1 := fun z => nd'.1 (by show q.1 ∈ _; rw [z]; exact List.mem_map_of_mem (f := fun x : Str × Int => x.1) pm)
      have : tget (encT ((q :: ls).map fun p => (p.1, F p))) (.inr p.1) = tget (encT (ls.map fun p => (p.1, F p))) (.inr p.1) := by simp [tget, encT, h]
      rw [this]
      exact encT_at nd'.2 p pm
/-- dict(pairs) of different names -/
theorem encT_make : ∀ {ls acc : List (Str × Int)}, ((acc ++ ls).map (·.1)).Nodup → tmerge (encT acc) (encT ls) = encT (acc ++ ls)
  | [], acc, _ => by rw [List.append_nil]; rfl
  | p :: ls, acc, nd => by
    have g : ((encT acc).any fun kv => decide (kv.1 = Sum.inr p.1)) = false := by
      rw [List.any_eq_false]
      intro kv km
      obtain ⟨q, qm, rfl⟩ := List.mem_map.mp km
      rw [List.map_append, List.nodup_append] at nd
      have := nd.2.2 q.1 (List.mem_map_of_mem qm) p.1 (by simp)
      simp
      exact fun z => this z
    have e : tmerge (encT acc) (encT (p :: ls)) = tmerge (encT (acc ++ [p])) (encT ls) := by
      show tmerge (tput (encT acc) (.inr p.1) (.int p.2)) (encT ls) = _
      have : tput (encT acc) (.inr p.1) (.int p.2) = encT (acc ++ [p]) := by
        unfold tput
        rw [g, if_neg (by decide)]
        simp [encT]
      rw [this]
    rw [e, encT_make (by rw [List.append_assoc]; exact nd), List.append_assoc]
    rfl
theorem kvs_lanes : ∀ {ls : List (Str × Int)}, kvs? (ls.map fun p => D.tup [.str p.1, .int p.2]) = some (encT ls)
  | [] => rfl
  | p :: ls => by
    rw [List.map_cons]
    show (match keyOf (.str p.1), kvs? (ls.map fun p => D.tup [.str p.1, .int p.2]) with
      | some k, some l => some ((k, D.int p.2) :: l)
      | _, _ => none) = _
    rw [kvs_lanes]
    rfl
theorem atI_pt {ps : List Part} {i : Int} (i0 : 0 ≤ i) (i1 : i < ps.length) : L2.atI (ps.map partD) i = some (partD (ptAt ps i)) := by
  have l : i.toNat < ps.length := by omega
  unfold L2.atI L2.ixN
  rw [if_pos i0, if_pos (by rw [List.length_map]; exact i1)]
  show (ps.map partD)[i.toNat]? = _
  rw [List.getElem?_map, List.getElem?_eq_getElem l, ptAt, List.getD_eq_getElem?_getD, List.getElem?_eq_getElem l]
  rfl
theorem atI_tm {ps : List Part} {i : Int} (i0 : 0 ≤ i) (i1 : i < ps.length) : ∃ e, L2.atI ((tmw ps 0 0).map prI) i = some (prI (bgAt ps i, e)) := by
  have l : i.toNat < (tmw ps 0 0).length := by rw [tmw_len]; omega
  refine ⟨((tmw ps 0 0)[i.toNat]).2, ?_⟩
  unfold L2.atI L2.ixN
  rw [if_pos i0, if_pos (by rw [List.length_map, tmw_len]; exact i1)]
  show ((tmw ps 0 0).map prI)[i.toNat]? = _
  rw [List.getElem?_map, List.getElem?_eq_getElem l, bgAt, List.getD_eq_getElem?_getD, List.getElem?_eq_getElem l]
  rfl
theorem atI_hr {ps : List Part} {i : Int} (i0 : 0 ≤ i) (i1 : i < ps.length) : ∃ x, L2.atI ((hrs ps 0 0 0).map hrD) i = some (hrD x) ∧ x.2.1 = bgAt ps i ∧ (plw ps 0)[(i - 0).toNat]? = some x.1 := by
  have hl : (hrs ps 0 0 0).length = ps.length := hrs_len
  have l : i.toNat < (hrs ps 0 0 0).length := by omega
  refine ⟨(hrs ps 0 0 0)[i.toNat], ?_, ?_, ?_⟩
  · unfold L2.atI L2.ixN
    rw [if_pos i0, if_pos (by rw [List.length_map, hl]; exact i1)]
    show ((hrs ps 0 0 0).map hrD)[i.toNat]? = _
    rw [List.getElem?_map, List.getElem?_eq_getElem l]
    rfl
  · rw [bgAt, ← hrs_tm (k := 0), List.getD_eq_getElem?_getD, List.getElem?_map, List.getElem?_eq_getElem l]
    rfl
  · have : (i - 0).toNat = i.toNat := by omega
    rw [this, ← hrs_pl (an := 0) (far := 0), List.getElem?_map, List.getElem?_eq_getElem l]
    rfl
theorem gidx_in : ∀ {S : List (List Part)} {o : Int} {g : List Int}, g ∈ gidx o S → ∀ i ∈ g, o ≤ i ∧ i < o + S.flatten.length
  | s :: r, o, g, m, i, im => by
    rw [gidx] at m
    rw [List.flatten_cons, List.length_append]
    rcases List.mem_cons.mp m with rfl | m
    · rw [seqI_mem] at im
      omega
    · have := gidx_in m i im
      omega
theorem segs_in {ps : List Part} {g : List Int} (m : g ∈ gidx 0 (segs ps)) : ∀ i ∈ g, 0 ≤ i ∧ i < ps.length := fun i im => by
  have := gidx_in m i im
  rw [segs_flat] at this
  omega
theorem gidx_sub : ∀ {S : List (List Part)} {o : Int} {g : List Int}, g ∈ gidx o S → g.length ≤ S.flatten.length
  | s :: r, o, g, m => by
    rw [gidx] at m
    rw [List.flatten_cons, List.length_append]
    rcases List.mem_cons.mp m with rfl | m
    · rw [seqI_len]; omega
    · have := gidx_sub m
      omega
theorem segs_len {ps : List Part} {g : List Int} (m : g ∈ gidx 0 (segs ps)) : g.length ≤ ps.length := by
  have := gidx_sub m
  rwa [segs_flat] at this
theorem cut_upto {xs : List D} {k : Nat} : cutD xs none (some (k : Int)) = xs.take k := by
  unfold cutD
  rw [HT.sIx_none, HT.sIx_nat]
  simp only [Nat.sub_zero, List.drop_zero]
  rw [List.take_eq_take_iff]
  omega
theorem maxP_in {ps : List Part} {i : Int} {is : List Int} : (maxP (kyAt ps i) (is.map (kyAt ps))).2 ∈ i :: is := by
  rcases (maxP_top (is.map (kyAt ps)) (kyAt ps i)).1 with h | h
  · rw [h]; exact List.mem_cons_self
  · obtain ⟨j, jm, e⟩ := List.mem_map.mp h
    rw [← e]
    exact List.mem_cons_of_mem _ jm
theorem ints_lt {n : Nat} : ∀ {ls : List Int}, D.lts n (ls.map D.int) = true
  | [] => rfl
  | a :: ls => by rw [List.map_cons, D.lts, ints_lt]; rfl
/-! pairs' built-ins -/
theorem pairs_of' : ∀ {ps : List (Int × Int)}, pairs? (ps.map pairI) = some ps
  | [] => rfl
  | p :: ps => by
    rw [List.map_cons]
    show (pairs? (ps.map pairI)).map _ = _
    rw [pairs_of']
    rfl
theorem bc_maxP {P : Prg} {T : Tab} {m : Bool} {p : Int × Int} {ps : List (Int × Int)} {h : Hh} : bcM P T m .max [.list (pairI p :: ps.map pairI)] h = .ok (pairI (maxP p ps)) h := by
  have e : pairs? (pairI p :: ps.map pairI) = some (p :: ps) := pairs_of' (ps := p :: ps)
  unfold bcM
  show (match some (pairI p :: ps.map pairI) |>.bind ints? with
    | some ns => opt ((maxI ns).map D.int) h
    | none => match some (pairI p :: ps.map pairI) |>.bind pairs? with
      | some (p :: ps) => .ok (pairI (maxP p ps)) h
      | _ => .stuck) = _
  have e1 : ((some (pairI p :: ps.map pairI)).bind ints?) = none := rfl
  have e2 : ((some (pairI p :: ps.map pairI)).bind pairs?) = some (p :: ps) := e
  rw [e1, e2]
theorem bc_sortP {P : Prg} {T : Tab} {ps : List (Int × Int)} {h : Hh} {Q : D → Hh → Prop} : okR (bcM P T false .sorted [.list (ps.map pairI)] h) Q = ((sortP ps).length ≤ sizeLine ∧ Q (.list ((sortP ps).map pairI)) h) := by
  have e2 : ((some (ps.map pairI)).bind pairs?) = some ps := pairs_of'
  unfold bcM
  show okR (match (some (ps.map pairI)).bind pairs? with
    | some ps => mkL false ((sortP ps).map pairI) h
    | none => .stuck) Q = _
  rw [e2]
  show okR (mkL false _ h) Q = _
  rw [w_mkLf, List.length_map]
theorem bc_dict {P : Prg} {T : Tab} {m : Bool} {ls : List (Str × Int)} {h : Hh} (nd : (ls.map (·.1)).Nodup) : bcM P T m .dict [.list (ls.map fun p => D.tup [.str p.1, .int p.2])] h = .ok (.ref h.length) (h ++ [.dct (encT ls)]) := by
  have e2 : ((some (ls.map fun p => D.tup [.str p.1, .int p.2])).bind kvs?) = some (encT ls) := kvs_lanes
  unfold bcM
  show (match (some (ls.map fun p => D.tup [.str p.1, .int p.2])).bind kvs? with
    | some kvs => Res.ok (D.ref h.length) (h ++ [O.dct (tmerge [] kvs)])
    | none => .stuck) = _
  rw [e2]
  have := encT_make (ls := ls) (acc := []) (by simpa using nd)
  rw [List.nil_append] at this
  show Res.ok (D.ref h.length) (h ++ [O.dct (tmerge (encT []) (encT ls))]) = _
  rw [this]
theorem cmp_inD {w : Str} {i : Nat} {ls : List (Str × Int)} {h : Hh} (e : h[i]? = some (.dct (encT ls))) : cmpD .In (.str w) (.ref i) h = .ok (.bool (decide (w ∈ ls.map (·.1)))) h := by
  show opt ((inD (.str w) (.ref i) h).map D.bool) h = _
  have : inD (.str w) (.ref i) h = some (decide (w ∈ ls.map (·.1))) := by
    unfold inD
    simp only [seqOf, dctOf, e, keyOf, encT_get]
  rw [this]
  rfl
theorem idx_dct {w : Str} {i : Nat} {kvs : List (L2.Key × D)} {h : Hh} (e : h[i]? = some (.dct kvs)) : idxD (.ref i) (.str w) h = opt (tget kvs (.inr w)) h := by
  unfold idxD
  simp only [dctOf, e, keyOf]
theorem a_dct {P : Prg} {T : Tab} {a b : IE} {d : D} {env : En} {h : Hh} {i : Nat} {w : Str} {kvs : List (L2.Key × D)} (e1 : evE P T a env h = .ok (.ref i) h) (e2 : evE P T b env h = .ok (.str w) h) (e3 : h[i]? = some (.dct kvs)) (l : kvs.length < sizeLine) :
    asg P T (.sub a b) d env h = .ok env (h.set i (.dct (tput kvs (.inr w) d))) := by
  rw [asg, e1]
  simp only [bind_ok, e2, dctOf, e3, keyOf, if_pos l]
end PY
end
section
set_option Elab.async false
set_option linter.all false
set_option maxRecDepth 100000
/-! Texts of numbers; texts cut. -/
namespace PY
open PySem
def numT (n : Int) : Str := Str.ofString (toString n)
def dl (m : Nat) : List Nat := (Nat.toDigits 10 m).map Char.toNat
theorem num_nat (m : Nat) : (numT (m : Int)).cps.toList = dl m := PySem.W.KIN.signs_num m
theorem num_neg (m : Nat) : (numT (Int.negSucc m)).cps.toList = 45 :: dl (m + 1) := by
  have e : toString (Int.negSucc m) = "-" ++ toString (((m + 1 : Nat)) : Int) := rfl
  have h := num_nat (m + 1)
  unfold numT at h ⊢
  rw [Str.ofString_eq_toList] at h ⊢
  rw [e, String.toList_append, List.map_append]
  simp only at h ⊢
  rw [h]
  rfl
theorem dl_lt {m : Nat} (h : m < 10) : dl m = [(Nat.digitChar m).toNat] := by
  unfold dl
  rw [Nat.toDigits_of_lt_base h]
  rfl
theorem dl_ge {m : Nat} (h : 10 ≤ m) : dl m = dl (m / 10) ++ dl (m % 10) := by
  unfold dl
  have t : Nat.toDigits 10 (m / 10) ++ Nat.toDigits 10 (m % 10) = Nat.toDigits 10 (10 * (m / 10) + m % 10) := Nat.toDigits_append_toDigits (by decide) (by omega) (Nat.mod_lt m (by decide))
  rw [Nat.div_add_mod] at t
  rw [← t, List.map_append]
theorem digit_ok : ∀ d : Nat, d < 10 → 48 ≤ (Nat.digitChar d).toNat ∧ (Nat.digitChar d).toNat ≤ 57 ∧ ((Nat.digitChar d).toNat = 48 → d = 0) := by decide
theorem dl_all (m : Nat) : ∀ c ∈ dl m, 48 ≤ c ∧ c ≤ 57 := by
  induction m using Nat.strongRecOn with
  | _ m ih =>
    intro c hc
    by_cases h : m < 10
    · rw [dl_lt h] at hc
      have := digit_ok m h
      have e : c = (Nat.digitChar m).toNat := by simpa using hc
      omega
    · rw [dl_ge (by omega)] at hc
      rcases List.mem_append.mp hc with z | z
      · exact ih _ (by omega) c z
      · exact ih _ (by omega) c z
theorem dl_head (m : Nat) : ∃ c r, dl m = c :: r ∧ (c = 48 → m = 0 ∧ r = []) := by
  induction m using Nat.strongRecOn with
  | _ m ih =>
    by_cases h : m < 10
    · refine ⟨_, _, dl_lt h, fun e => ⟨(digit_ok m h).2.2 e, rfl⟩⟩
    · obtain ⟨c, r, e, q⟩ := ih (m / 10) (by omega)
      refine ⟨c, r ++ dl (m % 10), by rw [dl_ge (by omega), e]; rfl, fun z => ?_⟩
      have := (q z).1
      omega
theorem dig_mem {c : Nat} (h0 : 48 ≤ c) (h1 : c ≤ 57) : c ∈ DIG.cps.toList := by
  have : c = 48 ∨ c = 49 ∨ c = 50 ∨ c = 51 ∨ c = 52 ∨ c = 53 ∨ c = 54 ∨ c = 55 ∨ c = 56 ∨ c = 57 := by omega
  rcases this with rfl | rfl | rfl | rfl | rfl | rfl | rfl | rfl | rfl | rfl <;> decide +kernel
theorem in_dig : ∀ c ∈ DIG.cps.toList, inStr ⟨#[c]⟩ DIG = true := by decide +kernel
theorem num_free {n : Int} {c : Nat} (hc : c < 45 ∨ 57 < c) : c ∉ (numT n).cps.toList := fun m => by
  cases n with
  | ofNat k =>
    have m' : c ∈ (numT ((k : Nat) : Int)).cps.toList := m
    rw [num_nat] at m'
    have := dl_all k c m'
    omega
  | negSucc k =>
    rw [num_neg] at m
    rcases List.mem_cons.mp m with z | z
    · omega
    · have := dl_all (k + 1) c z
      omega
theorem gn_free {w : Str} (g : GN w) {c : Nat} (hc : c < 48) : c ∉ w.cps.toList := fun m => by
  have : ∀ d ∈ LET.cps.toList ++ DIG.cps.toList, 48 ≤ d := by decide +kernel
  have := this c (List.mem_append.mpr (g.al c m))
  omega
theorem cut1 (z : Str) : (L2.cutS z none (some 1)).cps.toList = z.cps.toList.take 1 := by
  unfold L2.cutS
  rw [HT.sIx_none, show (1 : Int) = ((1 : Nat) : Int) from rfl, HT.sIx_nat]
  rw [len_list]
  simp only [List.drop_zero, Nat.sub_zero]
  rw [List.take_eq_take_iff]
  omega
theorem cutr (z : Str) : (L2.cutS z (some 1) none).cps.toList = z.cps.toList.drop 1 := by
  unfold L2.cutS
  rw [HT.sIx_none, show (1 : Int) = ((1 : Nat) : Int) from rfl, HT.sIx_nat]
  rw [len_list]
  simp only
  rw [List.take_of_length_le (by rw [List.length_drop]; omega)]
  cases z.cps.toList with
  | nil => rfl
  | cons a r =>
    congr 1
    try simp
theorem str_ext {a b : Str} (h : a.cps.toList = b.cps.toList) : a = b := Str.ext' (Array.toList_inj.mp h)
theorem w_split {m : Bool} {a b : Str} {h : Hh} {Q : D → Hh → Prop} {ws : List Str} (e : Txt.split a b = ws) : okR (bmM m .split (.str a) [.str b] h) Q = ((b.length != 0 && decide (a.length + 2 ≤ sizeLine)) = true ∧ okR (mkL m (ws.map D.str) h) Q) := by
  show okR (guard (b.length != 0 && decide (a.length + 2 ≤ sizeLine)) (mkL m ((Txt.split a b).map D.str) h)) Q = _
  rw [w_guard, e]
theorem rc_split {a : Str} {h : Hh} : recv .split (.str a) h = true := rfl
theorem cmp_isI {i : Int} {h : Hh} : cmpD .Is (.int i) .none h = .ok (.bool false) h := rfl
theorem split_sp {parts : List Str} (hne : parts ≠ []) (hp : ∀ p ∈ parts, 32 ∉ p.cps.toList) : Txt.split (Txt.join " " parts) " " = parts := TL.split_join (y := " ") (s := 32) (S := []) (by decide +kernel) (by decide +kernel) hne hp
theorem split_nl {parts : List Str} (hne : parts ≠ []) (hp : ∀ p ∈ parts, 10 ∉ p.cps.toList) : Txt.split (Txt.join "\n" parts) "\n" = parts := TL.split_join (y := "\n") (s := 10) (S := []) (by decide +kernel) (by decide +kernel) hne hp
end PY
namespace PY
open PySem
theorem tj_free {a : Str} {c : Nat} (ha : c ∉ a.cps.toList) : ∀ {xs : List Str}, (∀ t ∈ xs, c ∉ t.cps.toList) → c ∉ (Txt.join a xs).cps.toList
  | [], _ => by rw [tj_nil]; intro m; cases m
  | [x], h => by rw [tj_one]; exact h x List.mem_cons_self
  | x :: y :: r, h => by
    rw [tj_cons, app_list, app_list]
    intro m
    rcases List.mem_append.mp m with m | m
    · rcases List.mem_append.mp m with m | m
      · exact h x List.mem_cons_self m
      · exact ha m
    · exact tj_free ha (xs := y :: r) (fun t q => h t (List.mem_cons_of_mem _ q)) m
theorem cut_take {xs : List D} {n : Nat} (h : n ≤ xs.length) : cutD xs none (some (n : Int)) = xs.take n := by
  unfold cutD
  rw [HT.sIx_none, HT.sIx_nat]
  simp only [List.drop_zero, Nat.sub_zero]
  rw [List.take_eq_take_iff]
  omega
theorem cut_drop {xs : List D} {n : Nat} (h : n ≤ xs.length) : cutD xs (some (n : Int)) none = xs.drop n := by
  unfold cutD
  rw [HT.sIx_none, HT.sIx_nat]
  rw [List.take_of_length_le]
  · congr 1
    omega
  · rw [List.length_drop]
    omega
section
variable {P : Prg} {T : Tab} {env : En} {h : Hh} {kn : En → Hh → Prop} {kr : D → Hh → Prop}
theorem w_try {b : List IS} : wF (evS P T (.try b) env h) kn kr = wF (evSs P T b env h) kn kr := by rw [evS]
theorem w_star {i r : Nat} {x : D} {xs : List D} {Q : En → Hh → Prop} (l : xs.length < 16384) (hi : i < env.length) (hr : r < env.length) : okR (asg P T (.star [.n i] r) (.list (x :: xs)) env h) Q = Q ((env.set i (some x)).set r (some (.list xs))) h := by
  rw [asg]
  simp only [rlOf, l, hi, hr, if_true]
  rfl
theorem e_mkv {i k : Nat} {es : List IE} {ks : List (Str × IE)} (e : getV env i = some (.cls k)) : evE P T (.mkv i es ks) env h = (evEs P T es env h).bind fun ds h1 => (evKs P T ks env h1).bind fun kd h2 => makeM P T k ds kd h2 := by
  rw [evE]
  simp only [e]
theorem e_cl {k : Nat} : evE P T (.cl k) env h = .ok (.cls k) h := by rw [evE]
theorem w_meth {a : Nat} {o : IE} {es : List IE} {ks : List (Str × IE)} {Q : D → Hh → Prop} : okR (evE P T (.meth a o es ks) env h) Q = okR (evE P T o env h) fun d h1 => okR (opt (methK P a d h1) h1) fun bf h1 => okR (evEs P T es env h1) fun ds h2 => okR (evKs P T ks env h2) fun kd h3 => okR (callM P T bf.2 (d :: ds) kd h3) Q := by
  rw [evE, bindE]
  congr 1
  funext d h1
  cases e : methK P a d h1 with
  | none => rfl
  | some bf =>
    show okR ((evEs P T es env h1).bind _) Q = okR (evEs P T es env h1) _
    rw [bindE]
    congr 1
    funext ds h2
    rw [bindE]
theorem bc_reprS {m : Bool} {x : Str} {n B : Nat} (r : Rp n B (.str x)) (hn : n ≤ 100) (hB : B ≤ 16777216) : bcM P T m .repr [.str x] h = .ok (.str (PyData.shown (.str x))) h := by
  show (match dataOf h (.str x) with
    | some p => guard (p.showable && decide (p.depth ≤ 100) && !p.hasDict && decide (p.shown.length ≤ sizeLine)) (Res.ok (D.str p.shown) h)
    | none => .stuck) = _
  simp only [dataOf, D.data]
  have sl := sizeLine_eq
  have r1 := r.d
  have r2 := r.l
  rw [guard_t]
  rw [r.s, r.h, decide_eq_true (by omega), decide_eq_true (by omega)]
  rfl
theorem bc_listT {m : Bool} {xs : List D} : bcM P T m .list [.tup xs] h = mkL m xs h := rfl
theorem slc_list {xs : List D} {lo hi : Option Int} : slcD (.list xs) lo hi h = .ok (.list (cutD xs lo hi)) h := rfl
end
end PY
end
section
set_option Elab.async false
set_option linter.all false
set_option maxRecDepth 100000
set_option maxHeartbeats 0
namespace L12
open PySem PY
/-- is_whole -/
def fn0 : Fn := { cl := none, name := "is_whole", qual := "is_whole", ps := ["value"], dfl := [], N := ["value"], out := false, body :=
      [(.ret (.and [(.isi (.v 0) (.b "int")), (.un .Not (.isi (.v 0) (.b "bool")))]))] }
/-- is_integer -/
def fn1 : Fn := { cl := none, name := "is_integer", qual := "is_integer", ps := ["value", "least", "greatest"], dfl := [], N := ["value", "least", "greatest"], out := false, body :=
      [(.ret (.and [(.call 0 [(.v 0)] []), (.chain .LtE .LtE (.v 1) (.v 0) (.v 2))]))] }
/-- is_number -/
def fn2 : Fn := { cl := none, name := "is_number", qual := "is_number", ps := ["value"], dfl := [], N := ["value"], out := false, body :=
      [(.ret (.call 1 [(.v 0), (.bin false .Sub (.c (.int 0)) (.g 4)), (.g 4)] []))] }
/-- is_name -/
def fn3 : Fn := { cl := none, name := "is_name", qual := "is_name", ps := ["value"], dfl := [], N := ["value", "sign"], out := false, body :=
      [(.ifs (.or [(.un .Not (.isi (.v 0) (.b "str"))), (.un .Not (.chain .LtE .LtE (.c (.int 1)) (.bc false .len [(.v 0)]) (.g 7)))])
      [(.ret (.c (.bool false)))]
      []),
      (.ret (.and [(.cmp .In (.idx (.v 0) (.c (.int 0))) (.g 5)), (.bc false .all [(.comp false [("sign", 1)] (.n 1) (.e (.v 0)) [] (.cmp .In (.v 1) (.bin false .Add (.g 5) (.g 6))))])]))] }
/-- is_word -/
def fn4 : Fn := { cl := none, name := "is_word", qual := "is_word", ps := ["value", "words"], dfl := [], N := ["value", "words"], out := false, body :=
      [(.ret (.and [(.isi (.v 0) (.b "str")), (.cmp .In (.v 0) (.v 1))]))] }
/-- is_tuple_of -/
def fn5 : Fn := { cl := none, name := "is_tuple_of", qual := "is_tuple_of", ps := ["value", "many"], dfl := [], N := ["value", "many"], out := false, body :=
      [(.ret (.and [(.isi (.v 0) (.b "tuple")), (.cmp .Eq (.bc false .len [(.v 0)]) (.v 1))]))] }
/-- written -/
def fn6 : Fn := { cl := none, name := "written", qual := "written", ps := ["text"], dfl := [], N := ["text", "sign"], out := false, body := List.replicate 2 .never }
/-- signed -/
def fn7 : Fn := { cl := none, name := "signed", qual := "signed", ps := ["text"], dfl := [], N := ["text", "value"], out := false, body := List.replicate 3 .never }
/-- is_channel -/
def fn8 : Fn := { cl := none, name := "is_channel", qual := "is_channel", ps := ["value", "names"], dfl := [], N := ["value", "names"], out := false, body :=
      [(.ret (.and [(.call 5 [(.v 0), (.c (.int 2))] []), (.call 3 [(.idx (.v 0) (.c (.int 0)))] []), (.cmp .NotIn (.idx (.v 0) (.c (.int 0))) (.lst false [(.g 9), (.star (.v 1))])), (.call 2 [(.idx (.v 0) (.c (.int 1)))] [])]))] }
/-- is_effect -/
def fn9 : Fn := { cl := none, name := "is_effect", qual := "is_effect", ps := ["value", "names"], dfl := [], N := ["value", "names", "channel", "start", "delay", "last", "first", "target"], out := false, body :=
      [(.ifs (.un .Not (.call 5 [(.v 0), (.g 12)] []))
      [(.ret (.c (.bool false)))]
      []),
      (.set (.tup [(.n 2), (.n 3), (.n 4), (.n 5), (.n 6), (.n 7)]) (.v 0)),
      (.ifs (.or [(.un .Not (.call 4 [(.v 2), (.lst false [(.g 9), (.star (.v 1))])] [])), (.un .Not (.call 4 [(.v 3), (.g 11)] []))])
      [(.ret (.c (.bool false)))]
      []),
      (.ifs (.or [(.un .Not (.call 1 [(.v 4), (.c (.int 0)), (.g 3)] [])), (.un .Not (.call 1 [(.v 5), (.c (.int 0)), (.g 3)] []))])
      [(.ret (.c (.bool false)))]
      []),
      (.ifs (.or [(.un .Not (.call 2 [(.v 6)] [])), (.un .Not (.call 2 [(.v 7)] []))])
      [(.ret (.c (.bool false)))]
      []),
      (.ret (.or [(.cmp .NotEq (.v 2) (.g 9)), (.and [(.cmp .Eq (.v 6) (.c (.int 0))), (.cmp .Eq (.v 7) (.c (.int 0)))])]))] }
/-- check_channels -/
def fn10 : Fn := { cl := none, name := "check_channels", qual := "check_channels", ps := ["value"], dfl := [], N := ["value", "names", "index", "channel"], out := false, body :=
      [(.ifs (.or [(.un .Not (.isi (.v 0) (.b "tuple"))), (.cmp .Eq (.bc false .len [(.v 0)]) (.c (.int 0)))])
      [.never]
      []),
      (.set (.n 1) (.lst true [])),
      (.for (.tup [(.n 2), (.n 3)]) (.enum (.v 0))
      [(.ifs (.or [(.cmp .Eq (.v 2) (.g 0)), (.un .Not (.call 8 [(.v 3), (.v 1)] []))])
      [.never]
      []),
      (.expr (.bm false .append (.v 1) [(.idx (.v 3) (.c (.int 0)))]))])] }
/-- check_effects -/
def fn11 : Fn := { cl := none, name := "check_effects", qual := "check_effects", ps := ["value", "names"], dfl := [], N := ["value", "names", "clicks", "index", "effect"], out := false, body :=
      [(.ifs (.un .Not (.isi (.v 0) (.b "tuple")))
      [.never]
      []),
      (.set (.n 2) (.c (.int 0))),
      (.for (.tup [(.n 3), (.n 4)]) (.enum (.v 0))
      [(.ifs (.or [(.cmp .Eq (.v 3) (.g 1)), (.un .Not (.call 9 [(.v 4), (.v 1)] []))])
      [.never]
      []),
      (.aug 2 .Add (.ite (.cmp .Eq (.idx (.v 4) (.c (.int 1))) (.c (.str "click"))) (.c (.int 1)) (.c (.int 0)))),
      (.ifs (.cmp .Gt (.v 2) (.g 2))
      [.never]
      [])])] }
/-- row_of -/
def fn12 : Fn := { cl := none, name := "row_of", qual := "row_of", ps := ["effect"], dfl := [], N := ["effect", "part"], out := false, body :=
      [(.ret (.bm false .join (.c (.str " ")) [(.lst false [(.c (.str "effect")), (.star (.comp false [("part", 1)] (.n 1) (.e (.v 0)) [] (.bc false .str [(.v 1)])))])]))] }
/-- channel_of -/
def fn13 : Fn := { cl := none, name := "channel_of", qual := "channel_of", ps := ["row"], dfl := [], N := ["row", "words"], out := false, body := List.replicate 2 .never }
/-- effect_of -/
def fn14 : Fn := { cl := none, name := "effect_of", qual := "effect_of", ps := ["row"], dfl := [], N := ["row", "words", "word"], out := false, body := List.replicate 3 .never }
/-- check_slide -/
def fn15 : Fn := { cl := none, name := "check_slide", qual := "check_slide", ps := ["value"], dfl := [], N := ["value"], out := false, body :=
      [(.ifs (.un .Not (.isi (.v 0) (.c 0)))
      [.never]
      [])] }
/-- groups_of -/
def fn16 : Fn := { cl := none, name := "groups_of", qual := "groups_of", ps := ["slide"], dfl := [], N := ["slide", "found", "index", "effect", "group"], out := false, body :=
      [(.set (.n 1) (.lst true [(.lst true [])])),
      (.for (.tup [(.n 2), (.n 3)]) (.enum (.attr 4 (.v 0)))
      [(.ifs (.cmp .Eq (.idx (.v 3) (.c (.int 1))) (.c (.str "click")))
      [(.expr (.bm false .append (.v 1) [(.lst true [])]))]
      []),
      (.expr (.bm false .append (.idx (.v 1) (.un .USub (.c (.int 1)))) [(.v 2)]))]),
      (.ret (.bc false .tuple [(.comp false [("group", 4)] (.n 4) (.e (.v 1)) [] (.bc false .tuple [(.v 4)]))]))] }
/-- timing_of -/
def fn17 : Fn := { cl := none, name := "timing_of", qual := "timing_of", ps := ["slide"], dfl := [], N := ["slide", "found", "group", "anchor", "last_end", "place", "index", "begin", "channel", "start", "delay", "last", "first", "target"], out := false, body :=
      [(.set (.n 1) (.lst true [])),
      (.for (.n 2) (.e (.call 16 [(.v 0)] []))
      [(.set (.tup [(.n 3), (.n 4)]) (.tup [(.c (.int 0)), (.c (.int 0))])),
      (.for (.tup [(.n 5), (.n 6)]) (.enum (.v 2))
      [(.set (.tup [(.n 8), (.n 9), (.n 10), (.n 11), (.n 12), (.n 13)]) (.idx (.attr 4 (.v 0)) (.v 6))),
      (.ifs (.and [(.cmp .Eq (.v 9) (.c (.str "after"))), (.cmp .Gt (.v 5) (.c (.int 0)))])
      [(.set (.n 3) (.v 4))]
      []),
      (.set (.n 7) (.bin false .Add (.v 3) (.v 10))),
      (.expr (.bm false .append (.v 1) [(.tup [(.v 7), (.bin false .Add (.v 7) (.v 11))])])),
      (.set (.n 4) (.bc false .max [(.v 4), (.bin false .Add (.v 7) (.v 11))]))])]),
      (.ret (.bc false .tuple [(.v 1)]))] }
/-- latest -/
def fn18 : Fn := { cl := none, name := "latest", qual := "latest", ps := ["indexes", "timing"], dfl := [], N := ["indexes", "timing", "index"], out := false, body :=
      [(.ret (.idx (.bc false .max [(.comp false [("index", 2)] (.n 2) (.e (.v 0)) [] (.tup [(.idx (.idx (.v 1) (.v 2)) (.c (.int 0))), (.v 2)]))]) (.c (.int 1))))] }
/-- rest_of -/
def fn19 : Fn := { cl := none, name := "rest_of", qual := "rest_of", ps := ["slide", "number"], dfl := [], N := ["slide", "number", "timing", "found", "name", "value", "group", "own", "index"], out := false, body :=
      [(.set (.n 2) (.call 17 [(.v 0)] [])),
      (.set (.n 3) (.lst true [])),
      (.for (.tup [(.n 4), (.n 5)]) (.e (.attr 5 (.v 0)))
      [(.for (.n 6) (.e (.slc (.call 16 [(.v 0)] []) none (some (.bin false .Add (.v 1) (.c (.int 1))))))
      [(.set (.n 7) (.comp false [("index", 8)] (.n 8) (.e (.v 6)) [(.cmp .Eq (.idx (.idx (.attr 4 (.v 0)) (.v 8)) (.c (.int 0))) (.v 4))] (.v 8))),
      (.ifs (.cmp .Gt (.bc false .len [(.v 7)]) (.c (.int 0)))
      [(.set (.n 5) (.idx (.idx (.attr 4 (.v 0)) (.call 18 [(.v 7), (.v 2)] [])) (.c (.int 5))))]
      [])]),
      (.expr (.bm false .append (.v 3) [(.v 5)]))]),
      (.ret (.bc false .tuple [(.v 3)]))] }
/-- rest -/
def fn20 : Fn := { cl := none, name := "rest", qual := "rest", ps := ["slide", "number"], dfl := [], N := ["slide", "number"], out := false, body :=
      [(.expr (.call 15 [(.v 0)] [])),
      (.ifs (.un .Not (.call 1 [(.v 1), (.c (.int 0)), (.attr 6 (.v 0))] []))
      [.never]
      []),
      (.ret (.call 19 [(.v 0), (.v 1)] []))] }
/-- _law_sack -/
def fn21 : Fn := { cl := none, name := "_law_sack", qual := "_law_sack", ps := ["_law_script", "_law_turn"], dfl := [], N := ["_law_script", "_law_turn", "_law_state", "_law_each", "_law_own"], out := true, body :=
      [(.set (.n 2) (.bin false .Add (.c (.int 40961)) (.bin false .Mult (.c (.int 10007)) (.v 1)))),
      (.for (.n 3) (.e (.slc (.v 0) none (some (.c (.int 7)))))
      [(.set (.n 2) (.bin false .Mod (.bc false .int [(.bin false .Add (.bin false .Add (.bin false .Mult (.v 2) (.c (.int 50069))) (.bin false .Mult (.bc false .int [(.v 3)]) (.c (.int 5)))) (.v 1))]) (.c (.int 2147483323))))]),
      (.set (.n 4) (.ite (.cmp .Lt (.v 1) (.bc false .len [(.v 0)])) (.bc false .int [(.idx (.v 0) (.v 1))]) (.v 2))),
      (.ret (.lst true [(.ite (.or [(.cmp .Lt (.v 4) (.c (.int 0))), (.cmp .GtE (.v 4) (.bin false .Pow (.c (.int 10)) (.c (.int 18))))]) (.bc false .abs [(.v 4)]) (.c (.int 0))), (.bin false .Mod (.bc false .int [(.bin false .Add (.v 2) (.bin false .Mult (.v 4) (.c (.int 3))))]) (.c (.int 2147483323))), (.c (.int 0))]))] }
/-- _law_grab -/
def fn22 : Fn := { cl := none, name := "_law_grab", qual := "_law_grab", ps := ["_law_sack_here", "_law_many_here"], dfl := [], N := ["_law_sack_here", "_law_many_here", "_law_digit"], out := false, body :=
      [(.set (.sub (.v 0) (.c (.int 2))) (.bin false .Add (.idx (.v 0) (.c (.int 2))) (.c (.int 1)))),
      (.ifs (.cmp .Gt (.idx (.v 0) (.c (.int 0))) (.c (.int 0)))
      [(.set (.tup [(.sub (.v 0) (.c (.int 0))), (.n 2)]) (.bc false .divmod [(.idx (.v 0) (.c (.int 0))), (.v 1)])),
      (.ret (.v 2))]
      []),
      (.set (.sub (.v 0) (.c (.int 1))) (.bin false .Mod (.bc false .int [(.bin false .Add (.bin false .Add (.bin false .Mult (.idx (.v 0) (.c (.int 1))) (.c (.int 48271))) (.bin false .Mult (.c (.int 7919)) (.idx (.v 0) (.c (.int 2))))) (.c (.int 1)))]) (.c (.int 2147483323)))),
      (.ret (.bin false .Mod (.bc false .int [(.bin false .FloorDiv (.idx (.v 0) (.c (.int 1))) (.c (.int 64)))]) (.v 1)))] }
/-- _law_pick -/
def fn23 : Fn := { cl := none, name := "_law_pick", qual := "_law_pick", ps := ["_law_sack_here", "_law_things"], dfl := [], N := ["_law_sack_here", "_law_things"], out := false, body :=
      [(.ret (.idx (.v 1) (.call 22 [(.v 0), (.bc false .len [(.v 1)])] [])))] }
/-- _law_titles -/
def fn24 : Fn := { cl := none, name := "_law_titles", qual := "_law_titles", ps := ["_law_sack_here", "_law_many_here"], dfl := [], N := ["_law_sack_here", "_law_many_here", "_law_letters", "_law_found", "_law_turn", "_law_word", "_law_more", "_law_way", "_law_spare", "_law_k", "_law_each"], out := false, body :=
      [(.set (.tup [(.n 2), (.n 3)]) (.tup [(.c (.str "abcdefghijklmnopqrstuvwxyz")), (.lst true [])])),
      (.for (.n 4) (.range [(.v 1)])
      [(.set (.n 5) (.call 23 [(.v 0), (.v 2)] [])),
      (.for (.n 6) (.range [(.call 23 [(.v 0), (.lst false [(.c (.int 0)), (.c (.int 0)), (.c (.int 2)), (.c (.int 7))])] [])])
      [(.set (.n 5) (.bin false .Add (.v 5) (.call 23 [(.v 0), (.bin false .Add (.v 2) (.c (.str "0123456789")))] [])))]),
      (.set (.n 7) (.call 22 [(.v 0), (.c (.int 5))] [])),
      (.ifs (.cmp .Eq (.v 7) (.c (.int 0)))
      [(.set (.n 5) (.call 23 [(.v 0), (.lst false [(.c (.str "slide")), (.c (.str "channel")), (.c (.str "effect")), (.c (.str "click")), (.c (.str "pauses")), (.c (.str "run"))])] []))]
      []),
      (.ifs (.and [(.cmp .Eq (.v 7) (.c (.int 1))), (.cmp .NotEq (.v 3) (.lst false []))])
      [(.set (.n 5) (.slc (.bin false .Add (.idx (.v 3) (.un .USub (.c (.int 1)))) (.v 5)) none (some (.c (.int 8)))))]
      []),
      (.set (.n 8) (.bin false .Add (.lst false [(.v 5)]) (.comp false [("_law_k", 9)] (.n 9) (.range [(.c (.int 4))]) [] (.bin false .Add (.c (.str "q")) (.bc false .str [(.v 9)]))))),
      (.expr (.bm false .append (.v 3) [(.idx (.comp false [("_law_each", 10)] (.n 10) (.e (.v 8)) [(.and [(.cmp .NotIn (.v 10) (.v 3)), (.cmp .NotEq (.v 10) (.c (.str "pause")))])] (.v 10)) (.c (.int 0)))]))]),
      (.ret (.frz (.v 3)))] }
/-- _law_value -/
def fn25 : Fn := { cl := none, name := "_law_value", qual := "_law_value", ps := ["_law_sack_here", "_law_top"], dfl := [], N := ["_law_sack_here", "_law_top"], out := false, body :=
      [(.ret (.call 23 [(.v 0), (.lst false [(.c (.int 0)), (.bin false .Sub (.call 22 [(.v 0), (.bin false .Add (.bin false .Mult (.c (.int 2)) (.v 1)) (.c (.int 1)))] []) (.v 1)), (.bc false .min [(.v 1), (.call 22 [(.v 0), (.c (.int 9))] [])]), (.v 1), (.bin false .Sub (.c (.int 0)) (.v 1))])] []))] }
/-- _law_span -/
def fn26 : Fn := { cl := none, name := "_law_span", qual := "_law_span", ps := ["_law_sack_here", "_law_top"], dfl := [], N := ["_law_sack_here", "_law_top"], out := false, body :=
      [(.ret (.call 23 [(.v 0), (.lst false [(.c (.int 0)), (.bc false .min [(.v 1), (.call 22 [(.v 0), (.c (.int 7))] [])]), (.call 22 [(.v 0), (.bin false .Add (.v 1) (.c (.int 1)))] []), (.v 1), (.c (.int 0))])] []))] }
/-- _law_lanes -/
def fn27 : Fn := { cl := none, name := "_law_lanes", qual := "_law_lanes", ps := ["_law_sack_here", "_law_most", "_law_top"], dfl := [], N := ["_law_sack_here", "_law_most", "_law_top", "_law_word"], out := false, body :=
      [(.ret (.bc false .tuple [(.comp false [("_law_word", 3)] (.n 3) (.e (.call 24 [(.v 0), (.bin false .Add (.c (.int 1)) (.call 22 [(.v 0), (.v 1)] []))] [])) [] (.tup [(.v 3), (.call 25 [(.v 0), (.v 2)] [])]))]))] }
/-- _law_parts -/
def fn28 : Fn := { cl := none, name := "_law_parts", qual := "_law_parts", ps := ["_law_sack_here", "_law_lanes_here", "_law_most", "_law_span_here", "_law_top"], dfl := [], N := ["_law_sack_here", "_law_lanes_here", "_law_most", "_law_span_here", "_law_top", "_law_found", "_law_turn", "_law_start", "_law_word", "_law_values", "_law_part", "_law_lane"], out := false, body :=
      [(.set (.n 5) (.lst true [])),
      (.for (.n 6) (.range [(.call 22 [(.v 0), (.bin false .Add (.v 2) (.c (.int 1)))] [])])
      [(.set (.n 7) (.call 23 [(.v 0), (.lst false [(.c (.str "click")), (.c (.str "with")), (.c (.str "after"))])] [])),
      (.ifs (.and [(.cmp .Eq (.v 7) (.c (.str "click"))), (.cmp .Eq (.bc false .len [(.comp false [("_law_part", 10)] (.n 10) (.e (.v 5)) [(.cmp .Eq (.idx (.v 10) (.c (.int 1))) (.c (.str "click")))] (.v 10))]) (.c (.int 3)))])
      [(.set (.n 7) (.c (.str "with")))]
      []),
      (.set (.tup [(.n 8), (.n 9)]) (.tup [(.call 23 [(.v 0), (.bin false .Add (.bin false .Mult (.comp false [("_law_lane", 11)] (.n 11) (.e (.v 1)) [] (.idx (.v 11) (.c (.int 0)))) (.c (.int 2))) (.lst false [(.c (.str "pause"))]))] []), (.tup [(.c (.int 0)), (.c (.int 0))])])),
      (.ifs (.cmp .NotEq (.v 8) (.c (.str "pause")))
      [(.set (.n 9) (.tup [(.call 25 [(.v 0), (.v 4)] []), (.call 25 [(.v 0), (.v 4)] [])]))]
      []),
      (.expr (.bm false .append (.v 5) [(.bin false .Add (.tup [(.v 8), (.v 7), (.call 26 [(.v 0), (.v 3)] []), (.call 26 [(.v 0), (.v 3)] [])]) (.v 9))]))]),
      (.ret (.bc false .tuple [(.v 5)]))] }
/-- _law_drawn -/
def fn29 : Fn := { cl := none, name := "_law_drawn", qual := "_law_drawn", ps := ["_law_sack_here", "_law_most", "_law_span_here", "_law_top"], dfl := [], N := ["_law_sack_here", "_law_most", "_law_span_here", "_law_top", "_law_lanes_here"], out := false, body :=
      [(.set (.n 4) (.call 27 [(.v 0), (.c (.int 3)), (.v 3)] [])),
      (.ret (.tup [(.call 23 [(.v 0), (.lst false [(.c (.str "run")), (.c (.str "finish"))])] []), (.v 4), (.call 28 [(.v 0), (.v 4), (.v 1), (.v 2), (.v 3)] [])]))] }
/-- _law_made -/
def fn30 : Fn := { cl := none, name := "_law_made", qual := "_law_made", ps := ["_law_piece"], dfl := [], N := ["_law_piece"], out := false, body :=
      [(.ret (.make 0 [(.idx (.v 0) (.c (.int 0))), (.idx (.v 0) (.c (.int 1))), (.idx (.v 0) (.c (.int 2)))] []))] }
/-- _law_hours -/
def fn31 : Fn := { cl := none, name := "_law_hours", qual := "_law_hours", ps := ["_law_parts_here"], dfl := [], N := ["_law_parts_here", "_law_found", "_law_place", "_law_anchor", "_law_far", "_law_part", "_law_begin"], out := false, body :=
      [(.set (.tup [(.n 1), (.n 2), (.n 3), (.n 4)]) (.tup [(.lst true []), (.c (.int 0)), (.c (.int 0)), (.c (.int 0))])),
      (.for (.n 5) (.e (.v 0))
      [(.ifs (.cmp .Eq (.idx (.v 5) (.c (.int 1))) (.c (.str "click")))
      [(.set (.tup [(.n 2), (.n 3), (.n 4)]) (.tup [(.bin false .Add (.v 2) (.c (.int 1))), (.c (.int 0)), (.c (.int 0))]))]
      []),
      (.ifs (.cmp .Eq (.idx (.v 5) (.c (.int 1))) (.c (.str "after")))
      [(.set (.n 3) (.v 4))]
      []),
      (.set (.n 6) (.bin false .Add (.v 3) (.idx (.v 5) (.c (.int 2))))),
      (.set (.n 4) (.bc false .max [(.v 4), (.bin false .Add (.v 6) (.idx (.v 5) (.c (.int 3))))])),
      (.expr (.bm false .append (.v 1) [(.tup [(.v 2), (.v 6), (.bin false .Add (.v 6) (.idx (.v 5) (.c (.int 3))))])]))]),
      (.ret (.frz (.v 1)))] }
/-- _law_behind -/
def fn32 : Fn := { cl := none, name := "_law_behind", qual := "_law_behind", ps := ["_law_piece", "_law_place"], dfl := [], N := ["_law_piece", "_law_place", "_law_hours_here", "_law_values", "_law_k", "_law_rows", "_law_begin", "_law_at", "_law_lane"], out := false, body :=
      [(.set (.tup [(.n 2), (.n 3)]) (.tup [(.call 31 [(.idx (.v 0) (.c (.int 2)))] []), (.bc true .dict [(.bc false .list [(.idx (.v 0) (.c (.int 1)))])])])),
      (.for (.n 4) (.range [(.bin false .Add (.v 1) (.c (.int 1)))])
      [(.set (.n 5) (.bc false .sorted [(.comp false [("_law_at", 7)] (.n 7) (.range [(.bc false .len [(.v 2)])]) [(.cmp .Eq (.idx (.idx (.v 2) (.v 7)) (.c (.int 0))) (.v 4))] (.tup [(.idx (.idx (.v 2) (.v 7)) (.c (.int 1))), (.v 7)]))])),
      (.for (.tup [(.n 6), (.n 7)]) (.e (.v 5))
      [(.ifs (.cmp .In (.idx (.idx (.idx (.v 0) (.c (.int 2))) (.v 7)) (.c (.int 0))) (.v 3))
      [(.set (.sub (.v 3) (.idx (.idx (.idx (.v 0) (.c (.int 2))) (.v 7)) (.c (.int 0)))) (.idx (.idx (.idx (.v 0) (.c (.int 2))) (.v 7)) (.c (.int 5))))]
      [])])]),
      (.ret (.bc false .tuple [(.comp false [("_law_lane", 8)] (.n 8) (.e (.idx (.v 0) (.c (.int 1)))) [] (.idx (.v 3) (.idx (.v 8) (.c (.int 0)))))]))] }
/-- _law_many -/
def fn33 : Fn := { cl := none, name := "_law_many", qual := "_law_many", ps := ["_law_piece"], dfl := [], N := ["_law_piece", "_law_part"], out := false, body :=
      [(.ret (.bc false .len [(.comp false [("_law_part", 1)] (.n 1) (.e (.idx (.v 0) (.c (.int 2)))) [(.cmp .Eq (.idx (.v 1) (.c (.int 1))) (.c (.str "click")))] (.v 1))]))] }
/-- _law_right -/
def fn34 : Fn := { cl := none, name := "_law_right", qual := "_law_right", ps := ["_law_sack_here"], dfl := [], N := ["_law_sack_here", "_law_turn", "_law_top", "_law_piece", "_law_mine", "_law_number_here", "_law_due", "_law_told"], out := false, body :=
      [(.for (.n 1) (.range [(.c (.int 6))])
      [(.set (.n 2) (.call 23 [(.v 0), (.lst false [(.c (.int 9)), (.bin false .Pow (.c (.int 10)) (.c (.int 6)))])] [])),
      (.set (.n 3) (.call 29 [(.v 0), (.call 23 [(.v 0), (.lst false [(.c (.int 2)), (.c (.int 5)), (.c (.int 8))])] []), (.call 23 [(.v 0), (.lst false [(.c (.int 2)), (.c (.int 9)), (.bin false .Pow (.c (.int 10)) (.c (.int 6)))])] []), (.v 2)] [])),
      (.set (.n 4) (.call 30 [(.v 3)] [])),
      (.for (.n 5) (.range [(.bin false .Add (.call 33 [(.v 3)] []) (.c (.int 1)))])
      [(.set (.n 6) (.call 32 [(.v 3), (.v 5)] [])),
      (.set (.n 7) (.lst true [(.call 20 [(.v 4), (.v 5)] []), (.call 20 [] [("number", (.v 5)), ("slide", (.v 4))])])),
      (.expr (.bm false .append (.v 7) [(.call 20 [(.meth 7 (.v 4) [(.c (.str "finish"))] []), (.v 5)] [])])),
      (.expr (.bm false .append (.v 7) [(.call 20 [(.meth 7 (.v 4) [(.c (.str "run"))] []), (.v 5)] [])])),
      (.ifs (.cmp .NotEq (.bc false .repr [(.v 7)]) (.bc false .repr [(.bin false .Mult (.lst false [(.v 6)]) (.c (.int 4)))]))
      [(.ret (.c (.bool false)))]
      [])])]),
      (.ret (.c (.bool true)))] }
/-- law -/
def fn35 : Fn := { cl := none, name := "law", qual := "law", ps := ["_law_script"], dfl := [], N := ["_law_script", "_law_turn"], out := false, body :=
      [(.ret (.bc false .all [(.comp false [("_law_turn", 1)] (.n 1) (.range [(.bc false .max [(.c (.int 2)), (.bc false .min [(.bc false .len [(.v 0)]), (.c (.int 5))])])]) [] (.call 34 [(.call 21 [(.v 0), (.v 1)] [])] []))]))] }
/-- Slide.__init__ -/
def fn36 : Fn := { cl := some 0, name := "__init__", qual := "Slide.__init__", ps := ["self", "manner", "channels", "effects"], dfl := [(.tup [])], N := ["self", "manner", "channels", "effects", "channel"], out := false, body :=
      [(.ifs (.un .Not (.call 4 [(.v 1), (.g 10)] []))
      [.never]
      []),
      (.expr (.call 10 [(.v 2)] [])),
      (.expr (.call 11 [(.v 3), (.comp false [("channel", 4)] (.n 4) (.e (.v 2)) [] (.idx (.v 4) (.c (.int 0))))] [])),
      (.set (.fld 8 (.v 0)) (.v 1)),
      (.set (.fld 9 (.v 0)) (.v 2)),
      (.set (.fld 10 (.v 0)) (.v 3))] }
/-- Slide.read -/
def fn37 : Fn := { cl := some 0, name := "read", qual := "Slide.read", ps := ["cls", "text"], dfl := [], N := ["cls", "text", "head", "rows", "words", "many", "row", "channels", "slide"], out := false, body := List.replicate 8 .never }
/-- Slide.manner -/
def fn38 : Fn := { cl := some 0, name := "manner", qual := "Slide.manner", ps := ["self"], dfl := [], N := ["self"], out := false, body := List.replicate 1 .never }
/-- Slide.channels -/
def fn39 : Fn := { cl := some 0, name := "channels", qual := "Slide.channels", ps := ["self"], dfl := [], N := ["self"], out := false, body :=
      [(.ret (.attr 9 (.v 0)))] }
/-- Slide.effects -/
def fn40 : Fn := { cl := some 0, name := "effects", qual := "Slide.effects", ps := ["self"], dfl := [], N := ["self"], out := false, body :=
      [(.ret (.attr 10 (.v 0)))] }
/-- Slide.names -/
def fn41 : Fn := { cl := some 0, name := "names", qual := "Slide.names", ps := ["self"], dfl := [], N := ["self", "channel"], out := false, body := List.replicate 1 .never }
/-- Slide.clicks -/
def fn42 : Fn := { cl := some 0, name := "clicks", qual := "Slide.clicks", ps := ["self"], dfl := [], N := ["self", "effect"], out := false, body :=
      [(.ret (.bc false .len [(.comp false [("effect", 1)] (.n 1) (.e (.attr 10 (.v 0))) [(.cmp .Eq (.idx (.v 1) (.c (.int 1))) (.c (.str "click")))] (.v 1))]))] }
/-- Slide.__len__ -/
def fn43 : Fn := { cl := some 0, name := "__len__", qual := "Slide.__len__", ps := ["self"], dfl := [], N := ["self"], out := false, body :=
      [(.ret (.bc false .len [(.attr 10 (.v 0))]))] }
/-- Slide.__bool__ -/
def fn44 : Fn := { cl := some 0, name := "__bool__", qual := "Slide.__bool__", ps := ["self"], dfl := [], N := ["self"], out := false, body := List.replicate 1 .never }
/-- Slide.__iter__ -/
def fn45 : Fn := { cl := some 0, name := "__iter__", qual := "Slide.__iter__", ps := ["self"], dfl := [], N := ["self"], out := false, body := List.replicate 1 .never }
/-- Slide.__getitem__ -/
def fn46 : Fn := { cl := some 0, name := "__getitem__", qual := "Slide.__getitem__", ps := ["self", "index"], dfl := [], N := ["self", "index"], out := false, body := List.replicate 2 .never }
/-- Slide.__str__ -/
def fn47 : Fn := { cl := some 0, name := "__str__", qual := "Slide.__str__", ps := ["self"], dfl := [], N := ["self", "rows", "name", "first", "effect"], out := false, body :=
      [(.set (.n 1) (.comp false [("name", 2), ("first", 3)] (.tup [(.n 2), (.n 3)]) (.e (.attr 9 (.v 0))) [] (.bm false .join (.c (.str " ")) [(.lst false [(.c (.str "channel")), (.v 2), (.bc false .str [(.v 3)])])]))),
      (.ret (.bm false .join (.c (.str "\n")) [(.lst false [(.bin false .Add (.c (.str "slide ")) (.attr 8 (.v 0))), (.star (.v 1)), (.star (.comp false [("effect", 4)] (.n 4) (.e (.attr 10 (.v 0))) [] (.call 12 [(.v 4)] [])))])]))] }
/-- Slide.__eq__ -/
def fn48 : Fn := { cl := some 0, name := "__eq__", qual := "Slide.__eq__", ps := ["self", "other"], dfl := [], N := ["self", "other"], out := false, body :=
      [(.ret (.and [(.isi (.v 1) (.c 0)), (.cmp .Eq (.bc false .str [(.v 0)]) (.bc false .str [(.v 1)]))]))] }
/-- Slide.paced -/
def fn49 : Fn := { cl := some 0, name := "paced", qual := "Slide.paced", ps := ["self", "manner"], dfl := [], N := ["self", "manner"], out := false, body :=
      [(.ret (.make 0 [(.v 1), (.attr 9 (.v 0)), (.attr 10 (.v 0))] []))] }
def prg : Prg := ⟨[fn0, fn1, fn2, fn3, fn4, fn5, fn6, fn7, fn8, fn9, fn10, fn11, fn12, fn13, fn14, fn15, fn16, fn17, fn18, fn19, fn20, fn21, fn22, fn23, fn24, fn25, fn26, fn27, fn28, fn29, fn30, fn31, fn32, fn33, fn34, fn35, fn36, fn37, fn38, fn39, fn40, fn41, fn42, fn43, fn44, fn45, fn46, fn47, fn48, fn49],
  [{ name := "Slide", fields := [8, 9, 10], frozen := true, init := 36, props := [(11, 38), (5, 39), (4, 40), (12, 41), (6, 42)], meths := [(0, 43), (2, 44), (13, 45), (14, 46), (1, 47), (3, 48), (7, 49)], clsm := [] }],
  ["__len__", "__str__", "__bool__", "__eq__", "effects", "channels", "clicks", "paced", "held_manner", "held_channels", "held_effects", "manner", "names", "__iter__", "__getitem__"],
  [("MOST_CHANNELS", (.int 3)), ("MOST_EFFECTS", (.int 8)), ("MOST_CLICKS", (.int 3)), ("MOST_TIME", (.int 1000000)), ("MOST_NUMBER", (.int 1000000)), ("LETTERS", (.str "abcdefghijklmnopqrstuvwxyz")), ("DIGITS", (.str "0123456789")), ("LONGEST_NAME", (.int 8)), ("LONGEST_NUMBER", (.int 10)), ("PAUSE", (.str "pause")), ("MANNERS", (.tup [(.str "run"), (.str "finish")])), ("STARTS", (.tup [(.str "click"), (.str "with"), (.str "after")])), ("EFFECT_PARTS", (.int 6))]⟩
end L12
end
section
set_option Elab.async false
set_option linter.all false
set_option maxRecDepth 100000
namespace K12
open PySem PY L12
theorem c_0 {T : Tab} {a0 : D} {h : Hh} : callM prg T 0 [a0] [] h = T 0 [a0] h := callM_pos (F := fn0) rfl (by decide +kernel) rfl (by decide)
theorem r_0 {n : Nat} {a0 : D} {h : Hh} {Q : D → Hh → Prop} : okR (PY.run prg (n + 1) 0 [a0] h) Q = wF (evSs prg (PY.run prg n) fn0.body [some a0] h) (fun _ hb => okR (trim false h (.ok .none hb)) Q) (fun d hb => okR (trim false h (.ok d hb)) Q) := run_wE (F := fn0) rfl rfl
theorem c_1 {T : Tab} {a0 a1 a2 : D} {h : Hh} : callM prg T 1 [a0, a1, a2] [] h = T 1 [a0, a1, a2] h := callM_pos (F := fn1) rfl (by decide +kernel) rfl (by decide)
theorem r_1 {n : Nat} {a0 a1 a2 : D} {h : Hh} {Q : D → Hh → Prop} : okR (PY.run prg (n + 1) 1 [a0, a1, a2] h) Q = wF (evSs prg (PY.run prg n) fn1.body [some a0, some a1, some a2] h) (fun _ hb => okR (trim false h (.ok .none hb)) Q) (fun d hb => okR (trim false h (.ok d hb)) Q) := run_wE (F := fn1) rfl rfl
theorem c_2 {T : Tab} {a0 : D} {h : Hh} : callM prg T 2 [a0] [] h = T 2 [a0] h := callM_pos (F := fn2) rfl (by decide +kernel) rfl (by decide)
theorem r_2 {n : Nat} {a0 : D} {h : Hh} {Q : D → Hh → Prop} : okR (PY.run prg (n + 1) 2 [a0] h) Q = wF (evSs prg (PY.run prg n) fn2.body [some a0] h) (fun _ hb => okR (trim false h (.ok .none hb)) Q) (fun d hb => okR (trim false h (.ok d hb)) Q) := run_wE (F := fn2) rfl rfl
theorem c_3 {T : Tab} {a0 : D} {h : Hh} : callM prg T 3 [a0] [] h = T 3 [a0] h := callM_pos (F := fn3) rfl (by decide +kernel) rfl (by decide)
theorem r_3 {n : Nat} {a0 : D} {h : Hh} {Q : D → Hh → Prop} : okR (PY.run prg (n + 1) 3 [a0] h) Q = wF (evSs prg (PY.run prg n) fn3.body [some a0, none] h) (fun _ hb => okR (trim false h (.ok .none hb)) Q) (fun d hb => okR (trim false h (.ok d hb)) Q) := run_wE (F := fn3) rfl rfl
theorem c_4 {T : Tab} {a0 a1 : D} {h : Hh} : callM prg T 4 [a0, a1] [] h = T 4 [a0, a1] h := callM_pos (F := fn4) rfl (by decide +kernel) rfl (by decide)
theorem r_4 {n : Nat} {a0 a1 : D} {h : Hh} {Q : D → Hh → Prop} : okR (PY.run prg (n + 1) 4 [a0, a1] h) Q = wF (evSs prg (PY.run prg n) fn4.body [some a0, some a1] h) (fun _ hb => okR (trim false h (.ok .none hb)) Q) (fun d hb => okR (trim false h (.ok d hb)) Q) := run_wE (F := fn4) rfl rfl
theorem c_5 {T : Tab} {a0 a1 : D} {h : Hh} : callM prg T 5 [a0, a1] [] h = T 5 [a0, a1] h := callM_pos (F := fn5) rfl (by decide +kernel) rfl (by decide)
theorem r_5 {n : Nat} {a0 a1 : D} {h : Hh} {Q : D → Hh → Prop} : okR (PY.run prg (n + 1) 5 [a0, a1] h) Q = wF (evSs prg (PY.run prg n) fn5.body [some a0, some a1] h) (fun _ hb => okR (trim false h (.ok .none hb)) Q) (fun d hb => okR (trim false h (.ok d hb)) Q) := run_wE (F := fn5) rfl rfl
theorem c_8 {T : Tab} {a0 a1 : D} {h : Hh} : callM prg T 8 [a0, a1] [] h = T 8 [a0, a1] h := callM_pos (F := fn8) rfl (by decide +kernel) rfl (by decide)
theorem r_8 {n : Nat} {a0 a1 : D} {h : Hh} {Q : D → Hh → Prop} : okR (PY.run prg (n + 1) 8 [a0, a1] h) Q = wF (evSs prg (PY.run prg n) fn8.body [some a0, some a1] h) (fun _ hb => okR (trim false h (.ok .none hb)) Q) (fun d hb => okR (trim false h (.ok d hb)) Q) := run_wE (F := fn8) rfl rfl
theorem c_9 {T : Tab} {a0 a1 : D} {h : Hh} : callM prg T 9 [a0, a1] [] h = T 9 [a0, a1] h := callM_pos (F := fn9) rfl (by decide +kernel) rfl (by decide)
theorem r_9 {n : Nat} {a0 a1 : D} {h : Hh} {Q : D → Hh → Prop} : okR (PY.run prg (n + 1) 9 [a0, a1] h) Q = wF (evSs prg (PY.run prg n) fn9.body [some a0, some a1, none, none, none, none, none, none] h) (fun _ hb => okR (trim false h (.ok .none hb)) Q) (fun d hb => okR (trim false h (.ok d hb)) Q) := run_wE (F := fn9) rfl rfl
theorem c_10 {T : Tab} {a0 : D} {h : Hh} : callM prg T 10 [a0] [] h = T 10 [a0] h := callM_pos (F := fn10) rfl (by decide +kernel) rfl (by decide)
theorem r_10 {n : Nat} {a0 : D} {h : Hh} {Q : D → Hh → Prop} : okR (PY.run prg (n + 1) 10 [a0] h) Q = wF (evSs prg (PY.run prg n) fn10.body [some a0, none, none, none] h) (fun _ hb => okR (trim false h (.ok .none hb)) Q) (fun d hb => okR (trim false h (.ok d hb)) Q) := run_wE (F := fn10) rfl rfl
theorem c_11 {T : Tab} {a0 a1 : D} {h : Hh} : callM prg T 11 [a0, a1] [] h = T 11 [a0, a1] h := callM_pos (F := fn11) rfl (by decide +kernel) rfl (by decide)
theorem r_11 {n : Nat} {a0 a1 : D} {h : Hh} {Q : D → Hh → Prop} : okR (PY.run prg (n + 1) 11 [a0, a1] h) Q = wF (evSs prg (PY.run prg n) fn11.body [some a0, some a1, none, none, none] h) (fun _ hb => okR (trim false h (.ok .none hb)) Q) (fun d hb => okR (trim false h (.ok d hb)) Q) := run_wE (F := fn11) rfl rfl
theorem c_12 {T : Tab} {a0 : D} {h : Hh} : callM prg T 12 [a0] [] h = T 12 [a0] h := callM_pos (F := fn12) rfl (by decide +kernel) rfl (by decide)
theorem r_12 {n : Nat} {a0 : D} {h : Hh} {Q : D → Hh → Prop} : okR (PY.run prg (n + 1) 12 [a0] h) Q = wF (evSs prg (PY.run prg n) fn12.body [some a0, none] h) (fun _ hb => okR (trim false h (.ok .none hb)) Q) (fun d hb => okR (trim false h (.ok d hb)) Q) := run_wE (F := fn12) rfl rfl
theorem c_15 {T : Tab} {a0 : D} {h : Hh} : callM prg T 15 [a0] [] h = T 15 [a0] h := callM_pos (F := fn15) rfl (by decide +kernel) rfl (by decide)
theorem r_15 {n : Nat} {a0 : D} {h : Hh} {Q : D → Hh → Prop} : okR (PY.run prg (n + 1) 15 [a0] h) Q = wF (evSs prg (PY.run prg n) fn15.body [some a0] h) (fun _ hb => okR (trim false h (.ok .none hb)) Q) (fun d hb => okR (trim false h (.ok d hb)) Q) := run_wE (F := fn15) rfl rfl
theorem c_16 {T : Tab} {a0 : D} {h : Hh} : callM prg T 16 [a0] [] h = T 16 [a0] h := callM_pos (F := fn16) rfl (by decide +kernel) rfl (by decide)
theorem r_16 {n : Nat} {a0 : D} {h : Hh} {Q : D → Hh → Prop} : okR (PY.run prg (n + 1) 16 [a0] h) Q = wF (evSs prg (PY.run prg n) fn16.body [some a0, none, none, none, none] h) (fun _ hb => okR (trim false h (.ok .none hb)) Q) (fun d hb => okR (trim false h (.ok d hb)) Q) := run_wE (F := fn16) rfl rfl
theorem c_17 {T : Tab} {a0 : D} {h : Hh} : callM prg T 17 [a0] [] h = T 17 [a0] h := callM_pos (F := fn17) rfl (by decide +kernel) rfl (by decide)
theorem r_17 {n : Nat} {a0 : D} {h : Hh} {Q : D → Hh → Prop} : okR (PY.run prg (n + 1) 17 [a0] h) Q = wF (evSs prg (PY.run prg n) fn17.body [some a0, none, none, none, none, none, none, none, none, none, none, none, none, none] h) (fun _ hb => okR (trim false h (.ok .none hb)) Q) (fun d hb => okR (trim false h (.ok d hb)) Q) := run_wE (F := fn17) rfl rfl
theorem c_18 {T : Tab} {a0 a1 : D} {h : Hh} : callM prg T 18 [a0, a1] [] h = T 18 [a0, a1] h := callM_pos (F := fn18) rfl (by decide +kernel) rfl (by decide)
theorem r_18 {n : Nat} {a0 a1 : D} {h : Hh} {Q : D → Hh → Prop} : okR (PY.run prg (n + 1) 18 [a0, a1] h) Q = wF (evSs prg (PY.run prg n) fn18.body [some a0, some a1, none] h) (fun _ hb => okR (trim false h (.ok .none hb)) Q) (fun d hb => okR (trim false h (.ok d hb)) Q) := run_wE (F := fn18) rfl rfl
theorem c_19 {T : Tab} {a0 a1 : D} {h : Hh} : callM prg T 19 [a0, a1] [] h = T 19 [a0, a1] h := callM_pos (F := fn19) rfl (by decide +kernel) rfl (by decide)
theorem r_19 {n : Nat} {a0 a1 : D} {h : Hh} {Q : D → Hh → Prop} : okR (PY.run prg (n + 1) 19 [a0, a1] h) Q = wF (evSs prg (PY.run prg n) fn19.body [some a0, some a1, none, none, none, none, none, none, none] h) (fun _ hb => okR (trim false h (.ok .none hb)) Q) (fun d hb => okR (trim false h (.ok d hb)) Q) := run_wE (F := fn19) rfl rfl
theorem c_20 {T : Tab} {a0 a1 : D} {h : Hh} : callM prg T 20 [a0, a1] [] h = T 20 [a0, a1] h := callM_pos (F := fn20) rfl (by decide +kernel) rfl (by decide)
theorem r_20 {n : Nat} {a0 a1 : D} {h : Hh} {Q : D → Hh → Prop} : okR (PY.run prg (n + 1) 20 [a0, a1] h) Q = wF (evSs prg (PY.run prg n) fn20.body [some a0, some a1] h) (fun _ hb => okR (trim false h (.ok .none hb)) Q) (fun d hb => okR (trim false h (.ok d hb)) Q) := run_wE (F := fn20) rfl rfl
theorem c_21 {T : Tab} {a0 a1 : D} {h : Hh} : callM prg T 21 [a0, a1] [] h = T 21 [a0, a1] h := callM_pos (F := fn21) rfl (by decide +kernel) rfl (by decide)
theorem r_21 {n : Nat} {a0 a1 : D} {h : Hh} {Q : D → Hh → Prop} : okR (PY.run prg (n + 1) 21 [a0, a1] h) Q = wF (evSs prg (PY.run prg n) fn21.body [some a0, some a1, none, none, none] h) (fun _ hb => okR (trim true h (.ok .none hb)) Q) (fun d hb => okR (trim true h (.ok d hb)) Q) := run_wE (F := fn21) rfl rfl
theorem c_22 {T : Tab} {a0 a1 : D} {h : Hh} : callM prg T 22 [a0, a1] [] h = T 22 [a0, a1] h := callM_pos (F := fn22) rfl (by decide +kernel) rfl (by decide)
theorem r_22 {n : Nat} {a0 a1 : D} {h : Hh} {Q : D → Hh → Prop} : okR (PY.run prg (n + 1) 22 [a0, a1] h) Q = wF (evSs prg (PY.run prg n) fn22.body [some a0, some a1, none] h) (fun _ hb => okR (trim false h (.ok .none hb)) Q) (fun d hb => okR (trim false h (.ok d hb)) Q) := run_wE (F := fn22) rfl rfl
theorem c_23 {T : Tab} {a0 a1 : D} {h : Hh} : callM prg T 23 [a0, a1] [] h = T 23 [a0, a1] h := callM_pos (F := fn23) rfl (by decide +kernel) rfl (by decide)
theorem r_23 {n : Nat} {a0 a1 : D} {h : Hh} {Q : D → Hh → Prop} : okR (PY.run prg (n + 1) 23 [a0, a1] h) Q = wF (evSs prg (PY.run prg n) fn23.body [some a0, some a1] h) (fun _ hb => okR (trim false h (.ok .none hb)) Q) (fun d hb => okR (trim false h (.ok d hb)) Q) := run_wE (F := fn23) rfl rfl
theorem c_24 {T : Tab} {a0 a1 : D} {h : Hh} : callM prg T 24 [a0, a1] [] h = T 24 [a0, a1] h := callM_pos (F := fn24) rfl (by decide +kernel) rfl (by decide)
theorem r_24 {n : Nat} {a0 a1 : D} {h : Hh} {Q : D → Hh → Prop} : okR (PY.run prg (n + 1) 24 [a0, a1] h) Q = wF (evSs prg (PY.run prg n) fn24.body [some a0, some a1, none, none, none, none, none, none, none, none, none] h) (fun _ hb => okR (trim false h (.ok .none hb)) Q) (fun d hb => okR (trim false h (.ok d hb)) Q) := run_wE (F := fn24) rfl rfl
theorem c_25 {T : Tab} {a0 a1 : D} {h : Hh} : callM prg T 25 [a0, a1] [] h = T 25 [a0, a1] h := callM_pos (F := fn25) rfl (by decide +kernel) rfl (by decide)
theorem r_25 {n : Nat} {a0 a1 : D} {h : Hh} {Q : D → Hh → Prop} : okR (PY.run prg (n + 1) 25 [a0, a1] h) Q = wF (evSs prg (PY.run prg n) fn25.body [some a0, some a1] h) (fun _ hb => okR (trim false h (.ok .none hb)) Q) (fun d hb => okR (trim false h (.ok d hb)) Q) := run_wE (F := fn25) rfl rfl
theorem c_26 {T : Tab} {a0 a1 : D} {h : Hh} : callM prg T 26 [a0, a1] [] h = T 26 [a0, a1] h := callM_pos (F := fn26) rfl (by decide +kernel) rfl (by decide)
theorem r_26 {n : Nat} {a0 a1 : D} {h : Hh} {Q : D → Hh → Prop} : okR (PY.run prg (n + 1) 26 [a0, a1] h) Q = wF (evSs prg (PY.run prg n) fn26.body [some a0, some a1] h) (fun _ hb => okR (trim false h (.ok .none hb)) Q) (fun d hb => okR (trim false h (.ok d hb)) Q) := run_wE (F := fn26) rfl rfl
theorem c_27 {T : Tab} {a0 a1 a2 : D} {h : Hh} : callM prg T 27 [a0, a1, a2] [] h = T 27 [a0, a1, a2] h := callM_pos (F := fn27) rfl (by decide +kernel) rfl (by decide)
theorem r_27 {n : Nat} {a0 a1 a2 : D} {h : Hh} {Q : D → Hh → Prop} : okR (PY.run prg (n + 1) 27 [a0, a1, a2] h) Q = wF (evSs prg (PY.run prg n) fn27.body [some a0, some a1, some a2, none] h) (fun _ hb => okR (trim false h (.ok .none hb)) Q) (fun d hb => okR (trim false h (.ok d hb)) Q) := run_wE (F := fn27) rfl rfl
theorem c_28 {T : Tab} {a0 a1 a2 a3 a4 : D} {h : Hh} : callM prg T 28 [a0, a1, a2, a3, a4] [] h = T 28 [a0, a1, a2, a3, a4] h := callM_pos (F := fn28) rfl (by decide +kernel) rfl (by decide)
theorem r_28 {n : Nat} {a0 a1 a2 a3 a4 : D} {h : Hh} {Q : D → Hh → Prop} : okR (PY.run prg (n + 1) 28 [a0, a1, a2, a3, a4] h) Q = wF (evSs prg (PY.run prg n) fn28.body [some a0, some a1, some a2, some a3, some a4, none, none, none, none, none, none, none] h) (fun _ hb => okR (trim false h (.ok .none hb)) Q) (fun d hb => okR (trim false h (.ok d hb)) Q) := run_wE (F := fn28) rfl rfl
theorem c_29 {T : Tab} {a0 a1 a2 a3 : D} {h : Hh} : callM prg T 29 [a0, a1, a2, a3] [] h = T 29 [a0, a1, a2, a3] h := callM_pos (F := fn29) rfl (by decide +kernel) rfl (by decide)
theorem r_29 {n : Nat} {a0 a1 a2 a3 : D} {h : Hh} {Q : D → Hh → Prop} : okR (PY.run prg (n + 1) 29 [a0, a1, a2, a3] h) Q = wF (evSs prg (PY.run prg n) fn29.body [some a0, some a1, some a2, some a3, none] h) (fun _ hb => okR (trim false h (.ok .none hb)) Q) (fun d hb => okR (trim false h (.ok d hb)) Q) := run_wE (F := fn29) rfl rfl
theorem c_30 {T : Tab} {a0 : D} {h : Hh} : callM prg T 30 [a0] [] h = T 30 [a0] h := callM_pos (F := fn30) rfl (by decide +kernel) rfl (by decide)
theorem r_30 {n : Nat} {a0 : D} {h : Hh} {Q : D → Hh → Prop} : okR (PY.run prg (n + 1) 30 [a0] h) Q = wF (evSs prg (PY.run prg n) fn30.body [some a0] h) (fun _ hb => okR (trim false h (.ok .none hb)) Q) (fun d hb => okR (trim false h (.ok d hb)) Q) := run_wE (F := fn30) rfl rfl
theorem c_31 {T : Tab} {a0 : D} {h : Hh} : callM prg T 31 [a0] [] h = T 31 [a0] h := callM_pos (F := fn31) rfl (by decide +kernel) rfl (by decide)
theorem r_31 {n : Nat} {a0 : D} {h : Hh} {Q : D → Hh → Prop} : okR (PY.run prg (n + 1) 31 [a0] h) Q = wF (evSs prg (PY.run prg n) fn31.body [some a0, none, none, none, none, none, none] h) (fun _ hb => okR (trim false h (.ok .none hb)) Q) (fun d hb => okR (trim false h (.ok d hb)) Q) := run_wE (F := fn31) rfl rfl
theorem c_32 {T : Tab} {a0 a1 : D} {h : Hh} : callM prg T 32 [a0, a1] [] h = T 32 [a0, a1] h := callM_pos (F := fn32) rfl (by decide +kernel) rfl (by decide)
theorem r_32 {n : Nat} {a0 a1 : D} {h : Hh} {Q : D → Hh → Prop} : okR (PY.run prg (n + 1) 32 [a0, a1] h) Q = wF (evSs prg (PY.run prg n) fn32.body [some a0, some a1, none, none, none, none, none, none, none] h) (fun _ hb => okR (trim false h (.ok .none hb)) Q) (fun d hb => okR (trim false h (.ok d hb)) Q) := run_wE (F := fn32) rfl rfl
theorem c_33 {T : Tab} {a0 : D} {h : Hh} : callM prg T 33 [a0] [] h = T 33 [a0] h := callM_pos (F := fn33) rfl (by decide +kernel) rfl (by decide)
theorem r_33 {n : Nat} {a0 : D} {h : Hh} {Q : D → Hh → Prop} : okR (PY.run prg (n + 1) 33 [a0] h) Q = wF (evSs prg (PY.run prg n) fn33.body [some a0, none] h) (fun _ hb => okR (trim false h (.ok .none hb)) Q) (fun d hb => okR (trim false h (.ok d hb)) Q) := run_wE (F := fn33) rfl rfl
theorem c_34 {T : Tab} {a0 : D} {h : Hh} : callM prg T 34 [a0] [] h = T 34 [a0] h := callM_pos (F := fn34) rfl (by decide +kernel) rfl (by decide)
theorem r_34 {n : Nat} {a0 : D} {h : Hh} {Q : D → Hh → Prop} : okR (PY.run prg (n + 1) 34 [a0] h) Q = wF (evSs prg (PY.run prg n) fn34.body [some a0, none, none, none, none, none, none, none] h) (fun _ hb => okR (trim false h (.ok .none hb)) Q) (fun d hb => okR (trim false h (.ok d hb)) Q) := run_wE (F := fn34) rfl rfl
theorem c_35 {T : Tab} {a0 : D} {h : Hh} : callM prg T 35 [a0] [] h = T 35 [a0] h := callM_pos (F := fn35) rfl (by decide +kernel) rfl (by decide)
theorem r_35 {n : Nat} {a0 : D} {h : Hh} {Q : D → Hh → Prop} : okR (PY.run prg (n + 1) 35 [a0] h) Q = wF (evSs prg (PY.run prg n) fn35.body [some a0, none] h) (fun _ hb => okR (trim false h (.ok .none hb)) Q) (fun d hb => okR (trim false h (.ok d hb)) Q) := run_wE (F := fn35) rfl rfl
theorem c_36 {T : Tab} {a0 a1 a2 a3 : D} {h : Hh} : callM prg T 36 [a0, a1, a2, a3] [] h = T 36 [a0, a1, a2, a3] h := callM_pos (F := fn36) rfl (by decide +kernel) rfl (by decide)
theorem r_36 {n : Nat} {a0 a1 a2 a3 : D} {h : Hh} {Q : D → Hh → Prop} : okR (PY.run prg (n + 1) 36 [a0, a1, a2, a3] h) Q = wF (evSs prg (PY.run prg n) fn36.body [some a0, some a1, some a2, some a3, none] h) (fun _ hb => okR (trim false h (.ok .none hb)) Q) (fun d hb => okR (trim false h (.ok d hb)) Q) := run_wE (F := fn36) rfl rfl
theorem c_39 {T : Tab} {a0 : D} {h : Hh} : callM prg T 39 [a0] [] h = T 39 [a0] h := callM_pos (F := fn39) rfl (by decide +kernel) rfl (by decide)
theorem r_39 {n : Nat} {a0 : D} {h : Hh} {Q : D → Hh → Prop} : okR (PY.run prg (n + 1) 39 [a0] h) Q = wF (evSs prg (PY.run prg n) fn39.body [some a0] h) (fun _ hb => okR (trim false h (.ok .none hb)) Q) (fun d hb => okR (trim false h (.ok d hb)) Q) := run_wE (F := fn39) rfl rfl
theorem c_40 {T : Tab} {a0 : D} {h : Hh} : callM prg T 40 [a0] [] h = T 40 [a0] h := callM_pos (F := fn40) rfl (by decide +kernel) rfl (by decide)
theorem r_40 {n : Nat} {a0 : D} {h : Hh} {Q : D → Hh → Prop} : okR (PY.run prg (n + 1) 40 [a0] h) Q = wF (evSs prg (PY.run prg n) fn40.body [some a0] h) (fun _ hb => okR (trim false h (.ok .none hb)) Q) (fun d hb => okR (trim false h (.ok d hb)) Q) := run_wE (F := fn40) rfl rfl
theorem c_42 {T : Tab} {a0 : D} {h : Hh} : callM prg T 42 [a0] [] h = T 42 [a0] h := callM_pos (F := fn42) rfl (by decide +kernel) rfl (by decide)
theorem r_42 {n : Nat} {a0 : D} {h : Hh} {Q : D → Hh → Prop} : okR (PY.run prg (n + 1) 42 [a0] h) Q = wF (evSs prg (PY.run prg n) fn42.body [some a0, none] h) (fun _ hb => okR (trim false h (.ok .none hb)) Q) (fun d hb => okR (trim false h (.ok d hb)) Q) := run_wE (F := fn42) rfl rfl
theorem c_43 {T : Tab} {a0 : D} {h : Hh} : callM prg T 43 [a0] [] h = T 43 [a0] h := callM_pos (F := fn43) rfl (by decide +kernel) rfl (by decide)
theorem r_43 {n : Nat} {a0 : D} {h : Hh} {Q : D → Hh → Prop} : okR (PY.run prg (n + 1) 43 [a0] h) Q = wF (evSs prg (PY.run prg n) fn43.body [some a0] h) (fun _ hb => okR (trim false h (.ok .none hb)) Q) (fun d hb => okR (trim false h (.ok d hb)) Q) := run_wE (F := fn43) rfl rfl
theorem c_47 {T : Tab} {a0 : D} {h : Hh} : callM prg T 47 [a0] [] h = T 47 [a0] h := callM_pos (F := fn47) rfl (by decide +kernel) rfl (by decide)
theorem r_47 {n : Nat} {a0 : D} {h : Hh} {Q : D → Hh → Prop} : okR (PY.run prg (n + 1) 47 [a0] h) Q = wF (evSs prg (PY.run prg n) fn47.body [some a0, none, none, none, none] h) (fun _ hb => okR (trim false h (.ok .none hb)) Q) (fun d hb => okR (trim false h (.ok d hb)) Q) := run_wE (F := fn47) rfl rfl
theorem c_48 {T : Tab} {a0 a1 : D} {h : Hh} : callM prg T 48 [a0, a1] [] h = T 48 [a0, a1] h := callM_pos (F := fn48) rfl (by decide +kernel) rfl (by decide)
theorem r_48 {n : Nat} {a0 a1 : D} {h : Hh} {Q : D → Hh → Prop} : okR (PY.run prg (n + 1) 48 [a0, a1] h) Q = wF (evSs prg (PY.run prg n) fn48.body [some a0, some a1] h) (fun _ hb => okR (trim false h (.ok .none hb)) Q) (fun d hb => okR (trim false h (.ok d hb)) Q) := run_wE (F := fn48) rfl rfl
theorem c_49 {T : Tab} {a0 a1 : D} {h : Hh} : callM prg T 49 [a0, a1] [] h = T 49 [a0, a1] h := callM_pos (F := fn49) rfl (by decide +kernel) rfl (by decide)
theorem r_49 {n : Nat} {a0 a1 : D} {h : Hh} {Q : D → Hh → Prop} : okR (PY.run prg (n + 1) 49 [a0, a1] h) Q = wF (evSs prg (PY.run prg n) fn49.body [some a0, some a1] h) (fun _ hb => okR (trim false h (.ok .none hb)) Q) (fun d hb => okR (trim false h (.ok d hb)) Q) := run_wE (F := fn49) rfl rfl
theorem g_0 {T : Tab} {env : En} {h : Hh} : evE prg T (.g 0) env h = .ok (.int 3) h := by rw [evE]; rfl
theorem g_1 {T : Tab} {env : En} {h : Hh} : evE prg T (.g 1) env h = .ok (.int 8) h := by rw [evE]; rfl
theorem g_2 {T : Tab} {env : En} {h : Hh} : evE prg T (.g 2) env h = .ok (.int 3) h := by rw [evE]; rfl
theorem g_3 {T : Tab} {env : En} {h : Hh} : evE prg T (.g 3) env h = .ok (.int 1000000) h := by rw [evE]; rfl
theorem g_4 {T : Tab} {env : En} {h : Hh} : evE prg T (.g 4) env h = .ok (.int 1000000) h := by rw [evE]; rfl
theorem g_5 {T : Tab} {env : En} {h : Hh} : evE prg T (.g 5) env h = .ok (.str "abcdefghijklmnopqrstuvwxyz") h := by rw [evE]; rfl
theorem g_6 {T : Tab} {env : En} {h : Hh} : evE prg T (.g 6) env h = .ok (.str "0123456789") h := by rw [evE]; rfl
theorem g_7 {T : Tab} {env : En} {h : Hh} : evE prg T (.g 7) env h = .ok (.int 8) h := by rw [evE]; rfl
theorem g_8 {T : Tab} {env : En} {h : Hh} : evE prg T (.g 8) env h = .ok (.int 10) h := by rw [evE]; rfl
theorem g_9 {T : Tab} {env : En} {h : Hh} : evE prg T (.g 9) env h = .ok (.str "pause") h := by rw [evE]; rfl
theorem g_10 {T : Tab} {env : En} {h : Hh} : evE prg T (.g 10) env h = .ok (.tup [(.str "run"), (.str "finish")]) h := by rw [evE]; rfl
theorem g_11 {T : Tab} {env : En} {h : Hh} : evE prg T (.g 11) env h = .ok (.tup [(.str "click"), (.str "with"), (.str "after")]) h := by rw [evE]; rfl
theorem g_12 {T : Tab} {env : En} {h : Hh} : evE prg T (.g 12) env h = .ok (.int 6) h := by rw [evE]; rfl
theorem at_8_0 {T : Tab} {a0 a1 a2 : D} {h : Hh} : attrM prg T 8 (.inst 0 [a0, a1, a2]) h = .ok a0 h := rfl
theorem at_9_0 {T : Tab} {a0 a1 a2 : D} {h : Hh} : attrM prg T 9 (.inst 0 [a0, a1, a2]) h = .ok a1 h := rfl
theorem at_10_0 {T : Tab} {a0 a1 a2 : D} {h : Hh} : attrM prg T 10 (.inst 0 [a0, a1, a2]) h = .ok a2 h := rfl
theorem at_11_0 {T : Tab} {fs : List D} {h : Hh} : attrM prg T 11 (.inst 0 fs) h = T 38 [.inst 0 fs] h := rfl
theorem at_5_0 {T : Tab} {fs : List D} {h : Hh} : attrM prg T 5 (.inst 0 fs) h = T 39 [.inst 0 fs] h := rfl
theorem at_4_0 {T : Tab} {fs : List D} {h : Hh} : attrM prg T 4 (.inst 0 fs) h = T 40 [.inst 0 fs] h := rfl
theorem at_12_0 {T : Tab} {fs : List D} {h : Hh} : attrM prg T 12 (.inst 0 fs) h = T 41 [.inst 0 fs] h := rfl
theorem at_6_0 {T : Tab} {fs : List D} {h : Hh} : attrM prg T 6 (.inst 0 fs) h = T 42 [.inst 0 fs] h := rfl
end K12
end
section
set_option Elab.async false
set_option linter.all false
set_option maxRecDepth 100000
namespace K12
open PySem PyProof.Rows PY L12
theorem whole {n : Nat} {i : Int} {h : Hh} : PY.run prg (n + 1) 0 [.int i] h = .ok (.bool true) h := by
  refine okR_eq ?_
  rw [r_0]
  simp only [PY.wSs, PY.wSn, PY.w_if, PY.w_and2, PY.w_or2, PY.w_ite, PY.w_chain, PY.w_opt_s, PY.w_guard, PY.w_set_n0, PY.w_set_ns, PY.w_aug, PY.aug_add, PY.aug_sub, PY.idx_l0, PY.idx_l1, PY.idx_p0, PY.idx_p1, PY.idx_p2, PY.idx_p3, PY.idx_p4, PY.idx_p5, PY.w_mkLf, PY.w_mkLt, PY.es_star, PY.ks_cons, PY.ks_nil, PY.es_nil, PY.es_v, PY.es_c, PY.es_g, PY.es_bin, PY.es_un, PY.es_cmp, PY.es_chain, PY.es_and, PY.es_or, PY.es_ite, PY.es_tup, PY.es_lst, PY.es_idx, PY.es_slc, PY.es_rev, PY.es_call, PY.es_make, PY.es_bc, PY.es_bm, PY.es_meth, PY.es_attr, PY.es_isi, PY.es_comp, PY.es_frz, PY.e_attr, PY.e_make, PY.e_isi, PY.e_bm, PY.w_rev, PY.w_frz, PY.w_comp, PY.w_csn, PY.w_csc, PY.w_i_e, PY.w_i_range, PY.rng_1, PY.rng_2, PY.slc_str, PY.toI, PY.w_i_enum, PY.w_for, PY.itm_tup, PY.itm_list, PY.itm_scr, PY.itm_str, PY.itN_tup, PY.chk_none, PY.sq_tup, PY.sq_list, PY.bin_L, PY.bin_T, PY.bc_strI, PY.bc_strS, PY.bc_tupL, PY.bc_tupT, PY.bc_max2, PY.bc_min2, PY.e_v, PY.e_c, PY.e_bin, PY.e_un, PY.e_cmp, PY.e_idx, PY.e_bc, PY.e_call, PY.e_lst, PY.e_tup, PY.e_or, PY.e_and, PY.or1, PY.and1, PY.e_slc, PY.o_none, PY.o_some, PY.s_set, PY.s_ret, PY.s_expr, PY.getV_0, PY.getV_s, PY.bin_add, PY.bin_sub, PY.bin_mul, PY.bin_fdiv, PY.bin_mod, PY.bin_pow, PY.bin_cat, PY.cmp_lt, PY.cmp_le, PY.cmp_gt, PY.cmp_ge, PY.un_not, PY.un_neg, PY.idx_tup, PY.idx_list, PY.idx_scr, PY.bc_int, PY.bc_abs, PY.bc_divmod, PY.bc_lenS, PY.bc_lenT, PY.bc_lenL, PY.bc_lenC, PY.a_tup, PY.as_nil, PY.as_cons, PY.okE, PY.bindE, PY.flE, PY.rtE, PY.nxE, PY.opt_s, PY.bind_ok, PY.fl_ok, PY.cm_lt, PY.cm_le, PY.cm_gt, PY.cm_ge, PY.cm_is, PY.cm_isn, PY.cm_in, PY.cm_nin, PY.cm_eqI, PY.cm_neI, PY.cm_eqS, PY.cm_neS, PY.cm_eqL, PY.cm_neL, PY.cm_eqT, PY.cm_neT, PY.cmp_eqS, PY.cmp_neS, PY.cmp_eqI, PY.cmp_neI, PY.cmp_inT, PY.ifQ_t, PY.ifQ_f, PY.tr_b, PY.tr_i, PY.tr_s, PY.tr_n, PY.isi_ii, PY.isi_bi, PY.isi_ss, PY.isi_tt, Option.map_some, PY.atI_0, PY.atI_1, PY.atI_2, PY.atI_3, PY.atI_4, PY.atI_5, List.set_cons_zero, List.set_cons_succ, fn0]
  simp
theorem integer {n : Nat} {i a b : Int} {h : Hh} : PY.run prg (n + 2) 1 [.int i, .int a, .int b] h = .ok (.bool (decide (a ≤ i ∧ i ≤ b))) h := by
  refine okR_eq ?_
  rw [r_1]
  simp only [PY.wSs, PY.wSn, PY.w_if, PY.w_and2, PY.w_or2, PY.w_ite, PY.w_chain, PY.w_opt_s, PY.w_guard, PY.w_set_n0, PY.w_set_ns, PY.w_aug, PY.aug_add, PY.aug_sub, PY.idx_l0, PY.idx_l1, PY.idx_p0, PY.idx_p1, PY.idx_p2, PY.idx_p3, PY.idx_p4, PY.idx_p5, PY.w_mkLf, PY.w_mkLt, PY.es_star, PY.ks_cons, PY.ks_nil, PY.es_nil, PY.es_v, PY.es_c, PY.es_g, PY.es_bin, PY.es_un, PY.es_cmp, PY.es_chain, PY.es_and, PY.es_or, PY.es_ite, PY.es_tup, PY.es_lst, PY.es_idx, PY.es_slc, PY.es_rev, PY.es_call, PY.es_make, PY.es_bc, PY.es_bm, PY.es_meth, PY.es_attr, PY.es_isi, PY.es_comp, PY.es_frz, PY.e_attr, PY.e_make, PY.e_isi, PY.e_bm, PY.w_rev, PY.w_frz, PY.w_comp, PY.w_csn, PY.w_csc, PY.w_i_e, PY.w_i_range, PY.rng_1, PY.rng_2, PY.slc_str, PY.toI, PY.w_i_enum, PY.w_for, PY.itm_tup, PY.itm_list, PY.itm_scr, PY.itm_str, PY.itN_tup, PY.chk_none, PY.sq_tup, PY.sq_list, PY.bin_L, PY.bin_T, PY.bc_strI, PY.bc_strS, PY.bc_tupL, PY.bc_tupT, PY.bc_max2, PY.bc_min2, PY.e_v, PY.e_c, PY.e_bin, PY.e_un, PY.e_cmp, PY.e_idx, PY.e_bc, PY.e_call, PY.e_lst, PY.e_tup, PY.e_or, PY.e_and, PY.or1, PY.and1, PY.e_slc, PY.o_none, PY.o_some, PY.s_set, PY.s_ret, PY.s_expr, PY.getV_0, PY.getV_s, PY.bin_add, PY.bin_sub, PY.bin_mul, PY.bin_fdiv, PY.bin_mod, PY.bin_pow, PY.bin_cat, PY.cmp_lt, PY.cmp_le, PY.cmp_gt, PY.cmp_ge, PY.un_not, PY.un_neg, PY.idx_tup, PY.idx_list, PY.idx_scr, PY.bc_int, PY.bc_abs, PY.bc_divmod, PY.bc_lenS, PY.bc_lenT, PY.bc_lenL, PY.bc_lenC, PY.a_tup, PY.as_nil, PY.as_cons, PY.okE, PY.bindE, PY.flE, PY.rtE, PY.nxE, PY.opt_s, PY.bind_ok, PY.fl_ok, PY.cm_lt, PY.cm_le, PY.cm_gt, PY.cm_ge, PY.cm_is, PY.cm_isn, PY.cm_in, PY.cm_nin, PY.cm_eqI, PY.cm_neI, PY.cm_eqS, PY.cm_neS, PY.cm_eqL, PY.cm_neL, PY.cm_eqT, PY.cm_neT, PY.cmp_eqS, PY.cmp_neS, PY.cmp_eqI, PY.cmp_neI, PY.cmp_inT, PY.ifQ_t, PY.ifQ_f, PY.tr_b, PY.tr_i, PY.tr_s, PY.tr_n, PY.isi_ii, PY.isi_bi, PY.isi_ss, PY.isi_tt, Option.map_some, PY.atI_0, PY.atI_1, PY.atI_2, PY.atI_3, PY.atI_4, PY.atI_5, List.set_cons_zero, List.set_cons_succ, fn1, c_0, whole, ifQ_d]
  constructor
  · intro h1
    simp [h1]
  · intro h1
    simp [h1]
theorem number {n : Nat} {i : Int} {h : Hh} : PY.run prg (n + 3) 2 [.int i] h = .ok (.bool (decide (-1000000 ≤ i ∧ i ≤ 1000000))) h := by
  refine okR_eq ?_
  rw [r_2]
  simp only [PY.wSs, PY.wSn, PY.w_if, PY.w_and2, PY.w_or2, PY.w_ite, PY.w_chain, PY.w_opt_s, PY.w_guard, PY.w_set_n0, PY.w_set_ns, PY.w_aug, PY.aug_add, PY.aug_sub, PY.idx_l0, PY.idx_l1, PY.idx_p0, PY.idx_p1, PY.idx_p2, PY.idx_p3, PY.idx_p4, PY.idx_p5, PY.w_mkLf, PY.w_mkLt, PY.es_star, PY.ks_cons, PY.ks_nil, PY.es_nil, PY.es_v, PY.es_c, PY.es_g, PY.es_bin, PY.es_un, PY.es_cmp, PY.es_chain, PY.es_and, PY.es_or, PY.es_ite, PY.es_tup, PY.es_lst, PY.es_idx, PY.es_slc, PY.es_rev, PY.es_call, PY.es_make, PY.es_bc, PY.es_bm, PY.es_meth, PY.es_attr, PY.es_isi, PY.es_comp, PY.es_frz, PY.e_attr, PY.e_make, PY.e_isi, PY.e_bm, PY.w_rev, PY.w_frz, PY.w_comp, PY.w_csn, PY.w_csc, PY.w_i_e, PY.w_i_range, PY.rng_1, PY.rng_2, PY.slc_str, PY.toI, PY.w_i_enum, PY.w_for, PY.itm_tup, PY.itm_list, PY.itm_scr, PY.itm_str, PY.itN_tup, PY.chk_none, PY.sq_tup, PY.sq_list, PY.bin_L, PY.bin_T, PY.bc_strI, PY.bc_strS, PY.bc_tupL, PY.bc_tupT, PY.bc_max2, PY.bc_min2, PY.e_v, PY.e_c, PY.e_bin, PY.e_un, PY.e_cmp, PY.e_idx, PY.e_bc, PY.e_call, PY.e_lst, PY.e_tup, PY.e_or, PY.e_and, PY.or1, PY.and1, PY.e_slc, PY.o_none, PY.o_some, PY.s_set, PY.s_ret, PY.s_expr, PY.getV_0, PY.getV_s, PY.bin_add, PY.bin_sub, PY.bin_mul, PY.bin_fdiv, PY.bin_mod, PY.bin_pow, PY.bin_cat, PY.cmp_lt, PY.cmp_le, PY.cmp_gt, PY.cmp_ge, PY.un_not, PY.un_neg, PY.idx_tup, PY.idx_list, PY.idx_scr, PY.bc_int, PY.bc_abs, PY.bc_divmod, PY.bc_lenS, PY.bc_lenT, PY.bc_lenL, PY.bc_lenC, PY.a_tup, PY.as_nil, PY.as_cons, PY.okE, PY.bindE, PY.flE, PY.rtE, PY.nxE, PY.opt_s, PY.bind_ok, PY.fl_ok, PY.cm_lt, PY.cm_le, PY.cm_gt, PY.cm_ge, PY.cm_is, PY.cm_isn, PY.cm_in, PY.cm_nin, PY.cm_eqI, PY.cm_neI, PY.cm_eqS, PY.cm_neS, PY.cm_eqL, PY.cm_neL, PY.cm_eqT, PY.cm_neT, PY.cmp_eqS, PY.cmp_neS, PY.cmp_eqI, PY.cmp_neI, PY.cmp_inT, PY.ifQ_t, PY.ifQ_f, PY.tr_b, PY.tr_i, PY.tr_s, PY.tr_n, PY.isi_ii, PY.isi_bi, PY.isi_ss, PY.isi_tt, Option.map_some, PY.atI_0, PY.atI_1, PY.atI_2, PY.atI_3, PY.atI_4, PY.atI_5, List.set_cons_zero, List.set_cons_succ, fn2, c_1, integer, g_4]
  simp
theorem name {n : Nat} {w : Str} {h : Hh} (g : GN w) : PY.run prg (n + 1) 3 [.str w] h = .ok (.bool true) h := by
  refine okR_eq ?_
  rw [r_3]
  obtain ⟨c, e, i⟩ := g.first (h := h)
  have wl : w.length ≤ sizeLine := by have := g.l1; have := sizeLine_eq; omega
  have l0 : (1 : Int) ≤ w.length := by have := g.l0; omega
  have l1 : (w.length : Int) ≤ 8 := by have := g.l1; omega
  simp only [PY.wSs, PY.wSn, PY.w_if, PY.w_and2, PY.w_or2, PY.w_ite, PY.w_chain, PY.w_opt_s, PY.w_guard, PY.w_set_n0, PY.w_set_ns, PY.w_aug, PY.aug_add, PY.aug_sub, PY.idx_l0, PY.idx_l1, PY.idx_p0, PY.idx_p1, PY.idx_p2, PY.idx_p3, PY.idx_p4, PY.idx_p5, PY.w_mkLf, PY.w_mkLt, PY.es_star, PY.ks_cons, PY.ks_nil, PY.es_nil, PY.es_v, PY.es_c, PY.es_g, PY.es_bin, PY.es_un, PY.es_cmp, PY.es_chain, PY.es_and, PY.es_or, PY.es_ite, PY.es_tup, PY.es_lst, PY.es_idx, PY.es_slc, PY.es_rev, PY.es_call, PY.es_make, PY.es_bc, PY.es_bm, PY.es_meth, PY.es_attr, PY.es_isi, PY.es_comp, PY.es_frz, PY.e_attr, PY.e_make, PY.e_isi, PY.e_bm, PY.w_rev, PY.w_frz, PY.w_comp, PY.w_csn, PY.w_csc, PY.w_i_e, PY.w_i_range, PY.rng_1, PY.rng_2, PY.slc_str, PY.toI, PY.w_i_enum, PY.w_for, PY.itm_tup, PY.itm_list, PY.itm_scr, PY.itm_str, PY.itN_tup, PY.chk_none, PY.sq_tup, PY.sq_list, PY.bin_L, PY.bin_T, PY.bc_strI, PY.bc_strS, PY.bc_tupL, PY.bc_tupT, PY.bc_max2, PY.bc_min2, PY.e_v, PY.e_c, PY.e_bin, PY.e_un, PY.e_cmp, PY.e_idx, PY.e_bc, PY.e_call, PY.e_lst, PY.e_tup, PY.e_or, PY.e_and, PY.or1, PY.and1, PY.e_slc, PY.o_none, PY.o_some, PY.s_set, PY.s_ret, PY.s_expr, PY.getV_0, PY.getV_s, PY.bin_add, PY.bin_sub, PY.bin_mul, PY.bin_fdiv, PY.bin_mod, PY.bin_pow, PY.bin_cat, PY.cmp_lt, PY.cmp_le, PY.cmp_gt, PY.cmp_ge, PY.un_not, PY.un_neg, PY.idx_tup, PY.idx_list, PY.idx_scr, PY.bc_int, PY.bc_abs, PY.bc_divmod, PY.bc_lenS, PY.bc_lenT, PY.bc_lenL, PY.bc_lenC, PY.a_tup, PY.as_nil, PY.as_cons, PY.okE, PY.bindE, PY.flE, PY.rtE, PY.nxE, PY.opt_s, PY.bind_ok, PY.fl_ok, PY.cm_lt, PY.cm_le, PY.cm_gt, PY.cm_ge, PY.cm_is, PY.cm_isn, PY.cm_in, PY.cm_nin, PY.cm_eqI, PY.cm_neI, PY.cm_eqS, PY.cm_neS, PY.cm_eqL, PY.cm_neL, PY.cm_eqT, PY.cm_neT, PY.cmp_eqS, PY.cmp_neS, PY.cmp_eqI, PY.cmp_neI, PY.cmp_inT, PY.ifQ_t, PY.ifQ_f, PY.tr_b, PY.tr_i, PY.tr_s, PY.tr_n, PY.isi_ii, PY.isi_bi, PY.isi_ss, PY.isi_tt, Option.map_some, PY.atI_0, PY.atI_1, PY.atI_2, PY.atI_3, PY.atI_4, PY.atI_5, List.set_cons_zero, List.set_cons_succ, fn3, g_7, g_5, g_6, e, decide_eq_true wl, decide_eq_true l0, decide_eq_true l1, Bool.not_true]
  simp only [ifQ, true_and]
  show ifQ (.bool (inStr ⟨#[c]⟩ LET)) _ _
  rw [i, ifQ_t]
  refine w_cmap (k := fun c => D.bool true) (fun a m => ?_) ?_
  · rw [w_cB (env' := [some (.str w), some (.str ⟨#[a]⟩)]) rfl]
    simp only [PY.wSs, PY.wSn, PY.w_if, PY.w_and2, PY.w_or2, PY.w_ite, PY.w_chain, PY.w_opt_s, PY.w_guard, PY.w_set_n0, PY.w_set_ns, PY.w_aug, PY.aug_add, PY.aug_sub, PY.idx_l0, PY.idx_l1, PY.idx_p0, PY.idx_p1, PY.idx_p2, PY.idx_p3, PY.idx_p4, PY.idx_p5, PY.w_mkLf, PY.w_mkLt, PY.es_star, PY.ks_cons, PY.ks_nil, PY.es_nil, PY.es_v, PY.es_c, PY.es_g, PY.es_bin, PY.es_un, PY.es_cmp, PY.es_chain, PY.es_and, PY.es_or, PY.es_ite, PY.es_tup, PY.es_lst, PY.es_idx, PY.es_slc, PY.es_rev, PY.es_call, PY.es_make, PY.es_bc, PY.es_bm, PY.es_meth, PY.es_attr, PY.es_isi, PY.es_comp, PY.es_frz, PY.e_attr, PY.e_make, PY.e_isi, PY.e_bm, PY.w_rev, PY.w_frz, PY.w_comp, PY.w_csn, PY.w_csc, PY.w_i_e, PY.w_i_range, PY.rng_1, PY.rng_2, PY.slc_str, PY.toI, PY.w_i_enum, PY.w_for, PY.itm_tup, PY.itm_list, PY.itm_scr, PY.itm_str, PY.itN_tup, PY.chk_none, PY.sq_tup, PY.sq_list, PY.bin_L, PY.bin_T, PY.bc_strI, PY.bc_strS, PY.bc_tupL, PY.bc_tupT, PY.bc_max2, PY.bc_min2, PY.e_v, PY.e_c, PY.e_bin, PY.e_un, PY.e_cmp, PY.e_idx, PY.e_bc, PY.e_call, PY.e_lst, PY.e_tup, PY.e_or, PY.e_and, PY.or1, PY.and1, PY.e_slc, PY.o_none, PY.o_some, PY.s_set, PY.s_ret, PY.s_expr, PY.getV_0, PY.getV_s, PY.bin_add, PY.bin_sub, PY.bin_mul, PY.bin_fdiv, PY.bin_mod, PY.bin_pow, PY.bin_cat, PY.cmp_lt, PY.cmp_le, PY.cmp_gt, PY.cmp_ge, PY.un_not, PY.un_neg, PY.idx_tup, PY.idx_list, PY.idx_scr, PY.bc_int, PY.bc_abs, PY.bc_divmod, PY.bc_lenS, PY.bc_lenT, PY.bc_lenL, PY.bc_lenC, PY.a_tup, PY.as_nil, PY.as_cons, PY.okE, PY.bindE, PY.flE, PY.rtE, PY.nxE, PY.opt_s, PY.bind_ok, PY.fl_ok, PY.cm_lt, PY.cm_le, PY.cm_gt, PY.cm_ge, PY.cm_is, PY.cm_isn, PY.cm_in, PY.cm_nin, PY.cm_eqI, PY.cm_neI, PY.cm_eqS, PY.cm_neS, PY.cm_eqL, PY.cm_neL, PY.cm_eqT, PY.cm_neT, PY.cmp_eqS, PY.cmp_neS, PY.cmp_eqI, PY.cmp_neI, PY.cmp_inT, PY.ifQ_t, PY.ifQ_f, PY.tr_b, PY.tr_i, PY.tr_s, PY.tr_n, PY.isi_ii, PY.isi_bi, PY.isi_ss, PY.isi_tt, Option.map_some, PY.atI_0, PY.atI_1, PY.atI_2, PY.atI_3, PY.atI_4, PY.atI_5, List.set_cons_zero, List.set_cons_succ, g_5, g_6]
    refine ⟨trivial, ?_⟩
    simp only [if_true]
    refine ⟨by decide +kernel, ?_⟩
    have : inStr ⟨#[a]⟩ (LET ++ DIG) = true := g.sign m
    show some (D.bool (inStr ⟨#[a]⟩ (LET ++ DIG))) = _ ∧ _
    rw [this]
    exact ⟨rfl, trivial⟩
  · refine ⟨?_, ?_⟩
    · rw [List.length_map, ← PY.len_list]; exact wl
    · rw [bc_allM (p := fun _ => true)]
      simp [okE, tr_b]
theorem word {n : Nat} {w : Str} {x : D} {ws : List Str} {h : Hh} (e : seqOf h x = some (ws.map D.str)) (hx : ∀ z, x ≠ .str z) : PY.run prg (n + 1) 4 [.str w, x] h = .ok (.bool (decide (w ∈ ws))) h := by
  refine okR_eq ?_
  rw [r_4]
  simp only [PY.wSs, PY.wSn, PY.w_if, PY.w_and2, PY.w_or2, PY.w_ite, PY.w_chain, PY.w_opt_s, PY.w_guard, PY.w_set_n0, PY.w_set_ns, PY.w_aug, PY.aug_add, PY.aug_sub, PY.idx_l0, PY.idx_l1, PY.idx_p0, PY.idx_p1, PY.idx_p2, PY.idx_p3, PY.idx_p4, PY.idx_p5, PY.w_mkLf, PY.w_mkLt, PY.es_star, PY.ks_cons, PY.ks_nil, PY.es_nil, PY.es_v, PY.es_c, PY.es_g, PY.es_bin, PY.es_un, PY.es_cmp, PY.es_chain, PY.es_and, PY.es_or, PY.es_ite, PY.es_tup, PY.es_lst, PY.es_idx, PY.es_slc, PY.es_rev, PY.es_call, PY.es_make, PY.es_bc, PY.es_bm, PY.es_meth, PY.es_attr, PY.es_isi, PY.es_comp, PY.es_frz, PY.e_attr, PY.e_make, PY.e_isi, PY.e_bm, PY.w_rev, PY.w_frz, PY.w_comp, PY.w_csn, PY.w_csc, PY.w_i_e, PY.w_i_range, PY.rng_1, PY.rng_2, PY.slc_str, PY.toI, PY.w_i_enum, PY.w_for, PY.itm_tup, PY.itm_list, PY.itm_scr, PY.itm_str, PY.itN_tup, PY.chk_none, PY.sq_tup, PY.sq_list, PY.bin_L, PY.bin_T, PY.bc_strI, PY.bc_strS, PY.bc_tupL, PY.bc_tupT, PY.bc_max2, PY.bc_min2, PY.e_v, PY.e_c, PY.e_bin, PY.e_un, PY.e_cmp, PY.e_idx, PY.e_bc, PY.e_call, PY.e_lst, PY.e_tup, PY.e_or, PY.e_and, PY.or1, PY.and1, PY.e_slc, PY.o_none, PY.o_some, PY.s_set, PY.s_ret, PY.s_expr, PY.getV_0, PY.getV_s, PY.bin_add, PY.bin_sub, PY.bin_mul, PY.bin_fdiv, PY.bin_mod, PY.bin_pow, PY.bin_cat, PY.cmp_lt, PY.cmp_le, PY.cmp_gt, PY.cmp_ge, PY.un_not, PY.un_neg, PY.idx_tup, PY.idx_list, PY.idx_scr, PY.bc_int, PY.bc_abs, PY.bc_divmod, PY.bc_lenS, PY.bc_lenT, PY.bc_lenL, PY.bc_lenC, PY.a_tup, PY.as_nil, PY.as_cons, PY.okE, PY.bindE, PY.flE, PY.rtE, PY.nxE, PY.opt_s, PY.bind_ok, PY.fl_ok, PY.cm_lt, PY.cm_le, PY.cm_gt, PY.cm_ge, PY.cm_is, PY.cm_isn, PY.cm_in, PY.cm_nin, PY.cm_eqI, PY.cm_neI, PY.cm_eqS, PY.cm_neS, PY.cm_eqL, PY.cm_neL, PY.cm_eqT, PY.cm_neT, PY.cmp_eqS, PY.cmp_neS, PY.cmp_eqI, PY.cmp_neI, PY.cmp_inT, PY.ifQ_t, PY.ifQ_f, PY.tr_b, PY.tr_i, PY.tr_s, PY.tr_n, PY.isi_ii, PY.isi_bi, PY.isi_ss, PY.isi_tt, Option.map_some, PY.atI_0, PY.atI_1, PY.atI_2, PY.atI_3, PY.atI_4, PY.atI_5, List.set_cons_zero, List.set_cons_succ, fn4, cmp_inS e hx]
  simp
theorem tuple_of {n : Nat} {xs : List D} {k : Int} {h : Hh} : PY.run prg (n + 1) 5 [.tup xs, .int k] h = .ok (.bool (decide (xs.length = k))) h := by
  refine okR_eq ?_
  rw [r_5]
  simp only [PY.wSs, PY.wSn, PY.w_if, PY.w_and2, PY.w_or2, PY.w_ite, PY.w_chain, PY.w_opt_s, PY.w_guard, PY.w_set_n0, PY.w_set_ns, PY.w_aug, PY.aug_add, PY.aug_sub, PY.idx_l0, PY.idx_l1, PY.idx_p0, PY.idx_p1, PY.idx_p2, PY.idx_p3, PY.idx_p4, PY.idx_p5, PY.w_mkLf, PY.w_mkLt, PY.es_star, PY.ks_cons, PY.ks_nil, PY.es_nil, PY.es_v, PY.es_c, PY.es_g, PY.es_bin, PY.es_un, PY.es_cmp, PY.es_chain, PY.es_and, PY.es_or, PY.es_ite, PY.es_tup, PY.es_lst, PY.es_idx, PY.es_slc, PY.es_rev, PY.es_call, PY.es_make, PY.es_bc, PY.es_bm, PY.es_meth, PY.es_attr, PY.es_isi, PY.es_comp, PY.es_frz, PY.e_attr, PY.e_make, PY.e_isi, PY.e_bm, PY.w_rev, PY.w_frz, PY.w_comp, PY.w_csn, PY.w_csc, PY.w_i_e, PY.w_i_range, PY.rng_1, PY.rng_2, PY.slc_str, PY.toI, PY.w_i_enum, PY.w_for, PY.itm_tup, PY.itm_list, PY.itm_scr, PY.itm_str, PY.itN_tup, PY.chk_none, PY.sq_tup, PY.sq_list, PY.bin_L, PY.bin_T, PY.bc_strI, PY.bc_strS, PY.bc_tupL, PY.bc_tupT, PY.bc_max2, PY.bc_min2, PY.e_v, PY.e_c, PY.e_bin, PY.e_un, PY.e_cmp, PY.e_idx, PY.e_bc, PY.e_call, PY.e_lst, PY.e_tup, PY.e_or, PY.e_and, PY.or1, PY.and1, PY.e_slc, PY.o_none, PY.o_some, PY.s_set, PY.s_ret, PY.s_expr, PY.getV_0, PY.getV_s, PY.bin_add, PY.bin_sub, PY.bin_mul, PY.bin_fdiv, PY.bin_mod, PY.bin_pow, PY.bin_cat, PY.cmp_lt, PY.cmp_le, PY.cmp_gt, PY.cmp_ge, PY.un_not, PY.un_neg, PY.idx_tup, PY.idx_list, PY.idx_scr, PY.bc_int, PY.bc_abs, PY.bc_divmod, PY.bc_lenS, PY.bc_lenT, PY.bc_lenL, PY.bc_lenC, PY.a_tup, PY.as_nil, PY.as_cons, PY.okE, PY.bindE, PY.flE, PY.rtE, PY.nxE, PY.opt_s, PY.bind_ok, PY.fl_ok, PY.cm_lt, PY.cm_le, PY.cm_gt, PY.cm_ge, PY.cm_is, PY.cm_isn, PY.cm_in, PY.cm_nin, PY.cm_eqI, PY.cm_neI, PY.cm_eqS, PY.cm_neS, PY.cm_eqL, PY.cm_neL, PY.cm_eqT, PY.cm_neT, PY.cmp_eqS, PY.cmp_neS, PY.cmp_eqI, PY.cmp_neI, PY.cmp_inT, PY.ifQ_t, PY.ifQ_f, PY.tr_b, PY.tr_i, PY.tr_s, PY.tr_n, PY.isi_ii, PY.isi_bi, PY.isi_ss, PY.isi_tt, Option.map_some, PY.atI_0, PY.atI_1, PY.atI_2, PY.atI_3, PY.atI_4, PY.atI_5, List.set_cons_zero, List.set_cons_succ, fn5]
  simp
end K12
end
section
set_option Elab.async false
set_option linter.all false
set_option maxRecDepth 100000
namespace K12
open PySem PyProof.Rows PY L12
theorem channel {n : Nat} {p : Str × Int} {x : D} {ws : List Str} {h : Hh} (g : GLane p) (e : seqOf h x = some (ws.map D.str)) (l : ws.length ≤ 10) (nw : p.1 ∉ ws) : PY.run prg (n + 4) 8 [laneD p, x] h = .ok (.bool true) h := by
  refine okR_eq ?_
  unfold laneD
  rw [r_8]
  have ni : p.1 ∉ (("pause" : Str) :: ws) := fun m => by
    rcases List.mem_cons.mp m with z | z
    · exact g.np z
    · exact nw z
  have sl := sizeLine_eq
  simp only [PY.wSs, PY.wSn, PY.w_if, PY.w_and2, PY.w_or2, PY.w_ite, PY.w_chain, PY.w_opt_s, PY.w_guard, PY.w_set_n0, PY.w_set_ns, PY.w_aug, PY.aug_add, PY.aug_sub, PY.idx_l0, PY.idx_l1, PY.idx_p0, PY.idx_p1, PY.idx_p2, PY.idx_p3, PY.idx_p4, PY.idx_p5, PY.w_mkLf, PY.w_mkLt, PY.es_star, PY.ks_cons, PY.ks_nil, PY.es_nil, PY.es_v, PY.es_c, PY.es_g, PY.es_bin, PY.es_un, PY.es_cmp, PY.es_chain, PY.es_and, PY.es_or, PY.es_ite, PY.es_tup, PY.es_lst, PY.es_idx, PY.es_slc, PY.es_rev, PY.es_call, PY.es_make, PY.es_bc, PY.es_bm, PY.es_meth, PY.es_attr, PY.es_isi, PY.es_comp, PY.es_frz, PY.e_attr, PY.e_make, PY.e_isi, PY.e_bm, PY.w_rev, PY.w_frz, PY.w_comp, PY.w_csn, PY.w_csc, PY.w_i_e, PY.w_i_range, PY.rng_1, PY.rng_2, PY.slc_str, PY.toI, PY.w_i_enum, PY.w_for, PY.itm_tup, PY.itm_list, PY.itm_scr, PY.itm_str, PY.itN_tup, PY.chk_none, PY.sq_tup, PY.sq_list, PY.bin_L, PY.bin_T, PY.bc_strI, PY.bc_strS, PY.bc_tupL, PY.bc_tupT, PY.bc_max2, PY.bc_min2, PY.e_v, PY.e_c, PY.e_bin, PY.e_un, PY.e_cmp, PY.e_idx, PY.e_bc, PY.e_call, PY.e_lst, PY.e_tup, PY.e_or, PY.e_and, PY.or1, PY.and1, PY.e_slc, PY.o_none, PY.o_some, PY.s_set, PY.s_ret, PY.s_expr, PY.getV_0, PY.getV_s, PY.bin_add, PY.bin_sub, PY.bin_mul, PY.bin_fdiv, PY.bin_mod, PY.bin_pow, PY.bin_cat, PY.cmp_lt, PY.cmp_le, PY.cmp_gt, PY.cmp_ge, PY.un_not, PY.un_neg, PY.idx_tup, PY.idx_list, PY.idx_scr, PY.bc_int, PY.bc_abs, PY.bc_divmod, PY.bc_lenS, PY.bc_lenT, PY.bc_lenL, PY.bc_lenC, PY.a_tup, PY.as_nil, PY.as_cons, PY.okE, PY.bindE, PY.flE, PY.rtE, PY.nxE, PY.opt_s, PY.bind_ok, PY.fl_ok, PY.cm_lt, PY.cm_le, PY.cm_gt, PY.cm_ge, PY.cm_is, PY.cm_isn, PY.cm_in, PY.cm_nin, PY.cm_eqI, PY.cm_neI, PY.cm_eqS, PY.cm_neS, PY.cm_eqL, PY.cm_neL, PY.cm_eqT, PY.cm_neT, PY.cmp_eqS, PY.cmp_neS, PY.cmp_eqI, PY.cmp_neI, PY.cmp_inT, PY.ifQ_t, PY.ifQ_f, PY.tr_b, PY.tr_i, PY.tr_s, PY.tr_n, PY.isi_ii, PY.isi_bi, PY.isi_ss, PY.isi_tt, Option.map_some, PY.atI_0, PY.atI_1, PY.atI_2, PY.atI_3, PY.atI_4, PY.atI_5, List.set_cons_zero, List.set_cons_succ, fn8, c_5, tuple_of, c_3, name g.n, c_2, number, g_9, e]
  rw [cmp_ninS (ws := ("pause" : Str) :: ws) (e := by simp [seqOf]) (hx := fun z q => by cases q)]
  simp only [okE, decide_eq_false ni, Bool.not_false, ifQ_t, number]
  refine ⟨?_, ?_⟩
  · simp only [List.length_cons, List.length_append, List.length_map, List.length_nil]; omega
  · have v : (-1000000 ≤ p.2 ∧ p.2 ≤ 1000000) := ⟨g.v0, g.v1⟩
    simp [v, okE, tr_b]
theorem effect {n : Nat} {p : Part} {x : D} {ws : List Str} {h : Hh} (g : GPart ws p) (e : seqOf h x = some (ws.map D.str)) (l : ws.length ≤ 10) : PY.run prg (n + 4) 9 [partD p, x] h = .ok (.bool true) h := by
  refine okR_eq ?_
  unfold partD
  rw [r_9]
  have ni : p.w ∈ (("pause" : Str) :: ws) := List.mem_cons.mpr (g.w.imp id And.left)
  have si : p.s ∈ ([("click" : Str), "with", "after"] : List Str) := by
    rcases g.s with z | z | z <;> simp [z]
  have sl := sizeLine_eq
  have d2 : (0 ≤ p.d ∧ p.d ≤ 1000000) := ⟨g.d0, g.d1⟩
  have l2 : (0 ≤ p.l ∧ p.l ≤ 1000000) := ⟨g.l0, g.l1⟩
  have a2 : (-1000000 ≤ p.a ∧ p.a ≤ 1000000) := ⟨g.a0, g.a1⟩
  have b2 : (-1000000 ≤ p.b ∧ p.b ≤ 1000000) := ⟨g.b0, g.b1⟩
  have w2 : ∀ (n : Nat) (h : Hh), PY.run prg (n + 1) 4 [.str p.s, .tup [.str "click", .str "with", .str "after"]] h = .ok (.bool true) h := fun n h => by
    rw [word (ws := [("click" : Str), "with", "after"]) rfl (fun z q => by cases q), decide_eq_true si]
  have w1 : ∀ (n : Nat) (h : Hh), PY.run prg (n + 1) 4 [.str p.w, .list (.str "pause" :: (ws.map D.str ++ []))] h = .ok (.bool true) h := fun n h => by
    rw [word (ws := ("pause" : Str) :: ws) (by simp [seqOf]) (fun z q => by cases q), decide_eq_true ni]
  simp only [PY.wSs, PY.wSn, PY.w_if, PY.w_and2, PY.w_or2, PY.w_ite, PY.w_chain, PY.w_opt_s, PY.w_guard, PY.w_set_n0, PY.w_set_ns, PY.w_aug, PY.aug_add, PY.aug_sub, PY.idx_l0, PY.idx_l1, PY.idx_p0, PY.idx_p1, PY.idx_p2, PY.idx_p3, PY.idx_p4, PY.idx_p5, PY.w_mkLf, PY.w_mkLt, PY.es_star, PY.ks_cons, PY.ks_nil, PY.es_nil, PY.es_v, PY.es_c, PY.es_g, PY.es_bin, PY.es_un, PY.es_cmp, PY.es_chain, PY.es_and, PY.es_or, PY.es_ite, PY.es_tup, PY.es_lst, PY.es_idx, PY.es_slc, PY.es_rev, PY.es_call, PY.es_make, PY.es_bc, PY.es_bm, PY.es_meth, PY.es_attr, PY.es_isi, PY.es_comp, PY.es_frz, PY.e_attr, PY.e_make, PY.e_isi, PY.e_bm, PY.w_rev, PY.w_frz, PY.w_comp, PY.w_csn, PY.w_csc, PY.w_i_e, PY.w_i_range, PY.rng_1, PY.rng_2, PY.slc_str, PY.toI, PY.w_i_enum, PY.w_for, PY.itm_tup, PY.itm_list, PY.itm_scr, PY.itm_str, PY.itN_tup, PY.chk_none, PY.sq_tup, PY.sq_list, PY.bin_L, PY.bin_T, PY.bc_strI, PY.bc_strS, PY.bc_tupL, PY.bc_tupT, PY.bc_max2, PY.bc_min2, PY.e_v, PY.e_c, PY.e_bin, PY.e_un, PY.e_cmp, PY.e_idx, PY.e_bc, PY.e_call, PY.e_lst, PY.e_tup, PY.e_or, PY.e_and, PY.or1, PY.and1, PY.e_slc, PY.o_none, PY.o_some, PY.s_set, PY.s_ret, PY.s_expr, PY.getV_0, PY.getV_s, PY.bin_add, PY.bin_sub, PY.bin_mul, PY.bin_fdiv, PY.bin_mod, PY.bin_pow, PY.bin_cat, PY.cmp_lt, PY.cmp_le, PY.cmp_gt, PY.cmp_ge, PY.un_not, PY.un_neg, PY.idx_tup, PY.idx_list, PY.idx_scr, PY.bc_int, PY.bc_abs, PY.bc_divmod, PY.bc_lenS, PY.bc_lenT, PY.bc_lenL, PY.bc_lenC, PY.a_tup, PY.as_nil, PY.as_cons, PY.okE, PY.bindE, PY.flE, PY.rtE, PY.nxE, PY.opt_s, PY.bind_ok, PY.fl_ok, PY.cm_lt, PY.cm_le, PY.cm_gt, PY.cm_ge, PY.cm_is, PY.cm_isn, PY.cm_in, PY.cm_nin, PY.cm_eqI, PY.cm_neI, PY.cm_eqS, PY.cm_neS, PY.cm_eqL, PY.cm_neL, PY.cm_eqT, PY.cm_neT, PY.cmp_eqS, PY.cmp_neS, PY.cmp_eqI, PY.cmp_neI, PY.cmp_inT, PY.ifQ_t, PY.ifQ_f, PY.tr_b, PY.tr_i, PY.tr_s, PY.tr_n, PY.isi_ii, PY.isi_bi, PY.isi_ss, PY.isi_tt, Option.map_some, PY.atI_0, PY.atI_1, PY.atI_2, PY.atI_3, PY.atI_4, PY.atI_5, List.set_cons_zero, List.set_cons_succ, fn9, c_5, tuple_of, g_12, g_9, g_11, g_3, c_4, c_1, c_2, number, integer, e, decide_eq_true d2, decide_eq_true l2, decide_eq_true a2, decide_eq_true b2, Bool.not_true, w1, w2]
  by_cases z : p.w = "pause"
  · obtain ⟨z1, z2⟩ := g.z z
    simp [z, z1, z2, ifQ]
    omega
  · simp [z, ifQ]
    omega
theorem channels {n : Nat} {ls : List (Str × Int)} {h : Hh} (g : GLanes ls) : PY.run prg (n + 5) 10 [.tup (ls.map laneD)] h = .ok .none h := by
  refine okR_eq ?_
  rw [r_10]
  have l0 : ¬ (((ls.map laneD).length : Int) = 0) := by have := g.l0; rw [List.length_map]; omega
  have sl := sizeLine_eq
  simp only [PY.wSs, PY.wSn, PY.w_if, PY.w_and2, PY.w_or2, PY.w_ite, PY.w_chain, PY.w_opt_s, PY.w_guard, PY.w_set_n0, PY.w_set_ns, PY.w_aug, PY.aug_add, PY.aug_sub, PY.idx_l0, PY.idx_l1, PY.idx_p0, PY.idx_p1, PY.idx_p2, PY.idx_p3, PY.idx_p4, PY.idx_p5, PY.w_mkLf, PY.w_mkLt, PY.es_star, PY.ks_cons, PY.ks_nil, PY.es_nil, PY.es_v, PY.es_c, PY.es_g, PY.es_bin, PY.es_un, PY.es_cmp, PY.es_chain, PY.es_and, PY.es_or, PY.es_ite, PY.es_tup, PY.es_lst, PY.es_idx, PY.es_slc, PY.es_rev, PY.es_call, PY.es_make, PY.es_bc, PY.es_bm, PY.es_meth, PY.es_attr, PY.es_isi, PY.es_comp, PY.es_frz, PY.e_attr, PY.e_make, PY.e_isi, PY.e_bm, PY.w_rev, PY.w_frz, PY.w_comp, PY.w_csn, PY.w_csc, PY.w_i_e, PY.w_i_range, PY.rng_1, PY.rng_2, PY.slc_str, PY.toI, PY.w_i_enum, PY.w_for, PY.itm_tup, PY.itm_list, PY.itm_scr, PY.itm_str, PY.itN_tup, PY.chk_none, PY.sq_tup, PY.sq_list, PY.bin_L, PY.bin_T, PY.bc_strI, PY.bc_strS, PY.bc_tupL, PY.bc_tupT, PY.bc_max2, PY.bc_min2, PY.e_v, PY.e_c, PY.e_bin, PY.e_un, PY.e_cmp, PY.e_idx, PY.e_bc, PY.e_call, PY.e_lst, PY.e_tup, PY.e_or, PY.e_and, PY.or1, PY.and1, PY.e_slc, PY.o_none, PY.o_some, PY.s_set, PY.s_ret, PY.s_expr, PY.getV_0, PY.getV_s, PY.bin_add, PY.bin_sub, PY.bin_mul, PY.bin_fdiv, PY.bin_mod, PY.bin_pow, PY.bin_cat, PY.cmp_lt, PY.cmp_le, PY.cmp_gt, PY.cmp_ge, PY.un_not, PY.un_neg, PY.idx_tup, PY.idx_list, PY.idx_scr, PY.bc_int, PY.bc_abs, PY.bc_divmod, PY.bc_lenS, PY.bc_lenT, PY.bc_lenL, PY.bc_lenC, PY.a_tup, PY.as_nil, PY.as_cons, PY.okE, PY.bindE, PY.flE, PY.rtE, PY.nxE, PY.opt_s, PY.bind_ok, PY.fl_ok, PY.cm_lt, PY.cm_le, PY.cm_gt, PY.cm_ge, PY.cm_is, PY.cm_isn, PY.cm_in, PY.cm_nin, PY.cm_eqI, PY.cm_neI, PY.cm_eqS, PY.cm_neS, PY.cm_eqL, PY.cm_neL, PY.cm_eqT, PY.cm_neT, PY.cmp_eqS, PY.cmp_neS, PY.cmp_eqI, PY.cmp_neI, PY.cmp_inT, PY.ifQ_t, PY.ifQ_f, PY.tr_b, PY.tr_i, PY.tr_s, PY.tr_n, PY.isi_ii, PY.isi_bi, PY.isi_ss, PY.isi_tt, Option.map_some, PY.atI_0, PY.atI_1, PY.atI_2, PY.atI_3, PY.atI_4, PY.atI_5, List.set_cons_zero, List.set_cons_succ, fn10, decide_eq_false l0, Bool.not_true]
  refine ⟨by simp, ?_⟩
  refine forM_enum (I := fun k r env hh => ∃ dn : List (Str × Int), ls = dn ++ r ∧ (dn.length : Int) = k ∧ hh = h ++ [.lst ((dn.map (·.1)).map D.str)] ∧ ∃ o2 o3, env = [some (.tup (ls.map laneD)), some (.ref h.length), o2, o3]) (fun _ _ _ _ _ => rfl) ?_ ?_ ⟨[], rfl, rfl, rfl, _, _, rfl⟩
  · rintro k a r env hh ⟨dn, el, rfl, rfl, o2, o3, rfl⟩
    have ll : ls.length = dn.length + (r.length + 1) := by rw [el]; simp
    have l3 := g.l1
    have ga : GLane a := g.all a (by rw [el]; simp)
    have nw : a.1 ∉ dn.map (·.1) := by
      have nd := g.nd
      rw [el, List.map_append, List.nodup_append] at nd
      intro m
      exact nd.2.2 a.1 m a.1 (by simp) rfl
    show wF (evSs _ _ _ [some (.tup (ls.map laneD)), some (.ref h.length), some (.int (dn.length : Int)), some (laneD a)] _) _ _
    have k3 : ¬ ((dn.length : Int) = 3) := by omega
    have sq : seqOf (h ++ [.lst ((dn.map (·.1)).map D.str)]) (.ref h.length) = some ((dn.map (·.1)).map D.str) := by simp [seqOf]
    simp only [PY.wSs, PY.wSn, PY.w_if, PY.w_and2, PY.w_or2, PY.w_ite, PY.w_chain, PY.w_opt_s, PY.w_guard, PY.w_set_n0, PY.w_set_ns, PY.w_aug, PY.aug_add, PY.aug_sub, PY.idx_l0, PY.idx_l1, PY.idx_p0, PY.idx_p1, PY.idx_p2, PY.idx_p3, PY.idx_p4, PY.idx_p5, PY.w_mkLf, PY.w_mkLt, PY.es_star, PY.ks_cons, PY.ks_nil, PY.es_nil, PY.es_v, PY.es_c, PY.es_g, PY.es_bin, PY.es_un, PY.es_cmp, PY.es_chain, PY.es_and, PY.es_or, PY.es_ite, PY.es_tup, PY.es_lst, PY.es_idx, PY.es_slc, PY.es_rev, PY.es_call, PY.es_make, PY.es_bc, PY.es_bm, PY.es_meth, PY.es_attr, PY.es_isi, PY.es_comp, PY.es_frz, PY.e_attr, PY.e_make, PY.e_isi, PY.e_bm, PY.w_rev, PY.w_frz, PY.w_comp, PY.w_csn, PY.w_csc, PY.w_i_e, PY.w_i_range, PY.rng_1, PY.rng_2, PY.slc_str, PY.toI, PY.w_i_enum, PY.w_for, PY.itm_tup, PY.itm_list, PY.itm_scr, PY.itm_str, PY.itN_tup, PY.chk_none, PY.sq_tup, PY.sq_list, PY.bin_L, PY.bin_T, PY.bc_strI, PY.bc_strS, PY.bc_tupL, PY.bc_tupT, PY.bc_max2, PY.bc_min2, PY.e_v, PY.e_c, PY.e_bin, PY.e_un, PY.e_cmp, PY.e_idx, PY.e_bc, PY.e_call, PY.e_lst, PY.e_tup, PY.e_or, PY.e_and, PY.or1, PY.and1, PY.e_slc, PY.o_none, PY.o_some, PY.s_set, PY.s_ret, PY.s_expr, PY.getV_0, PY.getV_s, PY.bin_add, PY.bin_sub, PY.bin_mul, PY.bin_fdiv, PY.bin_mod, PY.bin_pow, PY.bin_cat, PY.cmp_lt, PY.cmp_le, PY.cmp_gt, PY.cmp_ge, PY.un_not, PY.un_neg, PY.idx_tup, PY.idx_list, PY.idx_scr, PY.bc_int, PY.bc_abs, PY.bc_divmod, PY.bc_lenS, PY.bc_lenT, PY.bc_lenL, PY.bc_lenC, PY.a_tup, PY.as_nil, PY.as_cons, PY.okE, PY.bindE, PY.flE, PY.rtE, PY.nxE, PY.opt_s, PY.bind_ok, PY.fl_ok, PY.cm_lt, PY.cm_le, PY.cm_gt, PY.cm_ge, PY.cm_is, PY.cm_isn, PY.cm_in, PY.cm_nin, PY.cm_eqI, PY.cm_neI, PY.cm_eqS, PY.cm_neS, PY.cm_eqL, PY.cm_neL, PY.cm_eqT, PY.cm_neT, PY.cmp_eqS, PY.cmp_neS, PY.cmp_eqI, PY.cmp_neI, PY.cmp_inT, PY.ifQ_t, PY.ifQ_f, PY.tr_b, PY.tr_i, PY.tr_s, PY.tr_n, PY.isi_ii, PY.isi_bi, PY.isi_ss, PY.isi_tt, Option.map_some, PY.atI_0, PY.atI_1, PY.atI_2, PY.atI_3, PY.atI_4, PY.atI_5, List.set_cons_zero, List.set_cons_succ, g_0, decide_eq_false k3, c_8, channel ga sq (by simp; omega) nw, Bool.not_true, recv, bmM, last_get rfl, last_set rfl]
    refine ⟨trivial, ?_, dn ++ [a], by rw [el]; simp, by simp, by simp, _, _, rfl⟩
    rw [List.length_map, List.length_map]
    exact decide_eq_true (by omega)
  · rintro k env hh ⟨dn, el, rfl, rfl, o2, o3, rfl⟩
    show okR (trim _ _ (.ok .none (h ++ _))) _
    rw [tr_app rfl]
    exact ⟨rfl, rfl⟩
theorem effects {n : Nat} {ps : List Part} {x : D} {ws : List Str} {h : Hh} (g : GParts ws ps) (e : seqOf h x = some (ws.map D.str)) (l : ws.length ≤ 10) : PY.run prg (n + 5) 11 [.tup (ps.map partD), x] h = .ok .none h := by
  refine okR_eq ?_
  rw [r_11]
  simp only [PY.wSs, PY.wSn, PY.w_if, PY.w_and2, PY.w_or2, PY.w_ite, PY.w_chain, PY.w_opt_s, PY.w_guard, PY.w_set_n0, PY.w_set_ns, PY.w_aug, PY.aug_add, PY.aug_sub, PY.idx_l0, PY.idx_l1, PY.idx_p0, PY.idx_p1, PY.idx_p2, PY.idx_p3, PY.idx_p4, PY.idx_p5, PY.w_mkLf, PY.w_mkLt, PY.es_star, PY.ks_cons, PY.ks_nil, PY.es_nil, PY.es_v, PY.es_c, PY.es_g, PY.es_bin, PY.es_un, PY.es_cmp, PY.es_chain, PY.es_and, PY.es_or, PY.es_ite, PY.es_tup, PY.es_lst, PY.es_idx, PY.es_slc, PY.es_rev, PY.es_call, PY.es_make, PY.es_bc, PY.es_bm, PY.es_meth, PY.es_attr, PY.es_isi, PY.es_comp, PY.es_frz, PY.e_attr, PY.e_make, PY.e_isi, PY.e_bm, PY.w_rev, PY.w_frz, PY.w_comp, PY.w_csn, PY.w_csc, PY.w_i_e, PY.w_i_range, PY.rng_1, PY.rng_2, PY.slc_str, PY.toI, PY.w_i_enum, PY.w_for, PY.itm_tup, PY.itm_list, PY.itm_scr, PY.itm_str, PY.itN_tup, PY.chk_none, PY.sq_tup, PY.sq_list, PY.bin_L, PY.bin_T, PY.bc_strI, PY.bc_strS, PY.bc_tupL, PY.bc_tupT, PY.bc_max2, PY.bc_min2, PY.e_v, PY.e_c, PY.e_bin, PY.e_un, PY.e_cmp, PY.e_idx, PY.e_bc, PY.e_call, PY.e_lst, PY.e_tup, PY.e_or, PY.e_and, PY.or1, PY.and1, PY.e_slc, PY.o_none, PY.o_some, PY.s_set, PY.s_ret, PY.s_expr, PY.getV_0, PY.getV_s, PY.bin_add, PY.bin_sub, PY.bin_mul, PY.bin_fdiv, PY.bin_mod, PY.bin_pow, PY.bin_cat, PY.cmp_lt, PY.cmp_le, PY.cmp_gt, PY.cmp_ge, PY.un_not, PY.un_neg, PY.idx_tup, PY.idx_list, PY.idx_scr, PY.bc_int, PY.bc_abs, PY.bc_divmod, PY.bc_lenS, PY.bc_lenT, PY.bc_lenL, PY.bc_lenC, PY.a_tup, PY.as_nil, PY.as_cons, PY.okE, PY.bindE, PY.flE, PY.rtE, PY.nxE, PY.opt_s, PY.bind_ok, PY.fl_ok, PY.cm_lt, PY.cm_le, PY.cm_gt, PY.cm_ge, PY.cm_is, PY.cm_isn, PY.cm_in, PY.cm_nin, PY.cm_eqI, PY.cm_neI, PY.cm_eqS, PY.cm_neS, PY.cm_eqL, PY.cm_neL, PY.cm_eqT, PY.cm_neT, PY.cmp_eqS, PY.cmp_neS, PY.cmp_eqI, PY.cmp_neI, PY.cmp_inT, PY.ifQ_t, PY.ifQ_f, PY.tr_b, PY.tr_i, PY.tr_s, PY.tr_n, PY.isi_ii, PY.isi_bi, PY.isi_ss, PY.isi_tt, Option.map_some, PY.atI_0, PY.atI_1, PY.atI_2, PY.atI_3, PY.atI_4, PY.atI_5, List.set_cons_zero, List.set_cons_succ, fn11, Bool.not_true]
  refine forM_enum (I := fun k r env hh => ∃ dn : List Part, ps = dn ++ r ∧ (dn.length : Int) = k ∧ hh = h ∧ ∃ o2 o3, env = [some (.tup (ps.map partD)), some x, some (.int ((dn.filter Part.click).length : Int)), o2, o3]) (fun _ _ _ _ _ => rfl) ?_ ?_ ⟨[], rfl, rfl, rfl, _, _, rfl⟩
  · rintro k a r env hh ⟨dn, el, rfl, rfl, o2, o3, rfl⟩
    have ll : ps.length = dn.length + (r.length + 1) := by rw [el]; simp
    have l3 := g.l1
    have ga : GPart ws a := g.all a (by rw [el]; simp)
    show wF (evSs _ _ _ [some (.tup (ps.map partD)), some x, some (.int ((dn.filter Part.click).length : Int)), some (.int (dn.length : Int)), some (partD a)] _) _ _
    have k3 : ¬ ((dn.length : Int) = 8) := by omega
    have cl := g.c
    rw [el, List.filter_append, List.length_append, List.filter_cons] at cl
    simp only [PY.wSs, PY.wSn, PY.w_if, PY.w_and2, PY.w_or2, PY.w_ite, PY.w_chain, PY.w_opt_s, PY.w_guard, PY.w_set_n0, PY.w_set_ns, PY.w_aug, PY.aug_add, PY.aug_sub, PY.idx_l0, PY.idx_l1, PY.idx_p0, PY.idx_p1, PY.idx_p2, PY.idx_p3, PY.idx_p4, PY.idx_p5, PY.w_mkLf, PY.w_mkLt, PY.es_star, PY.ks_cons, PY.ks_nil, PY.es_nil, PY.es_v, PY.es_c, PY.es_g, PY.es_bin, PY.es_un, PY.es_cmp, PY.es_chain, PY.es_and, PY.es_or, PY.es_ite, PY.es_tup, PY.es_lst, PY.es_idx, PY.es_slc, PY.es_rev, PY.es_call, PY.es_make, PY.es_bc, PY.es_bm, PY.es_meth, PY.es_attr, PY.es_isi, PY.es_comp, PY.es_frz, PY.e_attr, PY.e_make, PY.e_isi, PY.e_bm, PY.w_rev, PY.w_frz, PY.w_comp, PY.w_csn, PY.w_csc, PY.w_i_e, PY.w_i_range, PY.rng_1, PY.rng_2, PY.slc_str, PY.toI, PY.w_i_enum, PY.w_for, PY.itm_tup, PY.itm_list, PY.itm_scr, PY.itm_str, PY.itN_tup, PY.chk_none, PY.sq_tup, PY.sq_list, PY.bin_L, PY.bin_T, PY.bc_strI, PY.bc_strS, PY.bc_tupL, PY.bc_tupT, PY.bc_max2, PY.bc_min2, PY.e_v, PY.e_c, PY.e_bin, PY.e_un, PY.e_cmp, PY.e_idx, PY.e_bc, PY.e_call, PY.e_lst, PY.e_tup, PY.e_or, PY.e_and, PY.or1, PY.and1, PY.e_slc, PY.o_none, PY.o_some, PY.s_set, PY.s_ret, PY.s_expr, PY.getV_0, PY.getV_s, PY.bin_add, PY.bin_sub, PY.bin_mul, PY.bin_fdiv, PY.bin_mod, PY.bin_pow, PY.bin_cat, PY.cmp_lt, PY.cmp_le, PY.cmp_gt, PY.cmp_ge, PY.un_not, PY.un_neg, PY.idx_tup, PY.idx_list, PY.idx_scr, PY.bc_int, PY.bc_abs, PY.bc_divmod, PY.bc_lenS, PY.bc_lenT, PY.bc_lenL, PY.bc_lenC, PY.a_tup, PY.as_nil, PY.as_cons, PY.okE, PY.bindE, PY.flE, PY.rtE, PY.nxE, PY.opt_s, PY.bind_ok, PY.fl_ok, PY.cm_lt, PY.cm_le, PY.cm_gt, PY.cm_ge, PY.cm_is, PY.cm_isn, PY.cm_in, PY.cm_nin, PY.cm_eqI, PY.cm_neI, PY.cm_eqS, PY.cm_neS, PY.cm_eqL, PY.cm_neL, PY.cm_eqT, PY.cm_neT, PY.cmp_eqS, PY.cmp_neS, PY.cmp_eqI, PY.cmp_neI, PY.cmp_inT, PY.ifQ_t, PY.ifQ_f, PY.tr_b, PY.tr_i, PY.tr_s, PY.tr_n, PY.isi_ii, PY.isi_bi, PY.isi_ss, PY.isi_tt, Option.map_some, PY.atI_0, PY.atI_1, PY.atI_2, PY.atI_3, PY.atI_4, PY.atI_5, List.set_cons_zero, List.set_cons_succ, g_1, g_2, decide_eq_false k3, c_9, effect ga e l, Bool.not_true]
    by_cases z : a.s = "click"
    · have hc : a.click = true := decide_eq_true z
      rw [hc, if_pos rfl, List.length_cons] at cl
      have hn : ¬ ((3 : Int) < ((dn.filter Part.click).length : Int) + 1) := by omega
      simp only [PY.wSs, PY.wSn, PY.w_if, PY.w_and2, PY.w_or2, PY.w_ite, PY.w_chain, PY.w_opt_s, PY.w_guard, PY.w_set_n0, PY.w_set_ns, PY.w_aug, PY.aug_add, PY.aug_sub, PY.idx_l0, PY.idx_l1, PY.idx_p0, PY.idx_p1, PY.idx_p2, PY.idx_p3, PY.idx_p4, PY.idx_p5, PY.w_mkLf, PY.w_mkLt, PY.es_star, PY.ks_cons, PY.ks_nil, PY.es_nil, PY.es_v, PY.es_c, PY.es_g, PY.es_bin, PY.es_un, PY.es_cmp, PY.es_chain, PY.es_and, PY.es_or, PY.es_ite, PY.es_tup, PY.es_lst, PY.es_idx, PY.es_slc, PY.es_rev, PY.es_call, PY.es_make, PY.es_bc, PY.es_bm, PY.es_meth, PY.es_attr, PY.es_isi, PY.es_comp, PY.es_frz, PY.e_attr, PY.e_make, PY.e_isi, PY.e_bm, PY.w_rev, PY.w_frz, PY.w_comp, PY.w_csn, PY.w_csc, PY.w_i_e, PY.w_i_range, PY.rng_1, PY.rng_2, PY.slc_str, PY.toI, PY.w_i_enum, PY.w_for, PY.itm_tup, PY.itm_list, PY.itm_scr, PY.itm_str, PY.itN_tup, PY.chk_none, PY.sq_tup, PY.sq_list, PY.bin_L, PY.bin_T, PY.bc_strI, PY.bc_strS, PY.bc_tupL, PY.bc_tupT, PY.bc_max2, PY.bc_min2, PY.e_v, PY.e_c, PY.e_bin, PY.e_un, PY.e_cmp, PY.e_idx, PY.e_bc, PY.e_call, PY.e_lst, PY.e_tup, PY.e_or, PY.e_and, PY.or1, PY.and1, PY.e_slc, PY.o_none, PY.o_some, PY.s_set, PY.s_ret, PY.s_expr, PY.getV_0, PY.getV_s, PY.bin_add, PY.bin_sub, PY.bin_mul, PY.bin_fdiv, PY.bin_mod, PY.bin_pow, PY.bin_cat, PY.cmp_lt, PY.cmp_le, PY.cmp_gt, PY.cmp_ge, PY.un_not, PY.un_neg, PY.idx_tup, PY.idx_list, PY.idx_scr, PY.bc_int, PY.bc_abs, PY.bc_divmod, PY.bc_lenS, PY.bc_lenT, PY.bc_lenL, PY.bc_lenC, PY.a_tup, PY.as_nil, PY.as_cons, PY.okE, PY.bindE, PY.flE, PY.rtE, PY.nxE, PY.opt_s, PY.bind_ok, PY.fl_ok, PY.cm_lt, PY.cm_le, PY.cm_gt, PY.cm_ge, PY.cm_is, PY.cm_isn, PY.cm_in, PY.cm_nin, PY.cm_eqI, PY.cm_neI, PY.cm_eqS, PY.cm_neS, PY.cm_eqL, PY.cm_neL, PY.cm_eqT, PY.cm_neT, PY.cmp_eqS, PY.cmp_neS, PY.cmp_eqI, PY.cmp_neI, PY.cmp_inT, PY.ifQ_t, PY.ifQ_f, PY.tr_b, PY.tr_i, PY.tr_s, PY.tr_n, PY.isi_ii, PY.isi_bi, PY.isi_ss, PY.isi_tt, Option.map_some, PY.atI_0, PY.atI_1, PY.atI_2, PY.atI_3, PY.atI_4, PY.atI_5, List.set_cons_zero, List.set_cons_succ, decide_eq_true z, decide_eq_false hn]
      refine ⟨dn ++ [a], by rw [el]; simp, by simp, trivial, some (.int dn.length), some (partD a), ?_⟩
      rw [List.filter_append, List.filter_cons, hc, if_pos rfl]
      simp
    · have hc : a.click = false := decide_eq_false z
      rw [hc, if_neg Bool.false_ne_true] at cl
      have hn : ¬ ((3 : Int) < ((dn.filter Part.click).length : Int) + 0) := by omega
      simp only [PY.wSs, PY.wSn, PY.w_if, PY.w_and2, PY.w_or2, PY.w_ite, PY.w_chain, PY.w_opt_s, PY.w_guard, PY.w_set_n0, PY.w_set_ns, PY.w_aug, PY.aug_add, PY.aug_sub, PY.idx_l0, PY.idx_l1, PY.idx_p0, PY.idx_p1, PY.idx_p2, PY.idx_p3, PY.idx_p4, PY.idx_p5, PY.w_mkLf, PY.w_mkLt, PY.es_star, PY.ks_cons, PY.ks_nil, PY.es_nil, PY.es_v, PY.es_c, PY.es_g, PY.es_bin, PY.es_un, PY.es_cmp, PY.es_chain, PY.es_and, PY.es_or, PY.es_ite, PY.es_tup, PY.es_lst, PY.es_idx, PY.es_slc, PY.es_rev, PY.es_call, PY.es_make, PY.es_bc, PY.es_bm, PY.es_meth, PY.es_attr, PY.es_isi, PY.es_comp, PY.es_frz, PY.e_attr, PY.e_make, PY.e_isi, PY.e_bm, PY.w_rev, PY.w_frz, PY.w_comp, PY.w_csn, PY.w_csc, PY.w_i_e, PY.w_i_range, PY.rng_1, PY.rng_2, PY.slc_str, PY.toI, PY.w_i_enum, PY.w_for, PY.itm_tup, PY.itm_list, PY.itm_scr, PY.itm_str, PY.itN_tup, PY.chk_none, PY.sq_tup, PY.sq_list, PY.bin_L, PY.bin_T, PY.bc_strI, PY.bc_strS, PY.bc_tupL, PY.bc_tupT, PY.bc_max2, PY.bc_min2, PY.e_v, PY.e_c, PY.e_bin, PY.e_un, PY.e_cmp, PY.e_idx, PY.e_bc, PY.e_call, PY.e_lst, PY.e_tup, PY.e_or, PY.e_and, PY.or1, PY.and1, PY.e_slc, PY.o_none, PY.o_some, PY.s_set, PY.s_ret, PY.s_expr, PY.getV_0, PY.getV_s, PY.bin_add, PY.bin_sub, PY.bin_mul, PY.bin_fdiv, PY.bin_mod, PY.bin_pow, PY.bin_cat, PY.cmp_lt, PY.cmp_le, PY.cmp_gt, PY.cmp_ge, PY.un_not, PY.un_neg, PY.idx_tup, PY.idx_list, PY.idx_scr, PY.bc_int, PY.bc_abs, PY.bc_divmod, PY.bc_lenS, PY.bc_lenT, PY.bc_lenL, PY.bc_lenC, PY.a_tup, PY.as_nil, PY.as_cons, PY.okE, PY.bindE, PY.flE, PY.rtE, PY.nxE, PY.opt_s, PY.bind_ok, PY.fl_ok, PY.cm_lt, PY.cm_le, PY.cm_gt, PY.cm_ge, PY.cm_is, PY.cm_isn, PY.cm_in, PY.cm_nin, PY.cm_eqI, PY.cm_neI, PY.cm_eqS, PY.cm_neS, PY.cm_eqL, PY.cm_neL, PY.cm_eqT, PY.cm_neT, PY.cmp_eqS, PY.cmp_neS, PY.cmp_eqI, PY.cmp_neI, PY.cmp_inT, PY.ifQ_t, PY.ifQ_f, PY.tr_b, PY.tr_i, PY.tr_s, PY.tr_n, PY.isi_ii, PY.isi_bi, PY.isi_ss, PY.isi_tt, Option.map_some, PY.atI_0, PY.atI_1, PY.atI_2, PY.atI_3, PY.atI_4, PY.atI_5, List.set_cons_zero, List.set_cons_succ, decide_eq_false z, decide_eq_false hn]
      refine ⟨dn ++ [a], by rw [el]; simp, by simp, trivial, some (.int dn.length), some (partD a), ?_⟩
      rw [List.filter_append, List.filter_cons, hc, if_neg Bool.false_ne_true]
      simp
  · rintro k env hh ⟨dn, el, rfl, rfl, o2, o3, rfl⟩
    show okR (trim _ _ (.ok .none _)) _
    rw [tr_n]
    exact ⟨rfl, rfl⟩
/-- a slide's value -/
def sld (m : Str) (ls : List (Str × Int)) (ps : List Part) : D := .inst 0 [.str m, .tup (ls.map laneD), .tup (ps.map partD)]
theorem init {n : Nat} {m : Str} {ls : List (Str × Int)} {ps : List Part} {h : Hh} {Q : D → Hh → Prop} (hm : m = "run" ∨ m = "finish") (g : GLanes ls) (gp : GParts (ls.map (·.1)) ps) (q : Q .none (h ++ [.ins 0 [.str m, .tup (ls.map laneD), .tup (ps.map partD)]])) :
    okR (PY.run prg (n + 6) 36 [.ref h.length, .str m, .tup (ls.map laneD), .tup (ps.map partD)] (h ++ [.ins 0 []])) Q := by
  rw [r_36]
  have mm : m ∈ ([("run" : Str), "finish"] : List Str) := by rcases hm with z | z <;> simp [z]
  have w2 : ∀ (n : Nat) (h : Hh), PY.run prg (n + 1) 4 [.str m, .tup [.str "run", .str "finish"]] h = .ok (.bool true) h := fun n h => by
    rw [word (ws := [("run" : Str), "finish"]) rfl (fun z q => by cases q), decide_eq_true mm]
  have sl := sizeLine_eq
  have l3 := g.l1
  simp only [PY.wSs, PY.wSn, PY.w_if, PY.w_and2, PY.w_or2, PY.w_ite, PY.w_chain, PY.w_opt_s, PY.w_guard, PY.w_set_n0, PY.w_set_ns, PY.w_aug, PY.aug_add, PY.aug_sub, PY.idx_l0, PY.idx_l1, PY.idx_p0, PY.idx_p1, PY.idx_p2, PY.idx_p3, PY.idx_p4, PY.idx_p5, PY.w_mkLf, PY.w_mkLt, PY.es_star, PY.ks_cons, PY.ks_nil, PY.es_nil, PY.es_v, PY.es_c, PY.es_g, PY.es_bin, PY.es_un, PY.es_cmp, PY.es_chain, PY.es_and, PY.es_or, PY.es_ite, PY.es_tup, PY.es_lst, PY.es_idx, PY.es_slc, PY.es_rev, PY.es_call, PY.es_make, PY.es_bc, PY.es_bm, PY.es_meth, PY.es_attr, PY.es_isi, PY.es_comp, PY.es_frz, PY.e_attr, PY.e_make, PY.e_isi, PY.e_bm, PY.w_rev, PY.w_frz, PY.w_comp, PY.w_csn, PY.w_csc, PY.w_i_e, PY.w_i_range, PY.rng_1, PY.rng_2, PY.slc_str, PY.toI, PY.w_i_enum, PY.w_for, PY.itm_tup, PY.itm_list, PY.itm_scr, PY.itm_str, PY.itN_tup, PY.chk_none, PY.sq_tup, PY.sq_list, PY.bin_L, PY.bin_T, PY.bc_strI, PY.bc_strS, PY.bc_tupL, PY.bc_tupT, PY.bc_max2, PY.bc_min2, PY.e_v, PY.e_c, PY.e_bin, PY.e_un, PY.e_cmp, PY.e_idx, PY.e_bc, PY.e_call, PY.e_lst, PY.e_tup, PY.e_or, PY.e_and, PY.or1, PY.and1, PY.e_slc, PY.o_none, PY.o_some, PY.s_set, PY.s_ret, PY.s_expr, PY.getV_0, PY.getV_s, PY.bin_add, PY.bin_sub, PY.bin_mul, PY.bin_fdiv, PY.bin_mod, PY.bin_pow, PY.bin_cat, PY.cmp_lt, PY.cmp_le, PY.cmp_gt, PY.cmp_ge, PY.un_not, PY.un_neg, PY.idx_tup, PY.idx_list, PY.idx_scr, PY.bc_int, PY.bc_abs, PY.bc_divmod, PY.bc_lenS, PY.bc_lenT, PY.bc_lenL, PY.bc_lenC, PY.a_tup, PY.as_nil, PY.as_cons, PY.okE, PY.bindE, PY.flE, PY.rtE, PY.nxE, PY.opt_s, PY.bind_ok, PY.fl_ok, PY.cm_lt, PY.cm_le, PY.cm_gt, PY.cm_ge, PY.cm_is, PY.cm_isn, PY.cm_in, PY.cm_nin, PY.cm_eqI, PY.cm_neI, PY.cm_eqS, PY.cm_neS, PY.cm_eqL, PY.cm_neL, PY.cm_eqT, PY.cm_neT, PY.cmp_eqS, PY.cmp_neS, PY.cmp_eqI, PY.cmp_neI, PY.cmp_inT, PY.ifQ_t, PY.ifQ_f, PY.tr_b, PY.tr_i, PY.tr_s, PY.tr_n, PY.isi_ii, PY.isi_bi, PY.isi_ss, PY.isi_tt, Option.map_some, PY.atI_0, PY.atI_1, PY.atI_2, PY.atI_3, PY.atI_4, PY.atI_5, List.set_cons_zero, List.set_cons_succ, fn36, c_4, g_10, w2, c_10, channels g, Bool.not_true, c_11]
  refine w_cmap (k := fun p => D.str p.1) (fun a ma => ?_) ?_
  · rw [w_cB (env' := [some (.ref h.length), some (.str m), some (.tup (ls.map laneD)), some (.tup (ps.map partD)), some (laneD a)]) rfl]
    simp only [PY.wSs, PY.wSn, PY.w_if, PY.w_and2, PY.w_or2, PY.w_ite, PY.w_chain, PY.w_opt_s, PY.w_guard, PY.w_set_n0, PY.w_set_ns, PY.w_aug, PY.aug_add, PY.aug_sub, PY.idx_l0, PY.idx_l1, PY.idx_p0, PY.idx_p1, PY.idx_p2, PY.idx_p3, PY.idx_p4, PY.idx_p5, PY.w_mkLf, PY.w_mkLt, PY.es_star, PY.ks_cons, PY.ks_nil, PY.es_nil, PY.es_v, PY.es_c, PY.es_g, PY.es_bin, PY.es_un, PY.es_cmp, PY.es_chain, PY.es_and, PY.es_or, PY.es_ite, PY.es_tup, PY.es_lst, PY.es_idx, PY.es_slc, PY.es_rev, PY.es_call, PY.es_make, PY.es_bc, PY.es_bm, PY.es_meth, PY.es_attr, PY.es_isi, PY.es_comp, PY.es_frz, PY.e_attr, PY.e_make, PY.e_isi, PY.e_bm, PY.w_rev, PY.w_frz, PY.w_comp, PY.w_csn, PY.w_csc, PY.w_i_e, PY.w_i_range, PY.rng_1, PY.rng_2, PY.slc_str, PY.toI, PY.w_i_enum, PY.w_for, PY.itm_tup, PY.itm_list, PY.itm_scr, PY.itm_str, PY.itN_tup, PY.chk_none, PY.sq_tup, PY.sq_list, PY.bin_L, PY.bin_T, PY.bc_strI, PY.bc_strS, PY.bc_tupL, PY.bc_tupT, PY.bc_max2, PY.bc_min2, PY.e_v, PY.e_c, PY.e_bin, PY.e_un, PY.e_cmp, PY.e_idx, PY.e_bc, PY.e_call, PY.e_lst, PY.e_tup, PY.e_or, PY.e_and, PY.or1, PY.and1, PY.e_slc, PY.o_none, PY.o_some, PY.s_set, PY.s_ret, PY.s_expr, PY.getV_0, PY.getV_s, PY.bin_add, PY.bin_sub, PY.bin_mul, PY.bin_fdiv, PY.bin_mod, PY.bin_pow, PY.bin_cat, PY.cmp_lt, PY.cmp_le, PY.cmp_gt, PY.cmp_ge, PY.un_not, PY.un_neg, PY.idx_tup, PY.idx_list, PY.idx_scr, PY.bc_int, PY.bc_abs, PY.bc_divmod, PY.bc_lenS, PY.bc_lenT, PY.bc_lenL, PY.bc_lenC, PY.a_tup, PY.as_nil, PY.as_cons, PY.okE, PY.bindE, PY.flE, PY.rtE, PY.nxE, PY.opt_s, PY.bind_ok, PY.fl_ok, PY.cm_lt, PY.cm_le, PY.cm_gt, PY.cm_ge, PY.cm_is, PY.cm_isn, PY.cm_in, PY.cm_nin, PY.cm_eqI, PY.cm_neI, PY.cm_eqS, PY.cm_neS, PY.cm_eqL, PY.cm_neL, PY.cm_eqT, PY.cm_neT, PY.cmp_eqS, PY.cmp_neS, PY.cmp_eqI, PY.cmp_neI, PY.cmp_inT, PY.ifQ_t, PY.ifQ_f, PY.tr_b, PY.tr_i, PY.tr_s, PY.tr_n, PY.isi_ii, PY.isi_bi, PY.isi_ss, PY.isi_tt, Option.map_some, PY.atI_0, PY.atI_1, PY.atI_2, PY.atI_3, PY.atI_4, PY.atI_5, List.set_cons_zero, List.set_cons_succ]
    simp
  · rw [effects gp (by simp [seqOf]) (by simp; omega)]
    refine ⟨trivial, by rw [List.length_map]; omega, ?_⟩
    simp only [PY.wSs, PY.wSn, PY.w_if, PY.w_and2, PY.w_or2, PY.w_ite, PY.w_chain, PY.w_opt_s, PY.w_guard, PY.w_set_n0, PY.w_set_ns, PY.w_aug, PY.aug_add, PY.aug_sub, PY.idx_l0, PY.idx_l1, PY.idx_p0, PY.idx_p1, PY.idx_p2, PY.idx_p3, PY.idx_p4, PY.idx_p5, PY.w_mkLf, PY.w_mkLt, PY.es_star, PY.ks_cons, PY.ks_nil, PY.es_nil, PY.es_v, PY.es_c, PY.es_g, PY.es_bin, PY.es_un, PY.es_cmp, PY.es_chain, PY.es_and, PY.es_or, PY.es_ite, PY.es_tup, PY.es_lst, PY.es_idx, PY.es_slc, PY.es_rev, PY.es_call, PY.es_make, PY.es_bc, PY.es_bm, PY.es_meth, PY.es_attr, PY.es_isi, PY.es_comp, PY.es_frz, PY.e_attr, PY.e_make, PY.e_isi, PY.e_bm, PY.w_rev, PY.w_frz, PY.w_comp, PY.w_csn, PY.w_csc, PY.w_i_e, PY.w_i_range, PY.rng_1, PY.rng_2, PY.slc_str, PY.toI, PY.w_i_enum, PY.w_for, PY.itm_tup, PY.itm_list, PY.itm_scr, PY.itm_str, PY.itN_tup, PY.chk_none, PY.sq_tup, PY.sq_list, PY.bin_L, PY.bin_T, PY.bc_strI, PY.bc_strS, PY.bc_tupL, PY.bc_tupT, PY.bc_max2, PY.bc_min2, PY.e_v, PY.e_c, PY.e_bin, PY.e_un, PY.e_cmp, PY.e_idx, PY.e_bc, PY.e_call, PY.e_lst, PY.e_tup, PY.e_or, PY.e_and, PY.or1, PY.and1, PY.e_slc, PY.o_none, PY.o_some, PY.s_set, PY.s_ret, PY.s_expr, PY.getV_0, PY.getV_s, PY.bin_add, PY.bin_sub, PY.bin_mul, PY.bin_fdiv, PY.bin_mod, PY.bin_pow, PY.bin_cat, PY.cmp_lt, PY.cmp_le, PY.cmp_gt, PY.cmp_ge, PY.un_not, PY.un_neg, PY.idx_tup, PY.idx_list, PY.idx_scr, PY.bc_int, PY.bc_abs, PY.bc_divmod, PY.bc_lenS, PY.bc_lenT, PY.bc_lenL, PY.bc_lenC, PY.a_tup, PY.as_nil, PY.as_cons, PY.okE, PY.bindE, PY.flE, PY.rtE, PY.nxE, PY.opt_s, PY.bind_ok, PY.fl_ok, PY.cm_lt, PY.cm_le, PY.cm_gt, PY.cm_ge, PY.cm_is, PY.cm_isn, PY.cm_in, PY.cm_nin, PY.cm_eqI, PY.cm_neI, PY.cm_eqS, PY.cm_neS, PY.cm_eqL, PY.cm_neL, PY.cm_eqT, PY.cm_neT, PY.cmp_eqS, PY.cmp_neS, PY.cmp_eqI, PY.cmp_neI, PY.cmp_inT, PY.ifQ_t, PY.ifQ_f, PY.tr_b, PY.tr_i, PY.tr_s, PY.tr_n, PY.isi_ii, PY.isi_bi, PY.isi_ss, PY.isi_tt, Option.map_some, PY.atI_0, PY.atI_1, PY.atI_2, PY.atI_3, PY.atI_4, PY.atI_5, List.set_cons_zero, List.set_cons_succ]
    rw [a_fld (i := h.length) (fs := []) (by rw [e_v]; rfl) (last_get rfl) rfl rfl rfl, last_set rfl]
    simp only [PY.wSs, PY.wSn, PY.w_if, PY.w_and2, PY.w_or2, PY.w_ite, PY.w_chain, PY.w_opt_s, PY.w_guard, PY.w_set_n0, PY.w_set_ns, PY.w_aug, PY.aug_add, PY.aug_sub, PY.idx_l0, PY.idx_l1, PY.idx_p0, PY.idx_p1, PY.idx_p2, PY.idx_p3, PY.idx_p4, PY.idx_p5, PY.w_mkLf, PY.w_mkLt, PY.es_star, PY.ks_cons, PY.ks_nil, PY.es_nil, PY.es_v, PY.es_c, PY.es_g, PY.es_bin, PY.es_un, PY.es_cmp, PY.es_chain, PY.es_and, PY.es_or, PY.es_ite, PY.es_tup, PY.es_lst, PY.es_idx, PY.es_slc, PY.es_rev, PY.es_call, PY.es_make, PY.es_bc, PY.es_bm, PY.es_meth, PY.es_attr, PY.es_isi, PY.es_comp, PY.es_frz, PY.e_attr, PY.e_make, PY.e_isi, PY.e_bm, PY.w_rev, PY.w_frz, PY.w_comp, PY.w_csn, PY.w_csc, PY.w_i_e, PY.w_i_range, PY.rng_1, PY.rng_2, PY.slc_str, PY.toI, PY.w_i_enum, PY.w_for, PY.itm_tup, PY.itm_list, PY.itm_scr, PY.itm_str, PY.itN_tup, PY.chk_none, PY.sq_tup, PY.sq_list, PY.bin_L, PY.bin_T, PY.bc_strI, PY.bc_strS, PY.bc_tupL, PY.bc_tupT, PY.bc_max2, PY.bc_min2, PY.e_v, PY.e_c, PY.e_bin, PY.e_un, PY.e_cmp, PY.e_idx, PY.e_bc, PY.e_call, PY.e_lst, PY.e_tup, PY.e_or, PY.e_and, PY.or1, PY.and1, PY.e_slc, PY.o_none, PY.o_some, PY.s_set, PY.s_ret, PY.s_expr, PY.getV_0, PY.getV_s, PY.bin_add, PY.bin_sub, PY.bin_mul, PY.bin_fdiv, PY.bin_mod, PY.bin_pow, PY.bin_cat, PY.cmp_lt, PY.cmp_le, PY.cmp_gt, PY.cmp_ge, PY.un_not, PY.un_neg, PY.idx_tup, PY.idx_list, PY.idx_scr, PY.bc_int, PY.bc_abs, PY.bc_divmod, PY.bc_lenS, PY.bc_lenT, PY.bc_lenL, PY.bc_lenC, PY.a_tup, PY.as_nil, PY.as_cons, PY.okE, PY.bindE, PY.flE, PY.rtE, PY.nxE, PY.opt_s, PY.bind_ok, PY.fl_ok, PY.cm_lt, PY.cm_le, PY.cm_gt, PY.cm_ge, PY.cm_is, PY.cm_isn, PY.cm_in, PY.cm_nin, PY.cm_eqI, PY.cm_neI, PY.cm_eqS, PY.cm_neS, PY.cm_eqL, PY.cm_neL, PY.cm_eqT, PY.cm_neT, PY.cmp_eqS, PY.cmp_neS, PY.cmp_eqI, PY.cmp_neI, PY.cmp_inT, PY.ifQ_t, PY.ifQ_f, PY.tr_b, PY.tr_i, PY.tr_s, PY.tr_n, PY.isi_ii, PY.isi_bi, PY.isi_ss, PY.isi_tt, Option.map_some, PY.atI_0, PY.atI_1, PY.atI_2, PY.atI_3, PY.atI_4, PY.atI_5, List.set_cons_zero, List.set_cons_succ, List.nil_append, List.cons_append]
    rw [a_fld (i := h.length) (fs := [.str m]) (by rw [e_v]; rfl) (last_get rfl) rfl rfl rfl, last_set rfl]
    simp only [PY.wSs, PY.wSn, PY.w_if, PY.w_and2, PY.w_or2, PY.w_ite, PY.w_chain, PY.w_opt_s, PY.w_guard, PY.w_set_n0, PY.w_set_ns, PY.w_aug, PY.aug_add, PY.aug_sub, PY.idx_l0, PY.idx_l1, PY.idx_p0, PY.idx_p1, PY.idx_p2, PY.idx_p3, PY.idx_p4, PY.idx_p5, PY.w_mkLf, PY.w_mkLt, PY.es_star, PY.ks_cons, PY.ks_nil, PY.es_nil, PY.es_v, PY.es_c, PY.es_g, PY.es_bin, PY.es_un, PY.es_cmp, PY.es_chain, PY.es_and, PY.es_or, PY.es_ite, PY.es_tup, PY.es_lst, PY.es_idx, PY.es_slc, PY.es_rev, PY.es_call, PY.es_make, PY.es_bc, PY.es_bm, PY.es_meth, PY.es_attr, PY.es_isi, PY.es_comp, PY.es_frz, PY.e_attr, PY.e_make, PY.e_isi, PY.e_bm, PY.w_rev, PY.w_frz, PY.w_comp, PY.w_csn, PY.w_csc, PY.w_i_e, PY.w_i_range, PY.rng_1, PY.rng_2, PY.slc_str, PY.toI, PY.w_i_enum, PY.w_for, PY.itm_tup, PY.itm_list, PY.itm_scr, PY.itm_str, PY.itN_tup, PY.chk_none, PY.sq_tup, PY.sq_list, PY.bin_L, PY.bin_T, PY.bc_strI, PY.bc_strS, PY.bc_tupL, PY.bc_tupT, PY.bc_max2, PY.bc_min2, PY.e_v, PY.e_c, PY.e_bin, PY.e_un, PY.e_cmp, PY.e_idx, PY.e_bc, PY.e_call, PY.e_lst, PY.e_tup, PY.e_or, PY.e_and, PY.or1, PY.and1, PY.e_slc, PY.o_none, PY.o_some, PY.s_set, PY.s_ret, PY.s_expr, PY.getV_0, PY.getV_s, PY.bin_add, PY.bin_sub, PY.bin_mul, PY.bin_fdiv, PY.bin_mod, PY.bin_pow, PY.bin_cat, PY.cmp_lt, PY.cmp_le, PY.cmp_gt, PY.cmp_ge, PY.un_not, PY.un_neg, PY.idx_tup, PY.idx_list, PY.idx_scr, PY.bc_int, PY.bc_abs, PY.bc_divmod, PY.bc_lenS, PY.bc_lenT, PY.bc_lenL, PY.bc_lenC, PY.a_tup, PY.as_nil, PY.as_cons, PY.okE, PY.bindE, PY.flE, PY.rtE, PY.nxE, PY.opt_s, PY.bind_ok, PY.fl_ok, PY.cm_lt, PY.cm_le, PY.cm_gt, PY.cm_ge, PY.cm_is, PY.cm_isn, PY.cm_in, PY.cm_nin, PY.cm_eqI, PY.cm_neI, PY.cm_eqS, PY.cm_neS, PY.cm_eqL, PY.cm_neL, PY.cm_eqT, PY.cm_neT, PY.cmp_eqS, PY.cmp_neS, PY.cmp_eqI, PY.cmp_neI, PY.cmp_inT, PY.ifQ_t, PY.ifQ_f, PY.tr_b, PY.tr_i, PY.tr_s, PY.tr_n, PY.isi_ii, PY.isi_bi, PY.isi_ss, PY.isi_tt, Option.map_some, PY.atI_0, PY.atI_1, PY.atI_2, PY.atI_3, PY.atI_4, PY.atI_5, List.set_cons_zero, List.set_cons_succ, List.nil_append, List.cons_append]
    rw [a_fld (i := h.length) (fs := [.str m, .tup (ls.map laneD)]) (by rw [e_v]; rfl) (last_get rfl) rfl rfl rfl, last_set rfl]
    simp only [PY.wSs, PY.wSn, PY.w_if, PY.w_and2, PY.w_or2, PY.w_ite, PY.w_chain, PY.w_opt_s, PY.w_guard, PY.w_set_n0, PY.w_set_ns, PY.w_aug, PY.aug_add, PY.aug_sub, PY.idx_l0, PY.idx_l1, PY.idx_p0, PY.idx_p1, PY.idx_p2, PY.idx_p3, PY.idx_p4, PY.idx_p5, PY.w_mkLf, PY.w_mkLt, PY.es_star, PY.ks_cons, PY.ks_nil, PY.es_nil, PY.es_v, PY.es_c, PY.es_g, PY.es_bin, PY.es_un, PY.es_cmp, PY.es_chain, PY.es_and, PY.es_or, PY.es_ite, PY.es_tup, PY.es_lst, PY.es_idx, PY.es_slc, PY.es_rev, PY.es_call, PY.es_make, PY.es_bc, PY.es_bm, PY.es_meth, PY.es_attr, PY.es_isi, PY.es_comp, PY.es_frz, PY.e_attr, PY.e_make, PY.e_isi, PY.e_bm, PY.w_rev, PY.w_frz, PY.w_comp, PY.w_csn, PY.w_csc, PY.w_i_e, PY.w_i_range, PY.rng_1, PY.rng_2, PY.slc_str, PY.toI, PY.w_i_enum, PY.w_for, PY.itm_tup, PY.itm_list, PY.itm_scr, PY.itm_str, PY.itN_tup, PY.chk_none, PY.sq_tup, PY.sq_list, PY.bin_L, PY.bin_T, PY.bc_strI, PY.bc_strS, PY.bc_tupL, PY.bc_tupT, PY.bc_max2, PY.bc_min2, PY.e_v, PY.e_c, PY.e_bin, PY.e_un, PY.e_cmp, PY.e_idx, PY.e_bc, PY.e_call, PY.e_lst, PY.e_tup, PY.e_or, PY.e_and, PY.or1, PY.and1, PY.e_slc, PY.o_none, PY.o_some, PY.s_set, PY.s_ret, PY.s_expr, PY.getV_0, PY.getV_s, PY.bin_add, PY.bin_sub, PY.bin_mul, PY.bin_fdiv, PY.bin_mod, PY.bin_pow, PY.bin_cat, PY.cmp_lt, PY.cmp_le, PY.cmp_gt, PY.cmp_ge, PY.un_not, PY.un_neg, PY.idx_tup, PY.idx_list, PY.idx_scr, PY.bc_int, PY.bc_abs, PY.bc_divmod, PY.bc_lenS, PY.bc_lenT, PY.bc_lenL, PY.bc_lenC, PY.a_tup, PY.as_nil, PY.as_cons, PY.okE, PY.bindE, PY.flE, PY.rtE, PY.nxE, PY.opt_s, PY.bind_ok, PY.fl_ok, PY.cm_lt, PY.cm_le, PY.cm_gt, PY.cm_ge, PY.cm_is, PY.cm_isn, PY.cm_in, PY.cm_nin, PY.cm_eqI, PY.cm_neI, PY.cm_eqS, PY.cm_neS, PY.cm_eqL, PY.cm_neL, PY.cm_eqT, PY.cm_neT, PY.cmp_eqS, PY.cmp_neS, PY.cmp_eqI, PY.cmp_neI, PY.cmp_inT, PY.ifQ_t, PY.ifQ_f, PY.tr_b, PY.tr_i, PY.tr_s, PY.tr_n, PY.isi_ii, PY.isi_bi, PY.isi_ss, PY.isi_tt, Option.map_some, PY.atI_0, PY.atI_1, PY.atI_2, PY.atI_3, PY.atI_4, PY.atI_5, List.set_cons_zero, List.set_cons_succ, List.nil_append, List.cons_append]
    exact tr_last (by simp [O.lt, D.lts, D.lt, lanes_lt, parts_lt]) (fun n => by simp [O.lt, D.lts, D.lt, lanes_lt, parts_lt]) q
theorem make_of {n : Nat} {m : Str} {ls : List (Str × Int)} {ps : List Part} {h : Hh} {ds : List D} {ks : List (Str × D)} {Q : D → Hh → Prop} (hm : m = "run" ∨ m = "finish") (g : GLanes ls) (gp : GParts (ls.map (·.1)) ps)
    (hb : bindA fn36.ps fn36.dfl (.ref h.length :: ds) ks = some [.ref h.length, .str m, .tup (ls.map laneD), .tup (ps.map partD)]) (q : Q (sld m ls ps) h) :
    okR (makeM prg (PY.run prg (n + 6)) 0 ds ks h) Q := by
  have e : makeM prg (PY.run prg (n + 6)) 0 ds ks h = .ok (sld m ls ps) h := by
    have i := init (n := n) (h := h) (Q := fun d h' => d = .none ∧ h' = h ++ [.ins 0 [.str m, .tup (ls.map laneD), .tup (ps.map partD)]]) hm g gp ⟨rfl, rfl⟩
    obtain ⟨d, h', ei, rfl, rfl⟩ := okR.of i
    exact makeM_fr rfl rfl ((callM_of (F := fn36) rfl hb).trans ei) (fun n => by simp [D.lts, D.lt, lanes_lt, parts_lt])
  rw [e]
  exact q
theorem mk3 {n : Nat} {m : Str} {ls : List (Str × Int)} {ps : List Part} {h : Hh} {Q : D → Hh → Prop} (hm : m = "run" ∨ m = "finish") (g : GLanes ls) (gp : GParts (ls.map (·.1)) ps) (q : Q (sld m ls ps) h) :
    okR (makeM prg (PY.run prg (n + 6)) 0 [.str m, .tup (ls.map laneD), .tup (ps.map partD)] [] h) Q := make_of hm g gp (bindA_pos (by decide +kernel) rfl (by decide)) q
theorem mk2 {n : Nat} {m : Str} {ls : List (Str × Int)} {h : Hh} {Q : D → Hh → Prop} (hm : m = "run" ∨ m = "finish") (g : GLanes ls) (q : Q (sld m ls []) h) :
    okR (makeM prg (PY.run prg (n + 6)) 0 [.str m, .tup (ls.map laneD)] [] h) Q := make_of (ps := []) hm g ⟨by simp, by simp, by simp⟩ rfl q
theorem mk3k {n : Nat} {m : Str} {ls : List (Str × Int)} {ps : List Part} {h : Hh} {Q : D → Hh → Prop} (hm : m = "run" ∨ m = "finish") (g : GLanes ls) (gp : GParts (ls.map (·.1)) ps) (q : Q (sld m ls ps) h) :
    okR (makeM prg (PY.run prg (n + 6)) 0 [] [("effects", .tup (ps.map partD)), ("channels", .tup (ls.map laneD)), ("manner", .str m)] h) Q := make_of hm g gp rfl q
theorem mk2k {n : Nat} {m : Str} {ls : List (Str × Int)} {h : Hh} {Q : D → Hh → Prop} (hm : m = "run" ∨ m = "finish") (g : GLanes ls) (q : Q (sld m ls []) h) :
    okR (makeM prg (PY.run prg (n + 6)) 0 [] [("channels", .tup (ls.map laneD)), ("manner", .str m)] h) Q := make_of (ps := []) hm g ⟨by simp, by simp, by simp⟩ rfl q
end K12
end
section
set_option Elab.async false
set_option linter.all false
set_option maxRecDepth 100000
namespace K12
open PySem PyProof.Rows PY L12
theorem row {n : Nat} {ws : List Str} {p : Part} {h : Hh} (g : GPart ws p) : PY.run prg (n + 1) 12 [partD p] h = .ok (.str (prow p)) h := by
  refine okR_eq ?_
  rw [partD_list, r_12]
  have sl := sizeLine_eq
  simp only [PY.wSs, PY.wSn, PY.w_if, PY.w_and2, PY.w_or2, PY.w_ite, PY.w_chain, PY.w_opt_s, PY.w_guard, PY.w_set_n0, PY.w_set_ns, PY.w_aug, PY.aug_add, PY.aug_sub, PY.idx_l0, PY.idx_l1, PY.idx_p0, PY.idx_p1, PY.idx_p2, PY.idx_p3, PY.idx_p4, PY.idx_p5, PY.w_mkLf, PY.w_mkLt, PY.es_star, PY.ks_cons, PY.ks_nil, PY.es_nil, PY.es_v, PY.es_c, PY.es_g, PY.es_bin, PY.es_un, PY.es_cmp, PY.es_chain, PY.es_and, PY.es_or, PY.es_ite, PY.es_tup, PY.es_lst, PY.es_idx, PY.es_slc, PY.es_rev, PY.es_call, PY.es_make, PY.es_bc, PY.es_bm, PY.es_meth, PY.es_attr, PY.es_isi, PY.es_comp, PY.es_frz, PY.e_attr, PY.e_make, PY.e_isi, PY.e_bm, PY.w_rev, PY.w_frz, PY.w_comp, PY.w_csn, PY.w_csc, PY.w_i_e, PY.w_i_range, PY.rng_1, PY.rng_2, PY.slc_str, PY.toI, PY.w_i_enum, PY.w_for, PY.itm_tup, PY.itm_list, PY.itm_scr, PY.itm_str, PY.itN_tup, PY.chk_none, PY.sq_tup, PY.sq_list, PY.bin_L, PY.bin_T, PY.bc_strI, PY.bc_strS, PY.bc_tupL, PY.bc_tupT, PY.bc_max2, PY.bc_min2, PY.e_v, PY.e_c, PY.e_bin, PY.e_un, PY.e_cmp, PY.e_idx, PY.e_bc, PY.e_call, PY.e_lst, PY.e_tup, PY.e_or, PY.e_and, PY.or1, PY.and1, PY.e_slc, PY.o_none, PY.o_some, PY.s_set, PY.s_ret, PY.s_expr, PY.getV_0, PY.getV_s, PY.bin_add, PY.bin_sub, PY.bin_mul, PY.bin_fdiv, PY.bin_mod, PY.bin_pow, PY.bin_cat, PY.cmp_lt, PY.cmp_le, PY.cmp_gt, PY.cmp_ge, PY.un_not, PY.un_neg, PY.idx_tup, PY.idx_list, PY.idx_scr, PY.bc_int, PY.bc_abs, PY.bc_divmod, PY.bc_lenS, PY.bc_lenT, PY.bc_lenL, PY.bc_lenC, PY.a_tup, PY.as_nil, PY.as_cons, PY.okE, PY.bindE, PY.flE, PY.rtE, PY.nxE, PY.opt_s, PY.bind_ok, PY.fl_ok, PY.cm_lt, PY.cm_le, PY.cm_gt, PY.cm_ge, PY.cm_is, PY.cm_isn, PY.cm_in, PY.cm_nin, PY.cm_eqI, PY.cm_neI, PY.cm_eqS, PY.cm_neS, PY.cm_eqL, PY.cm_neL, PY.cm_eqT, PY.cm_neT, PY.cmp_eqS, PY.cmp_neS, PY.cmp_eqI, PY.cmp_neI, PY.cmp_inT, PY.ifQ_t, PY.ifQ_f, PY.tr_b, PY.tr_i, PY.tr_s, PY.tr_n, PY.isi_ii, PY.isi_bi, PY.isi_ss, PY.isi_tt, Option.map_some, PY.atI_0, PY.atI_1, PY.atI_2, PY.atI_3, PY.atI_4, PY.atI_5, List.set_cons_zero, List.set_cons_succ, fn12, rc_join]
  refine ⟨trivial, w_cmap (k := fun x => D.str (siT x)) (fun a ma => ?_) ?_⟩
  · rw [w_cB (env' := [some (.tup ((plist p).map siD)), some (siD a)]) (by simp [tgt, wipeE])]
    cases a with
    | s x =>
      unfold siD siT
      simp only [PY.wSs, PY.wSn, PY.w_if, PY.w_and2, PY.w_or2, PY.w_ite, PY.w_chain, PY.w_opt_s, PY.w_guard, PY.w_set_n0, PY.w_set_ns, PY.w_aug, PY.aug_add, PY.aug_sub, PY.idx_l0, PY.idx_l1, PY.idx_p0, PY.idx_p1, PY.idx_p2, PY.idx_p3, PY.idx_p4, PY.idx_p5, PY.w_mkLf, PY.w_mkLt, PY.es_star, PY.ks_cons, PY.ks_nil, PY.es_nil, PY.es_v, PY.es_c, PY.es_g, PY.es_bin, PY.es_un, PY.es_cmp, PY.es_chain, PY.es_and, PY.es_or, PY.es_ite, PY.es_tup, PY.es_lst, PY.es_idx, PY.es_slc, PY.es_rev, PY.es_call, PY.es_make, PY.es_bc, PY.es_bm, PY.es_meth, PY.es_attr, PY.es_isi, PY.es_comp, PY.es_frz, PY.e_attr, PY.e_make, PY.e_isi, PY.e_bm, PY.w_rev, PY.w_frz, PY.w_comp, PY.w_csn, PY.w_csc, PY.w_i_e, PY.w_i_range, PY.rng_1, PY.rng_2, PY.slc_str, PY.toI, PY.w_i_enum, PY.w_for, PY.itm_tup, PY.itm_list, PY.itm_scr, PY.itm_str, PY.itN_tup, PY.chk_none, PY.sq_tup, PY.sq_list, PY.bin_L, PY.bin_T, PY.bc_strI, PY.bc_strS, PY.bc_tupL, PY.bc_tupT, PY.bc_max2, PY.bc_min2, PY.e_v, PY.e_c, PY.e_bin, PY.e_un, PY.e_cmp, PY.e_idx, PY.e_bc, PY.e_call, PY.e_lst, PY.e_tup, PY.e_or, PY.e_and, PY.or1, PY.and1, PY.e_slc, PY.o_none, PY.o_some, PY.s_set, PY.s_ret, PY.s_expr, PY.getV_0, PY.getV_s, PY.bin_add, PY.bin_sub, PY.bin_mul, PY.bin_fdiv, PY.bin_mod, PY.bin_pow, PY.bin_cat, PY.cmp_lt, PY.cmp_le, PY.cmp_gt, PY.cmp_ge, PY.un_not, PY.un_neg, PY.idx_tup, PY.idx_list, PY.idx_scr, PY.bc_int, PY.bc_abs, PY.bc_divmod, PY.bc_lenS, PY.bc_lenT, PY.bc_lenL, PY.bc_lenC, PY.a_tup, PY.as_nil, PY.as_cons, PY.okE, PY.bindE, PY.flE, PY.rtE, PY.nxE, PY.opt_s, PY.bind_ok, PY.fl_ok, PY.cm_lt, PY.cm_le, PY.cm_gt, PY.cm_ge, PY.cm_is, PY.cm_isn, PY.cm_in, PY.cm_nin, PY.cm_eqI, PY.cm_neI, PY.cm_eqS, PY.cm_neS, PY.cm_eqL, PY.cm_neL, PY.cm_eqT, PY.cm_neT, PY.cmp_eqS, PY.cmp_neS, PY.cmp_eqI, PY.cmp_neI, PY.cmp_inT, PY.ifQ_t, PY.ifQ_f, PY.tr_b, PY.tr_i, PY.tr_s, PY.tr_n, PY.isi_ii, PY.isi_bi, PY.isi_ss, PY.isi_tt, Option.map_some, PY.atI_0, PY.atI_1, PY.atI_2, PY.atI_3, PY.atI_4, PY.atI_5, List.set_cons_zero, List.set_cons_succ]
      simp
    | i x =>
      unfold siD siT
      have lg : x.natAbs.log2 < 1920 := by
        simp only [plist, List.mem_cons, List.not_mem_nil, or_false, WN.i.injEq, reduceCtorEq, false_or] at ma
        rcases ma with rfl | rfl | rfl | rfl
        · exact log_ok (by have := g.d0; omega) g.d1
        · exact log_ok (by have := g.l0; omega) g.l1
        · exact log_ok g.a0 g.a1
        · exact log_ok g.b0 g.b1
      simp only [PY.wSs, PY.wSn, PY.w_if, PY.w_and2, PY.w_or2, PY.w_ite, PY.w_chain, PY.w_opt_s, PY.w_guard, PY.w_set_n0, PY.w_set_ns, PY.w_aug, PY.aug_add, PY.aug_sub, PY.idx_l0, PY.idx_l1, PY.idx_p0, PY.idx_p1, PY.idx_p2, PY.idx_p3, PY.idx_p4, PY.idx_p5, PY.w_mkLf, PY.w_mkLt, PY.es_star, PY.ks_cons, PY.ks_nil, PY.es_nil, PY.es_v, PY.es_c, PY.es_g, PY.es_bin, PY.es_un, PY.es_cmp, PY.es_chain, PY.es_and, PY.es_or, PY.es_ite, PY.es_tup, PY.es_lst, PY.es_idx, PY.es_slc, PY.es_rev, PY.es_call, PY.es_make, PY.es_bc, PY.es_bm, PY.es_meth, PY.es_attr, PY.es_isi, PY.es_comp, PY.es_frz, PY.e_attr, PY.e_make, PY.e_isi, PY.e_bm, PY.w_rev, PY.w_frz, PY.w_comp, PY.w_csn, PY.w_csc, PY.w_i_e, PY.w_i_range, PY.rng_1, PY.rng_2, PY.slc_str, PY.toI, PY.w_i_enum, PY.w_for, PY.itm_tup, PY.itm_list, PY.itm_scr, PY.itm_str, PY.itN_tup, PY.chk_none, PY.sq_tup, PY.sq_list, PY.bin_L, PY.bin_T, PY.bc_strI, PY.bc_strS, PY.bc_tupL, PY.bc_tupT, PY.bc_max2, PY.bc_min2, PY.e_v, PY.e_c, PY.e_bin, PY.e_un, PY.e_cmp, PY.e_idx, PY.e_bc, PY.e_call, PY.e_lst, PY.e_tup, PY.e_or, PY.e_and, PY.or1, PY.and1, PY.e_slc, PY.o_none, PY.o_some, PY.s_set, PY.s_ret, PY.s_expr, PY.getV_0, PY.getV_s, PY.bin_add, PY.bin_sub, PY.bin_mul, PY.bin_fdiv, PY.bin_mod, PY.bin_pow, PY.bin_cat, PY.cmp_lt, PY.cmp_le, PY.cmp_gt, PY.cmp_ge, PY.un_not, PY.un_neg, PY.idx_tup, PY.idx_list, PY.idx_scr, PY.bc_int, PY.bc_abs, PY.bc_divmod, PY.bc_lenS, PY.bc_lenT, PY.bc_lenL, PY.bc_lenC, PY.a_tup, PY.as_nil, PY.as_cons, PY.okE, PY.bindE, PY.flE, PY.rtE, PY.nxE, PY.opt_s, PY.bind_ok, PY.fl_ok, PY.cm_lt, PY.cm_le, PY.cm_gt, PY.cm_ge, PY.cm_is, PY.cm_isn, PY.cm_in, PY.cm_nin, PY.cm_eqI, PY.cm_neI, PY.cm_eqS, PY.cm_neS, PY.cm_eqL, PY.cm_neL, PY.cm_eqT, PY.cm_neT, PY.cmp_eqS, PY.cmp_neS, PY.cmp_eqI, PY.cmp_neI, PY.cmp_inT, PY.ifQ_t, PY.ifQ_f, PY.tr_b, PY.tr_i, PY.tr_s, PY.tr_n, PY.isi_ii, PY.isi_bi, PY.isi_ss, PY.isi_tt, Option.map_some, PY.atI_0, PY.atI_1, PY.atI_2, PY.atI_3, PY.atI_4, PY.atI_5, List.set_cons_zero, List.set_cons_succ, decide_eq_true lg]
      simp
  · have e : (plist p).map (fun x => D.str (siT x)) = ((plist p).map siT).map D.str := by rw [List.map_map]; rfl
    rw [e, List.append_nil, w_join (ys := "effect" :: (plist p).map siT) (by rw [strs?, PY.strs_map]; rfl)]
    refine ⟨trivial, by simp [plist, sl], by simp [plist, sl], ?_, ?_⟩
    · have := jl_le (a := " ") (B := 8) (xs := "effect" :: (plist p).map siT) (fun t m => by
        rcases List.mem_cons.mp m with rfl | m
        · decide
        · exact g.txt t m)
      have e2 : ((" " : String) : Str).length = 1 := rfl
      rw [e2] at this
      simp only [plist, List.map_cons, List.map_nil, List.length_cons, List.length_nil] at this ⊢
      omega
    · simp only [PY.wSs, PY.wSn, PY.w_if, PY.w_and2, PY.w_or2, PY.w_ite, PY.w_chain, PY.w_opt_s, PY.w_guard, PY.w_set_n0, PY.w_set_ns, PY.w_aug, PY.aug_add, PY.aug_sub, PY.idx_l0, PY.idx_l1, PY.idx_p0, PY.idx_p1, PY.idx_p2, PY.idx_p3, PY.idx_p4, PY.idx_p5, PY.w_mkLf, PY.w_mkLt, PY.es_star, PY.ks_cons, PY.ks_nil, PY.es_nil, PY.es_v, PY.es_c, PY.es_g, PY.es_bin, PY.es_un, PY.es_cmp, PY.es_chain, PY.es_and, PY.es_or, PY.es_ite, PY.es_tup, PY.es_lst, PY.es_idx, PY.es_slc, PY.es_rev, PY.es_call, PY.es_make, PY.es_bc, PY.es_bm, PY.es_meth, PY.es_attr, PY.es_isi, PY.es_comp, PY.es_frz, PY.e_attr, PY.e_make, PY.e_isi, PY.e_bm, PY.w_rev, PY.w_frz, PY.w_comp, PY.w_csn, PY.w_csc, PY.w_i_e, PY.w_i_range, PY.rng_1, PY.rng_2, PY.slc_str, PY.toI, PY.w_i_enum, PY.w_for, PY.itm_tup, PY.itm_list, PY.itm_scr, PY.itm_str, PY.itN_tup, PY.chk_none, PY.sq_tup, PY.sq_list, PY.bin_L, PY.bin_T, PY.bc_strI, PY.bc_strS, PY.bc_tupL, PY.bc_tupT, PY.bc_max2, PY.bc_min2, PY.e_v, PY.e_c, PY.e_bin, PY.e_un, PY.e_cmp, PY.e_idx, PY.e_bc, PY.e_call, PY.e_lst, PY.e_tup, PY.e_or, PY.e_and, PY.or1, PY.and1, PY.e_slc, PY.o_none, PY.o_some, PY.s_set, PY.s_ret, PY.s_expr, PY.getV_0, PY.getV_s, PY.bin_add, PY.bin_sub, PY.bin_mul, PY.bin_fdiv, PY.bin_mod, PY.bin_pow, PY.bin_cat, PY.cmp_lt, PY.cmp_le, PY.cmp_gt, PY.cmp_ge, PY.un_not, PY.un_neg, PY.idx_tup, PY.idx_list, PY.idx_scr, PY.bc_int, PY.bc_abs, PY.bc_divmod, PY.bc_lenS, PY.bc_lenT, PY.bc_lenL, PY.bc_lenC, PY.a_tup, PY.as_nil, PY.as_cons, PY.okE, PY.bindE, PY.flE, PY.rtE, PY.nxE, PY.opt_s, PY.bind_ok, PY.fl_ok, PY.cm_lt, PY.cm_le, PY.cm_gt, PY.cm_ge, PY.cm_is, PY.cm_isn, PY.cm_in, PY.cm_nin, PY.cm_eqI, PY.cm_neI, PY.cm_eqS, PY.cm_neS, PY.cm_eqL, PY.cm_neL, PY.cm_eqT, PY.cm_neT, PY.cmp_eqS, PY.cmp_neS, PY.cmp_eqI, PY.cmp_neI, PY.cmp_inT, PY.ifQ_t, PY.ifQ_f, PY.tr_b, PY.tr_i, PY.tr_s, PY.tr_n, PY.isi_ii, PY.isi_bi, PY.isi_ss, PY.isi_tt, Option.map_some, PY.atI_0, PY.atI_1, PY.atI_2, PY.atI_3, PY.atI_4, PY.atI_5, List.set_cons_zero, List.set_cons_succ]
      exact ⟨rfl, trivial⟩
theorem text {n : Nat} {m : Str} {ls : List (Str × Int)} {ps : List Part} {h : Hh} (g : GS m ls ps) : PY.run prg (n + 2) 47 [sld m ls ps] h = .ok (.str (slText m ls ps)) h := by
  refine okR_eq ?_
  rw [r_47]
  have sl := sizeLine_eq
  have l3 := g.hl.l1
  have l8 := g.hp.l1
  unfold sld
  simp only [PY.wSs, PY.wSn, PY.w_if, PY.w_and2, PY.w_or2, PY.w_ite, PY.w_chain, PY.w_opt_s, PY.w_guard, PY.w_set_n0, PY.w_set_ns, PY.w_aug, PY.aug_add, PY.aug_sub, PY.idx_l0, PY.idx_l1, PY.idx_p0, PY.idx_p1, PY.idx_p2, PY.idx_p3, PY.idx_p4, PY.idx_p5, PY.w_mkLf, PY.w_mkLt, PY.es_star, PY.ks_cons, PY.ks_nil, PY.es_nil, PY.es_v, PY.es_c, PY.es_g, PY.es_bin, PY.es_un, PY.es_cmp, PY.es_chain, PY.es_and, PY.es_or, PY.es_ite, PY.es_tup, PY.es_lst, PY.es_idx, PY.es_slc, PY.es_rev, PY.es_call, PY.es_make, PY.es_bc, PY.es_bm, PY.es_meth, PY.es_attr, PY.es_isi, PY.es_comp, PY.es_frz, PY.e_attr, PY.e_make, PY.e_isi, PY.e_bm, PY.w_rev, PY.w_frz, PY.w_comp, PY.w_csn, PY.w_csc, PY.w_i_e, PY.w_i_range, PY.rng_1, PY.rng_2, PY.slc_str, PY.toI, PY.w_i_enum, PY.w_for, PY.itm_tup, PY.itm_list, PY.itm_scr, PY.itm_str, PY.itN_tup, PY.chk_none, PY.sq_tup, PY.sq_list, PY.bin_L, PY.bin_T, PY.bc_strI, PY.bc_strS, PY.bc_tupL, PY.bc_tupT, PY.bc_max2, PY.bc_min2, PY.e_v, PY.e_c, PY.e_bin, PY.e_un, PY.e_cmp, PY.e_idx, PY.e_bc, PY.e_call, PY.e_lst, PY.e_tup, PY.e_or, PY.e_and, PY.or1, PY.and1, PY.e_slc, PY.o_none, PY.o_some, PY.s_set, PY.s_ret, PY.s_expr, PY.getV_0, PY.getV_s, PY.bin_add, PY.bin_sub, PY.bin_mul, PY.bin_fdiv, PY.bin_mod, PY.bin_pow, PY.bin_cat, PY.cmp_lt, PY.cmp_le, PY.cmp_gt, PY.cmp_ge, PY.un_not, PY.un_neg, PY.idx_tup, PY.idx_list, PY.idx_scr, PY.bc_int, PY.bc_abs, PY.bc_divmod, PY.bc_lenS, PY.bc_lenT, PY.bc_lenL, PY.bc_lenC, PY.a_tup, PY.as_nil, PY.as_cons, PY.okE, PY.bindE, PY.flE, PY.rtE, PY.nxE, PY.opt_s, PY.bind_ok, PY.fl_ok, PY.cm_lt, PY.cm_le, PY.cm_gt, PY.cm_ge, PY.cm_is, PY.cm_isn, PY.cm_in, PY.cm_nin, PY.cm_eqI, PY.cm_neI, PY.cm_eqS, PY.cm_neS, PY.cm_eqL, PY.cm_neL, PY.cm_eqT, PY.cm_neT, PY.cmp_eqS, PY.cmp_neS, PY.cmp_eqI, PY.cmp_neI, PY.cmp_inT, PY.ifQ_t, PY.ifQ_f, PY.tr_b, PY.tr_i, PY.tr_s, PY.tr_n, PY.isi_ii, PY.isi_bi, PY.isi_ss, PY.isi_tt, Option.map_some, PY.atI_0, PY.atI_1, PY.atI_2, PY.atI_3, PY.atI_4, PY.atI_5, List.set_cons_zero, List.set_cons_succ, fn47, at_9_0]
  refine w_cmap (k := fun p => D.str (lrow p)) (fun a ma => ?_) ?_
  · rw [w_cB (env' := [some (sld m ls ps), none, some (.str a.1), some (.int a.2), none]) rfl]
    have ga := g.hl.all a ma
    simp only [PY.wSs, PY.wSn, PY.w_if, PY.w_and2, PY.w_or2, PY.w_ite, PY.w_chain, PY.w_opt_s, PY.w_guard, PY.w_set_n0, PY.w_set_ns, PY.w_aug, PY.aug_add, PY.aug_sub, PY.idx_l0, PY.idx_l1, PY.idx_p0, PY.idx_p1, PY.idx_p2, PY.idx_p3, PY.idx_p4, PY.idx_p5, PY.w_mkLf, PY.w_mkLt, PY.es_star, PY.ks_cons, PY.ks_nil, PY.es_nil, PY.es_v, PY.es_c, PY.es_g, PY.es_bin, PY.es_un, PY.es_cmp, PY.es_chain, PY.es_and, PY.es_or, PY.es_ite, PY.es_tup, PY.es_lst, PY.es_idx, PY.es_slc, PY.es_rev, PY.es_call, PY.es_make, PY.es_bc, PY.es_bm, PY.es_meth, PY.es_attr, PY.es_isi, PY.es_comp, PY.es_frz, PY.e_attr, PY.e_make, PY.e_isi, PY.e_bm, PY.w_rev, PY.w_frz, PY.w_comp, PY.w_csn, PY.w_csc, PY.w_i_e, PY.w_i_range, PY.rng_1, PY.rng_2, PY.slc_str, PY.toI, PY.w_i_enum, PY.w_for, PY.itm_tup, PY.itm_list, PY.itm_scr, PY.itm_str, PY.itN_tup, PY.chk_none, PY.sq_tup, PY.sq_list, PY.bin_L, PY.bin_T, PY.bc_strI, PY.bc_strS, PY.bc_tupL, PY.bc_tupT, PY.bc_max2, PY.bc_min2, PY.e_v, PY.e_c, PY.e_bin, PY.e_un, PY.e_cmp, PY.e_idx, PY.e_bc, PY.e_call, PY.e_lst, PY.e_tup, PY.e_or, PY.e_and, PY.or1, PY.and1, PY.e_slc, PY.o_none, PY.o_some, PY.s_set, PY.s_ret, PY.s_expr, PY.getV_0, PY.getV_s, PY.bin_add, PY.bin_sub, PY.bin_mul, PY.bin_fdiv, PY.bin_mod, PY.bin_pow, PY.bin_cat, PY.cmp_lt, PY.cmp_le, PY.cmp_gt, PY.cmp_ge, PY.un_not, PY.un_neg, PY.idx_tup, PY.idx_list, PY.idx_scr, PY.bc_int, PY.bc_abs, PY.bc_divmod, PY.bc_lenS, PY.bc_lenT, PY.bc_lenL, PY.bc_lenC, PY.a_tup, PY.as_nil, PY.as_cons, PY.okE, PY.bindE, PY.flE, PY.rtE, PY.nxE, PY.opt_s, PY.bind_ok, PY.fl_ok, PY.cm_lt, PY.cm_le, PY.cm_gt, PY.cm_ge, PY.cm_is, PY.cm_isn, PY.cm_in, PY.cm_nin, PY.cm_eqI, PY.cm_neI, PY.cm_eqS, PY.cm_neS, PY.cm_eqL, PY.cm_neL, PY.cm_eqT, PY.cm_neT, PY.cmp_eqS, PY.cmp_neS, PY.cmp_eqI, PY.cmp_neI, PY.cmp_inT, PY.ifQ_t, PY.ifQ_f, PY.tr_b, PY.tr_i, PY.tr_s, PY.tr_n, PY.isi_ii, PY.isi_bi, PY.isi_ss, PY.isi_tt, Option.map_some, PY.atI_0, PY.atI_1, PY.atI_2, PY.atI_3, PY.atI_4, PY.atI_5, List.set_cons_zero, List.set_cons_succ, rc_join, decide_eq_true (log_ok ga.v0 ga.v1)]
    simp only [if_true]
    rw [w_join (ys := ["channel", a.1, Str.ofString (toString a.2)]) rfl]
    refine ⟨trivial, trivial, trivial, by simp [sl], ?_, rfl, rfl⟩
    have := jl_le (a := " ") ga.txt
    have e2 : ((" " : String) : Str).length = 1 := rfl
    rw [e2] at this
    simp only [List.length_cons, List.length_nil] at this
    omega
  · simp only [PY.wSs, PY.wSn, PY.w_if, PY.w_and2, PY.w_or2, PY.w_ite, PY.w_chain, PY.w_opt_s, PY.w_guard, PY.w_set_n0, PY.w_set_ns, PY.w_aug, PY.aug_add, PY.aug_sub, PY.idx_l0, PY.idx_l1, PY.idx_p0, PY.idx_p1, PY.idx_p2, PY.idx_p3, PY.idx_p4, PY.idx_p5, PY.w_mkLf, PY.w_mkLt, PY.es_star, PY.ks_cons, PY.ks_nil, PY.es_nil, PY.es_v, PY.es_c, PY.es_g, PY.es_bin, PY.es_un, PY.es_cmp, PY.es_chain, PY.es_and, PY.es_or, PY.es_ite, PY.es_tup, PY.es_lst, PY.es_idx, PY.es_slc, PY.es_rev, PY.es_call, PY.es_make, PY.es_bc, PY.es_bm, PY.es_meth, PY.es_attr, PY.es_isi, PY.es_comp, PY.es_frz, PY.e_attr, PY.e_make, PY.e_isi, PY.e_bm, PY.w_rev, PY.w_frz, PY.w_comp, PY.w_csn, PY.w_csc, PY.w_i_e, PY.w_i_range, PY.rng_1, PY.rng_2, PY.slc_str, PY.toI, PY.w_i_enum, PY.w_for, PY.itm_tup, PY.itm_list, PY.itm_scr, PY.itm_str, PY.itN_tup, PY.chk_none, PY.sq_tup, PY.sq_list, PY.bin_L, PY.bin_T, PY.bc_strI, PY.bc_strS, PY.bc_tupL, PY.bc_tupT, PY.bc_max2, PY.bc_min2, PY.e_v, PY.e_c, PY.e_bin, PY.e_un, PY.e_cmp, PY.e_idx, PY.e_bc, PY.e_call, PY.e_lst, PY.e_tup, PY.e_or, PY.e_and, PY.or1, PY.and1, PY.e_slc, PY.o_none, PY.o_some, PY.s_set, PY.s_ret, PY.s_expr, PY.getV_0, PY.getV_s, PY.bin_add, PY.bin_sub, PY.bin_mul, PY.bin_fdiv, PY.bin_mod, PY.bin_pow, PY.bin_cat, PY.cmp_lt, PY.cmp_le, PY.cmp_gt, PY.cmp_ge, PY.un_not, PY.un_neg, PY.idx_tup, PY.idx_list, PY.idx_scr, PY.bc_int, PY.bc_abs, PY.bc_divmod, PY.bc_lenS, PY.bc_lenT, PY.bc_lenL, PY.bc_lenC, PY.a_tup, PY.as_nil, PY.as_cons, PY.okE, PY.bindE, PY.flE, PY.rtE, PY.nxE, PY.opt_s, PY.bind_ok, PY.fl_ok, PY.cm_lt, PY.cm_le, PY.cm_gt, PY.cm_ge, PY.cm_is, PY.cm_isn, PY.cm_in, PY.cm_nin, PY.cm_eqI, PY.cm_neI, PY.cm_eqS, PY.cm_neS, PY.cm_eqL, PY.cm_neL, PY.cm_eqT, PY.cm_neT, PY.cmp_eqS, PY.cmp_neS, PY.cmp_eqI, PY.cmp_neI, PY.cmp_inT, PY.ifQ_t, PY.ifQ_f, PY.tr_b, PY.tr_i, PY.tr_s, PY.tr_n, PY.isi_ii, PY.isi_bi, PY.isi_ss, PY.isi_tt, Option.map_some, PY.atI_0, PY.atI_1, PY.atI_2, PY.atI_3, PY.atI_4, PY.atI_5, List.set_cons_zero, List.set_cons_succ, rc_join, at_8_0, at_10_0]
    have m9 : (("slide " : String) : Str).length + m.length ≤ sizeLine := by
      have : (("slide " : String) : Str).length = 6 := rfl
      rcases g.hm with z | z <;> (rw [z, sl]; decide)
    refine ⟨trivial, by rw [List.length_map]; omega, trivial, decide_eq_true m9, w_cmap (k := fun p => D.str (prow p)) (fun a ma => ?_) ?_⟩
    · rw [w_cB (env' := [some (sld m ls ps), some (.list (ls.map fun p => D.str (lrow p))), none, none, some (partD a)]) rfl]
      simp only [PY.wSs, PY.wSn, PY.w_if, PY.w_and2, PY.w_or2, PY.w_ite, PY.w_chain, PY.w_opt_s, PY.w_guard, PY.w_set_n0, PY.w_set_ns, PY.w_aug, PY.aug_add, PY.aug_sub, PY.idx_l0, PY.idx_l1, PY.idx_p0, PY.idx_p1, PY.idx_p2, PY.idx_p3, PY.idx_p4, PY.idx_p5, PY.w_mkLf, PY.w_mkLt, PY.es_star, PY.ks_cons, PY.ks_nil, PY.es_nil, PY.es_v, PY.es_c, PY.es_g, PY.es_bin, PY.es_un, PY.es_cmp, PY.es_chain, PY.es_and, PY.es_or, PY.es_ite, PY.es_tup, PY.es_lst, PY.es_idx, PY.es_slc, PY.es_rev, PY.es_call, PY.es_make, PY.es_bc, PY.es_bm, PY.es_meth, PY.es_attr, PY.es_isi, PY.es_comp, PY.es_frz, PY.e_attr, PY.e_make, PY.e_isi, PY.e_bm, PY.w_rev, PY.w_frz, PY.w_comp, PY.w_csn, PY.w_csc, PY.w_i_e, PY.w_i_range, PY.rng_1, PY.rng_2, PY.slc_str, PY.toI, PY.w_i_enum, PY.w_for, PY.itm_tup, PY.itm_list, PY.itm_scr, PY.itm_str, PY.itN_tup, PY.chk_none, PY.sq_tup, PY.sq_list, PY.bin_L, PY.bin_T, PY.bc_strI, PY.bc_strS, PY.bc_tupL, PY.bc_tupT, PY.bc_max2, PY.bc_min2, PY.e_v, PY.e_c, PY.e_bin, PY.e_un, PY.e_cmp, PY.e_idx, PY.e_bc, PY.e_call, PY.e_lst, PY.e_tup, PY.e_or, PY.e_and, PY.or1, PY.and1, PY.e_slc, PY.o_none, PY.o_some, PY.s_set, PY.s_ret, PY.s_expr, PY.getV_0, PY.getV_s, PY.bin_add, PY.bin_sub, PY.bin_mul, PY.bin_fdiv, PY.bin_mod, PY.bin_pow, PY.bin_cat, PY.cmp_lt, PY.cmp_le, PY.cmp_gt, PY.cmp_ge, PY.un_not, PY.un_neg, PY.idx_tup, PY.idx_list, PY.idx_scr, PY.bc_int, PY.bc_abs, PY.bc_divmod, PY.bc_lenS, PY.bc_lenT, PY.bc_lenL, PY.bc_lenC, PY.a_tup, PY.as_nil, PY.as_cons, PY.okE, PY.bindE, PY.flE, PY.rtE, PY.nxE, PY.opt_s, PY.bind_ok, PY.fl_ok, PY.cm_lt, PY.cm_le, PY.cm_gt, PY.cm_ge, PY.cm_is, PY.cm_isn, PY.cm_in, PY.cm_nin, PY.cm_eqI, PY.cm_neI, PY.cm_eqS, PY.cm_neS, PY.cm_eqL, PY.cm_neL, PY.cm_eqT, PY.cm_neT, PY.cmp_eqS, PY.cmp_neS, PY.cmp_eqI, PY.cmp_neI, PY.cmp_inT, PY.ifQ_t, PY.ifQ_f, PY.tr_b, PY.tr_i, PY.tr_s, PY.tr_n, PY.isi_ii, PY.isi_bi, PY.isi_ss, PY.isi_tt, Option.map_some, PY.atI_0, PY.atI_1, PY.atI_2, PY.atI_3, PY.atI_4, PY.atI_5, List.set_cons_zero, List.set_cons_succ, c_12, row (g.hp.all a ma)]
      simp
    · have e1 : ls.map (fun x => D.str (lrow x)) = (ls.map lrow).map D.str := by rw [List.map_map]; rfl
      have e2 : ps.map (fun x => D.str (prow x)) = (ps.map prow).map D.str := by rw [List.map_map]; rfl
      rw [e1, e2, List.append_nil, ← List.map_append, w_join (ys := ("slide " ++ m) :: (ls.map lrow ++ ps.map prow)) (by rw [strs?, PY.strs_map]; rfl)]
      refine ⟨trivial, ?_, ?_, g.jl, ?_⟩
      · simp; omega
      · simp; omega
      · simp only [PY.wSs, PY.wSn, PY.w_if, PY.w_and2, PY.w_or2, PY.w_ite, PY.w_chain, PY.w_opt_s, PY.w_guard, PY.w_set_n0, PY.w_set_ns, PY.w_aug, PY.aug_add, PY.aug_sub, PY.idx_l0, PY.idx_l1, PY.idx_p0, PY.idx_p1, PY.idx_p2, PY.idx_p3, PY.idx_p4, PY.idx_p5, PY.w_mkLf, PY.w_mkLt, PY.es_star, PY.ks_cons, PY.ks_nil, PY.es_nil, PY.es_v, PY.es_c, PY.es_g, PY.es_bin, PY.es_un, PY.es_cmp, PY.es_chain, PY.es_and, PY.es_or, PY.es_ite, PY.es_tup, PY.es_lst, PY.es_idx, PY.es_slc, PY.es_rev, PY.es_call, PY.es_make, PY.es_bc, PY.es_bm, PY.es_meth, PY.es_attr, PY.es_isi, PY.es_comp, PY.es_frz, PY.e_attr, PY.e_make, PY.e_isi, PY.e_bm, PY.w_rev, PY.w_frz, PY.w_comp, PY.w_csn, PY.w_csc, PY.w_i_e, PY.w_i_range, PY.rng_1, PY.rng_2, PY.slc_str, PY.toI, PY.w_i_enum, PY.w_for, PY.itm_tup, PY.itm_list, PY.itm_scr, PY.itm_str, PY.itN_tup, PY.chk_none, PY.sq_tup, PY.sq_list, PY.bin_L, PY.bin_T, PY.bc_strI, PY.bc_strS, PY.bc_tupL, PY.bc_tupT, PY.bc_max2, PY.bc_min2, PY.e_v, PY.e_c, PY.e_bin, PY.e_un, PY.e_cmp, PY.e_idx, PY.e_bc, PY.e_call, PY.e_lst, PY.e_tup, PY.e_or, PY.e_and, PY.or1, PY.and1, PY.e_slc, PY.o_none, PY.o_some, PY.s_set, PY.s_ret, PY.s_expr, PY.getV_0, PY.getV_s, PY.bin_add, PY.bin_sub, PY.bin_mul, PY.bin_fdiv, PY.bin_mod, PY.bin_pow, PY.bin_cat, PY.cmp_lt, PY.cmp_le, PY.cmp_gt, PY.cmp_ge, PY.un_not, PY.un_neg, PY.idx_tup, PY.idx_list, PY.idx_scr, PY.bc_int, PY.bc_abs, PY.bc_divmod, PY.bc_lenS, PY.bc_lenT, PY.bc_lenL, PY.bc_lenC, PY.a_tup, PY.as_nil, PY.as_cons, PY.okE, PY.bindE, PY.flE, PY.rtE, PY.nxE, PY.opt_s, PY.bind_ok, PY.fl_ok, PY.cm_lt, PY.cm_le, PY.cm_gt, PY.cm_ge, PY.cm_is, PY.cm_isn, PY.cm_in, PY.cm_nin, PY.cm_eqI, PY.cm_neI, PY.cm_eqS, PY.cm_neS, PY.cm_eqL, PY.cm_neL, PY.cm_eqT, PY.cm_neT, PY.cmp_eqS, PY.cmp_neS, PY.cmp_eqI, PY.cmp_neI, PY.cmp_inT, PY.ifQ_t, PY.ifQ_f, PY.tr_b, PY.tr_i, PY.tr_s, PY.tr_n, PY.isi_ii, PY.isi_bi, PY.isi_ss, PY.isi_tt, Option.map_some, PY.atI_0, PY.atI_1, PY.atI_2, PY.atI_3, PY.atI_4, PY.atI_5, List.set_cons_zero, List.set_cons_succ]
        exact ⟨rfl, trivial⟩
theorem q_channels {n : Nat} {m : Str} {ls : List (Str × Int)} {ps : List Part} {h : Hh} : PY.run prg (n + 1) 39 [sld m ls ps] h = .ok (.tup (ls.map laneD)) h := by
  refine okR_eq ?_
  rw [r_39]
  unfold sld
  simp only [PY.wSs, PY.wSn, PY.w_if, PY.w_and2, PY.w_or2, PY.w_ite, PY.w_chain, PY.w_opt_s, PY.w_guard, PY.w_set_n0, PY.w_set_ns, PY.w_aug, PY.aug_add, PY.aug_sub, PY.idx_l0, PY.idx_l1, PY.idx_p0, PY.idx_p1, PY.idx_p2, PY.idx_p3, PY.idx_p4, PY.idx_p5, PY.w_mkLf, PY.w_mkLt, PY.es_star, PY.ks_cons, PY.ks_nil, PY.es_nil, PY.es_v, PY.es_c, PY.es_g, PY.es_bin, PY.es_un, PY.es_cmp, PY.es_chain, PY.es_and, PY.es_or, PY.es_ite, PY.es_tup, PY.es_lst, PY.es_idx, PY.es_slc, PY.es_rev, PY.es_call, PY.es_make, PY.es_bc, PY.es_bm, PY.es_meth, PY.es_attr, PY.es_isi, PY.es_comp, PY.es_frz, PY.e_attr, PY.e_make, PY.e_isi, PY.e_bm, PY.w_rev, PY.w_frz, PY.w_comp, PY.w_csn, PY.w_csc, PY.w_i_e, PY.w_i_range, PY.rng_1, PY.rng_2, PY.slc_str, PY.toI, PY.w_i_enum, PY.w_for, PY.itm_tup, PY.itm_list, PY.itm_scr, PY.itm_str, PY.itN_tup, PY.chk_none, PY.sq_tup, PY.sq_list, PY.bin_L, PY.bin_T, PY.bc_strI, PY.bc_strS, PY.bc_tupL, PY.bc_tupT, PY.bc_max2, PY.bc_min2, PY.e_v, PY.e_c, PY.e_bin, PY.e_un, PY.e_cmp, PY.e_idx, PY.e_bc, PY.e_call, PY.e_lst, PY.e_tup, PY.e_or, PY.e_and, PY.or1, PY.and1, PY.e_slc, PY.o_none, PY.o_some, PY.s_set, PY.s_ret, PY.s_expr, PY.getV_0, PY.getV_s, PY.bin_add, PY.bin_sub, PY.bin_mul, PY.bin_fdiv, PY.bin_mod, PY.bin_pow, PY.bin_cat, PY.cmp_lt, PY.cmp_le, PY.cmp_gt, PY.cmp_ge, PY.un_not, PY.un_neg, PY.idx_tup, PY.idx_list, PY.idx_scr, PY.bc_int, PY.bc_abs, PY.bc_divmod, PY.bc_lenS, PY.bc_lenT, PY.bc_lenL, PY.bc_lenC, PY.a_tup, PY.as_nil, PY.as_cons, PY.okE, PY.bindE, PY.flE, PY.rtE, PY.nxE, PY.opt_s, PY.bind_ok, PY.fl_ok, PY.cm_lt, PY.cm_le, PY.cm_gt, PY.cm_ge, PY.cm_is, PY.cm_isn, PY.cm_in, PY.cm_nin, PY.cm_eqI, PY.cm_neI, PY.cm_eqS, PY.cm_neS, PY.cm_eqL, PY.cm_neL, PY.cm_eqT, PY.cm_neT, PY.cmp_eqS, PY.cmp_neS, PY.cmp_eqI, PY.cmp_neI, PY.cmp_inT, PY.ifQ_t, PY.ifQ_f, PY.tr_b, PY.tr_i, PY.tr_s, PY.tr_n, PY.isi_ii, PY.isi_bi, PY.isi_ss, PY.isi_tt, Option.map_some, PY.atI_0, PY.atI_1, PY.atI_2, PY.atI_3, PY.atI_4, PY.atI_5, List.set_cons_zero, List.set_cons_succ, fn39, at_9_0]
  rw [tr_lanes]
  simp
theorem q_effects {n : Nat} {m : Str} {ls : List (Str × Int)} {ps : List Part} {h : Hh} : PY.run prg (n + 1) 40 [sld m ls ps] h = .ok (.tup (ps.map partD)) h := by
  refine okR_eq ?_
  rw [r_40]
  unfold sld
  simp only [PY.wSs, PY.wSn, PY.w_if, PY.w_and2, PY.w_or2, PY.w_ite, PY.w_chain, PY.w_opt_s, PY.w_guard, PY.w_set_n0, PY.w_set_ns, PY.w_aug, PY.aug_add, PY.aug_sub, PY.idx_l0, PY.idx_l1, PY.idx_p0, PY.idx_p1, PY.idx_p2, PY.idx_p3, PY.idx_p4, PY.idx_p5, PY.w_mkLf, PY.w_mkLt, PY.es_star, PY.ks_cons, PY.ks_nil, PY.es_nil, PY.es_v, PY.es_c, PY.es_g, PY.es_bin, PY.es_un, PY.es_cmp, PY.es_chain, PY.es_and, PY.es_or, PY.es_ite, PY.es_tup, PY.es_lst, PY.es_idx, PY.es_slc, PY.es_rev, PY.es_call, PY.es_make, PY.es_bc, PY.es_bm, PY.es_meth, PY.es_attr, PY.es_isi, PY.es_comp, PY.es_frz, PY.e_attr, PY.e_make, PY.e_isi, PY.e_bm, PY.w_rev, PY.w_frz, PY.w_comp, PY.w_csn, PY.w_csc, PY.w_i_e, PY.w_i_range, PY.rng_1, PY.rng_2, PY.slc_str, PY.toI, PY.w_i_enum, PY.w_for, PY.itm_tup, PY.itm_list, PY.itm_scr, PY.itm_str, PY.itN_tup, PY.chk_none, PY.sq_tup, PY.sq_list, PY.bin_L, PY.bin_T, PY.bc_strI, PY.bc_strS, PY.bc_tupL, PY.bc_tupT, PY.bc_max2, PY.bc_min2, PY.e_v, PY.e_c, PY.e_bin, PY.e_un, PY.e_cmp, PY.e_idx, PY.e_bc, PY.e_call, PY.e_lst, PY.e_tup, PY.e_or, PY.e_and, PY.or1, PY.and1, PY.e_slc, PY.o_none, PY.o_some, PY.s_set, PY.s_ret, PY.s_expr, PY.getV_0, PY.getV_s, PY.bin_add, PY.bin_sub, PY.bin_mul, PY.bin_fdiv, PY.bin_mod, PY.bin_pow, PY.bin_cat, PY.cmp_lt, PY.cmp_le, PY.cmp_gt, PY.cmp_ge, PY.un_not, PY.un_neg, PY.idx_tup, PY.idx_list, PY.idx_scr, PY.bc_int, PY.bc_abs, PY.bc_divmod, PY.bc_lenS, PY.bc_lenT, PY.bc_lenL, PY.bc_lenC, PY.a_tup, PY.as_nil, PY.as_cons, PY.okE, PY.bindE, PY.flE, PY.rtE, PY.nxE, PY.opt_s, PY.bind_ok, PY.fl_ok, PY.cm_lt, PY.cm_le, PY.cm_gt, PY.cm_ge, PY.cm_is, PY.cm_isn, PY.cm_in, PY.cm_nin, PY.cm_eqI, PY.cm_neI, PY.cm_eqS, PY.cm_neS, PY.cm_eqL, PY.cm_neL, PY.cm_eqT, PY.cm_neT, PY.cmp_eqS, PY.cmp_neS, PY.cmp_eqI, PY.cmp_neI, PY.cmp_inT, PY.ifQ_t, PY.ifQ_f, PY.tr_b, PY.tr_i, PY.tr_s, PY.tr_n, PY.isi_ii, PY.isi_bi, PY.isi_ss, PY.isi_tt, Option.map_some, PY.atI_0, PY.atI_1, PY.atI_2, PY.atI_3, PY.atI_4, PY.atI_5, List.set_cons_zero, List.set_cons_succ, fn40, at_10_0]
  rw [tr_parts]
  simp
theorem q_clicks {n : Nat} {m : Str} {ls : List (Str × Int)} {ps : List Part} {h : Hh} (l8 : ps.length ≤ 8) : PY.run prg (n + 1) 42 [sld m ls ps] h = .ok (.int (ps.filter Part.click).length) h := by
  refine okR_eq ?_
  rw [r_42]
  have sl := sizeLine_eq
  unfold sld
  simp only [PY.wSs, PY.wSn, PY.w_if, PY.w_and2, PY.w_or2, PY.w_ite, PY.w_chain, PY.w_opt_s, PY.w_guard, PY.w_set_n0, PY.w_set_ns, PY.w_aug, PY.aug_add, PY.aug_sub, PY.idx_l0, PY.idx_l1, PY.idx_p0, PY.idx_p1, PY.idx_p2, PY.idx_p3, PY.idx_p4, PY.idx_p5, PY.w_mkLf, PY.w_mkLt, PY.es_star, PY.ks_cons, PY.ks_nil, PY.es_nil, PY.es_v, PY.es_c, PY.es_g, PY.es_bin, PY.es_un, PY.es_cmp, PY.es_chain, PY.es_and, PY.es_or, PY.es_ite, PY.es_tup, PY.es_lst, PY.es_idx, PY.es_slc, PY.es_rev, PY.es_call, PY.es_make, PY.es_bc, PY.es_bm, PY.es_meth, PY.es_attr, PY.es_isi, PY.es_comp, PY.es_frz, PY.e_attr, PY.e_make, PY.e_isi, PY.e_bm, PY.w_rev, PY.w_frz, PY.w_comp, PY.w_csn, PY.w_csc, PY.w_i_e, PY.w_i_range, PY.rng_1, PY.rng_2, PY.slc_str, PY.toI, PY.w_i_enum, PY.w_for, PY.itm_tup, PY.itm_list, PY.itm_scr, PY.itm_str, PY.itN_tup, PY.chk_none, PY.sq_tup, PY.sq_list, PY.bin_L, PY.bin_T, PY.bc_strI, PY.bc_strS, PY.bc_tupL, PY.bc_tupT, PY.bc_max2, PY.bc_min2, PY.e_v, PY.e_c, PY.e_bin, PY.e_un, PY.e_cmp, PY.e_idx, PY.e_bc, PY.e_call, PY.e_lst, PY.e_tup, PY.e_or, PY.e_and, PY.or1, PY.and1, PY.e_slc, PY.o_none, PY.o_some, PY.s_set, PY.s_ret, PY.s_expr, PY.getV_0, PY.getV_s, PY.bin_add, PY.bin_sub, PY.bin_mul, PY.bin_fdiv, PY.bin_mod, PY.bin_pow, PY.bin_cat, PY.cmp_lt, PY.cmp_le, PY.cmp_gt, PY.cmp_ge, PY.un_not, PY.un_neg, PY.idx_tup, PY.idx_list, PY.idx_scr, PY.bc_int, PY.bc_abs, PY.bc_divmod, PY.bc_lenS, PY.bc_lenT, PY.bc_lenL, PY.bc_lenC, PY.a_tup, PY.as_nil, PY.as_cons, PY.okE, PY.bindE, PY.flE, PY.rtE, PY.nxE, PY.opt_s, PY.bind_ok, PY.fl_ok, PY.cm_lt, PY.cm_le, PY.cm_gt, PY.cm_ge, PY.cm_is, PY.cm_isn, PY.cm_in, PY.cm_nin, PY.cm_eqI, PY.cm_neI, PY.cm_eqS, PY.cm_neS, PY.cm_eqL, PY.cm_neL, PY.cm_eqT, PY.cm_neT, PY.cmp_eqS, PY.cmp_neS, PY.cmp_eqI, PY.cmp_neI, PY.cmp_inT, PY.ifQ_t, PY.ifQ_f, PY.tr_b, PY.tr_i, PY.tr_s, PY.tr_n, PY.isi_ii, PY.isi_bi, PY.isi_ss, PY.isi_tt, Option.map_some, PY.atI_0, PY.atI_1, PY.atI_2, PY.atI_3, PY.atI_4, PY.atI_5, List.set_cons_zero, List.set_cons_succ, fn42, at_10_0]
  refine w_cfil (p := Part.click) (k := partD) (fun a ma => ?_) ?_
  · rw [w_cB (env' := [some (sld m ls ps), some (partD a)]) rfl]
    simp only [PY.wSs, PY.wSn, PY.w_if, PY.w_and2, PY.w_or2, PY.w_ite, PY.w_chain, PY.w_opt_s, PY.w_guard, PY.w_set_n0, PY.w_set_ns, PY.w_aug, PY.aug_add, PY.aug_sub, PY.idx_l0, PY.idx_l1, PY.idx_p0, PY.idx_p1, PY.idx_p2, PY.idx_p3, PY.idx_p4, PY.idx_p5, PY.w_mkLf, PY.w_mkLt, PY.es_star, PY.ks_cons, PY.ks_nil, PY.es_nil, PY.es_v, PY.es_c, PY.es_g, PY.es_bin, PY.es_un, PY.es_cmp, PY.es_chain, PY.es_and, PY.es_or, PY.es_ite, PY.es_tup, PY.es_lst, PY.es_idx, PY.es_slc, PY.es_rev, PY.es_call, PY.es_make, PY.es_bc, PY.es_bm, PY.es_meth, PY.es_attr, PY.es_isi, PY.es_comp, PY.es_frz, PY.e_attr, PY.e_make, PY.e_isi, PY.e_bm, PY.w_rev, PY.w_frz, PY.w_comp, PY.w_csn, PY.w_csc, PY.w_i_e, PY.w_i_range, PY.rng_1, PY.rng_2, PY.slc_str, PY.toI, PY.w_i_enum, PY.w_for, PY.itm_tup, PY.itm_list, PY.itm_scr, PY.itm_str, PY.itN_tup, PY.chk_none, PY.sq_tup, PY.sq_list, PY.bin_L, PY.bin_T, PY.bc_strI, PY.bc_strS, PY.bc_tupL, PY.bc_tupT, PY.bc_max2, PY.bc_min2, PY.e_v, PY.e_c, PY.e_bin, PY.e_un, PY.e_cmp, PY.e_idx, PY.e_bc, PY.e_call, PY.e_lst, PY.e_tup, PY.e_or, PY.e_and, PY.or1, PY.and1, PY.e_slc, PY.o_none, PY.o_some, PY.s_set, PY.s_ret, PY.s_expr, PY.getV_0, PY.getV_s, PY.bin_add, PY.bin_sub, PY.bin_mul, PY.bin_fdiv, PY.bin_mod, PY.bin_pow, PY.bin_cat, PY.cmp_lt, PY.cmp_le, PY.cmp_gt, PY.cmp_ge, PY.un_not, PY.un_neg, PY.idx_tup, PY.idx_list, PY.idx_scr, PY.bc_int, PY.bc_abs, PY.bc_divmod, PY.bc_lenS, PY.bc_lenT, PY.bc_lenL, PY.bc_lenC, PY.a_tup, PY.as_nil, PY.as_cons, PY.okE, PY.bindE, PY.flE, PY.rtE, PY.nxE, PY.opt_s, PY.bind_ok, PY.fl_ok, PY.cm_lt, PY.cm_le, PY.cm_gt, PY.cm_ge, PY.cm_is, PY.cm_isn, PY.cm_in, PY.cm_nin, PY.cm_eqI, PY.cm_neI, PY.cm_eqS, PY.cm_neS, PY.cm_eqL, PY.cm_neL, PY.cm_eqT, PY.cm_neT, PY.cmp_eqS, PY.cmp_neS, PY.cmp_eqI, PY.cmp_neI, PY.cmp_inT, PY.ifQ_t, PY.ifQ_f, PY.tr_b, PY.tr_i, PY.tr_s, PY.tr_n, PY.isi_ii, PY.isi_bi, PY.isi_ss, PY.isi_tt, Option.map_some, PY.atI_0, PY.atI_1, PY.atI_2, PY.atI_3, PY.atI_4, PY.atI_5, List.set_cons_zero, List.set_cons_succ, ifQ_d]
    refine ⟨trivial, fun z => ?_, fun z => ?_⟩
    · have : a.click = true := decide_eq_true z
      simp [this]
    · have : a.click = false := decide_eq_false z
      simp [this]
  · have := List.length_filter_le Part.click ps
    simp only [PY.wSs, PY.wSn, PY.w_if, PY.w_and2, PY.w_or2, PY.w_ite, PY.w_chain, PY.w_opt_s, PY.w_guard, PY.w_set_n0, PY.w_set_ns, PY.w_aug, PY.aug_add, PY.aug_sub, PY.idx_l0, PY.idx_l1, PY.idx_p0, PY.idx_p1, PY.idx_p2, PY.idx_p3, PY.idx_p4, PY.idx_p5, PY.w_mkLf, PY.w_mkLt, PY.es_star, PY.ks_cons, PY.ks_nil, PY.es_nil, PY.es_v, PY.es_c, PY.es_g, PY.es_bin, PY.es_un, PY.es_cmp, PY.es_chain, PY.es_and, PY.es_or, PY.es_ite, PY.es_tup, PY.es_lst, PY.es_idx, PY.es_slc, PY.es_rev, PY.es_call, PY.es_make, PY.es_bc, PY.es_bm, PY.es_meth, PY.es_attr, PY.es_isi, PY.es_comp, PY.es_frz, PY.e_attr, PY.e_make, PY.e_isi, PY.e_bm, PY.w_rev, PY.w_frz, PY.w_comp, PY.w_csn, PY.w_csc, PY.w_i_e, PY.w_i_range, PY.rng_1, PY.rng_2, PY.slc_str, PY.toI, PY.w_i_enum, PY.w_for, PY.itm_tup, PY.itm_list, PY.itm_scr, PY.itm_str, PY.itN_tup, PY.chk_none, PY.sq_tup, PY.sq_list, PY.bin_L, PY.bin_T, PY.bc_strI, PY.bc_strS, PY.bc_tupL, PY.bc_tupT, PY.bc_max2, PY.bc_min2, PY.e_v, PY.e_c, PY.e_bin, PY.e_un, PY.e_cmp, PY.e_idx, PY.e_bc, PY.e_call, PY.e_lst, PY.e_tup, PY.e_or, PY.e_and, PY.or1, PY.and1, PY.e_slc, PY.o_none, PY.o_some, PY.s_set, PY.s_ret, PY.s_expr, PY.getV_0, PY.getV_s, PY.bin_add, PY.bin_sub, PY.bin_mul, PY.bin_fdiv, PY.bin_mod, PY.bin_pow, PY.bin_cat, PY.cmp_lt, PY.cmp_le, PY.cmp_gt, PY.cmp_ge, PY.un_not, PY.un_neg, PY.idx_tup, PY.idx_list, PY.idx_scr, PY.bc_int, PY.bc_abs, PY.bc_divmod, PY.bc_lenS, PY.bc_lenT, PY.bc_lenL, PY.bc_lenC, PY.a_tup, PY.as_nil, PY.as_cons, PY.okE, PY.bindE, PY.flE, PY.rtE, PY.nxE, PY.opt_s, PY.bind_ok, PY.fl_ok, PY.cm_lt, PY.cm_le, PY.cm_gt, PY.cm_ge, PY.cm_is, PY.cm_isn, PY.cm_in, PY.cm_nin, PY.cm_eqI, PY.cm_neI, PY.cm_eqS, PY.cm_neS, PY.cm_eqL, PY.cm_neL, PY.cm_eqT, PY.cm_neT, PY.cmp_eqS, PY.cmp_neS, PY.cmp_eqI, PY.cmp_neI, PY.cmp_inT, PY.ifQ_t, PY.ifQ_f, PY.tr_b, PY.tr_i, PY.tr_s, PY.tr_n, PY.isi_ii, PY.isi_bi, PY.isi_ss, PY.isi_tt, Option.map_some, PY.atI_0, PY.atI_1, PY.atI_2, PY.atI_3, PY.atI_4, PY.atI_5, List.set_cons_zero, List.set_cons_succ]
    refine ⟨trivial, by rw [List.length_map]; omega, by simp⟩
theorem q_len {n : Nat} {m : Str} {ls : List (Str × Int)} {ps : List Part} {h : Hh} : PY.run prg (n + 1) 43 [sld m ls ps] h = .ok (.int ps.length) h := by
  refine okR_eq ?_
  rw [r_43]
  unfold sld
  simp only [PY.wSs, PY.wSn, PY.w_if, PY.w_and2, PY.w_or2, PY.w_ite, PY.w_chain, PY.w_opt_s, PY.w_guard, PY.w_set_n0, PY.w_set_ns, PY.w_aug, PY.aug_add, PY.aug_sub, PY.idx_l0, PY.idx_l1, PY.idx_p0, PY.idx_p1, PY.idx_p2, PY.idx_p3, PY.idx_p4, PY.idx_p5, PY.w_mkLf, PY.w_mkLt, PY.es_star, PY.ks_cons, PY.ks_nil, PY.es_nil, PY.es_v, PY.es_c, PY.es_g, PY.es_bin, PY.es_un, PY.es_cmp, PY.es_chain, PY.es_and, PY.es_or, PY.es_ite, PY.es_tup, PY.es_lst, PY.es_idx, PY.es_slc, PY.es_rev, PY.es_call, PY.es_make, PY.es_bc, PY.es_bm, PY.es_meth, PY.es_attr, PY.es_isi, PY.es_comp, PY.es_frz, PY.e_attr, PY.e_make, PY.e_isi, PY.e_bm, PY.w_rev, PY.w_frz, PY.w_comp, PY.w_csn, PY.w_csc, PY.w_i_e, PY.w_i_range, PY.rng_1, PY.rng_2, PY.slc_str, PY.toI, PY.w_i_enum, PY.w_for, PY.itm_tup, PY.itm_list, PY.itm_scr, PY.itm_str, PY.itN_tup, PY.chk_none, PY.sq_tup, PY.sq_list, PY.bin_L, PY.bin_T, PY.bc_strI, PY.bc_strS, PY.bc_tupL, PY.bc_tupT, PY.bc_max2, PY.bc_min2, PY.e_v, PY.e_c, PY.e_bin, PY.e_un, PY.e_cmp, PY.e_idx, PY.e_bc, PY.e_call, PY.e_lst, PY.e_tup, PY.e_or, PY.e_and, PY.or1, PY.and1, PY.e_slc, PY.o_none, PY.o_some, PY.s_set, PY.s_ret, PY.s_expr, PY.getV_0, PY.getV_s, PY.bin_add, PY.bin_sub, PY.bin_mul, PY.bin_fdiv, PY.bin_mod, PY.bin_pow, PY.bin_cat, PY.cmp_lt, PY.cmp_le, PY.cmp_gt, PY.cmp_ge, PY.un_not, PY.un_neg, PY.idx_tup, PY.idx_list, PY.idx_scr, PY.bc_int, PY.bc_abs, PY.bc_divmod, PY.bc_lenS, PY.bc_lenT, PY.bc_lenL, PY.bc_lenC, PY.a_tup, PY.as_nil, PY.as_cons, PY.okE, PY.bindE, PY.flE, PY.rtE, PY.nxE, PY.opt_s, PY.bind_ok, PY.fl_ok, PY.cm_lt, PY.cm_le, PY.cm_gt, PY.cm_ge, PY.cm_is, PY.cm_isn, PY.cm_in, PY.cm_nin, PY.cm_eqI, PY.cm_neI, PY.cm_eqS, PY.cm_neS, PY.cm_eqL, PY.cm_neL, PY.cm_eqT, PY.cm_neT, PY.cmp_eqS, PY.cmp_neS, PY.cmp_eqI, PY.cmp_neI, PY.cmp_inT, PY.ifQ_t, PY.ifQ_f, PY.tr_b, PY.tr_i, PY.tr_s, PY.tr_n, PY.isi_ii, PY.isi_bi, PY.isi_ss, PY.isi_tt, Option.map_some, PY.atI_0, PY.atI_1, PY.atI_2, PY.atI_3, PY.atI_4, PY.atI_5, List.set_cons_zero, List.set_cons_succ, fn43, at_10_0]
  exact ⟨by rw [List.length_map], trivial⟩
theorem am_channels {T : Tab} {m : Str} {ls : List (Str × Int)} {ps : List Part} {h : Hh} : attrM prg T 5 (sld m ls ps) h = T 39 [sld m ls ps] h := rfl
theorem am_effects {T : Tab} {m : Str} {ls : List (Str × Int)} {ps : List Part} {h : Hh} : attrM prg T 4 (sld m ls ps) h = T 40 [sld m ls ps] h := rfl
theorem am_clicks {T : Tab} {m : Str} {ls : List (Str × Int)} {ps : List Part} {h : Hh} : attrM prg T 6 (sld m ls ps) h = T 42 [sld m ls ps] h := rfl
theorem am_len {n : Nat} {b : Bool} {m : Str} {ls : List (Str × Int)} {ps : List Part} {h : Hh} (l8 : ps.length ≤ 8) : bcM prg (PY.run prg (n + 1)) b .len [sld m ls ps] h = .ok (.int ps.length) h := by
  show (PY.run prg (n + 1) 43 [sld m ls ps] h).bind _ = _
  rw [q_len, bind_ok]
  exact guard_t (by rw [decide_eq_true (by omega), decide_eq_true (by omega)]; rfl)
theorem am_str {n : Nat} {b : Bool} {m : Str} {ls : List (Str × Int)} {ps : List Part} {h : Hh} (g : GS m ls ps) : bcM prg (PY.run prg (n + 2)) b .str [sld m ls ps] h = .ok (.str (slText m ls ps)) h := by
  show (PY.run prg (n + 2) 47 [sld m ls ps] h).bind _ = _
  rw [text g, bind_ok]
/-- what a slide is made of -/
def pie (m : Str) (ls : List (Str × Int)) (ps : List Part) : D := .tup [.str m, .tup (ls.map laneD), .tup (ps.map partD)]
theorem idx_pie0 {m : Str} {ls : List (Str × Int)} {ps : List Part} {h : Hh} : idxD (pie m ls ps) (.int 0) h = .ok (.str m) h := by rw [pie, idx_tup, atI_0, opt_s]
theorem idx_pie1 {m : Str} {ls : List (Str × Int)} {ps : List Part} {h : Hh} : idxD (pie m ls ps) (.int 1) h = .ok (.tup (ls.map laneD)) h := by rw [pie, idx_tup, atI_1, opt_s]
theorem idx_pie2 {m : Str} {ls : List (Str × Int)} {ps : List Part} {h : Hh} : idxD (pie m ls ps) (.int 2) h = .ok (.tup (ps.map partD)) h := by rw [pie, idx_tup, atI_2, opt_s]
end K12
end
section
set_option Elab.async false
set_option linter.all false
set_option maxRecDepth 100000
namespace K12
open PySem PyProof.Rows PY L12
theorem grab {n i : Nat} {m : Int} {h : Hh} {Q : D → Hh → Prop} (s : Sk i h) (m0 : 0 < m) (m1 : m < 1073741824) (q : ∀ (d : Int) (h' : Hh), 0 ≤ d → d < m → Stp i h h' → Q (.int d) h') : okR (PY.run prg (n + 1) 22 [.ref i, .int m] h) Q := by
  have l := s.lt
  obtain ⟨a, b, c, e, ha, hb, hc⟩ := s
  refine run_w (F := fn22) rfl rfl ?_
  show wF (evSs prg (PY.run prg n) fn22.body [some (.ref i), some (.int m), none] h) _ _
  unfold fn22
  refine wF_cons ?_
  have i2 : ∀ x y z : D, L2.atI [x, y, z] 2 = some z := fun x y z => rfl
  have i1 : ∀ x y z : D, L2.atI [x, y, z] 1 = some y := fun x y z => rfl
  have i0 : ∀ x y z : D, L2.atI [x, y, z] 0 = some x := fun x y z => rfl
  rw [s_set, e_bin, e_idx]
  simp only [e_v, e_c, getV_0, opt_s, bind_ok, fl_ok, idx_ref e, i2, bin_add]
  rw [a_sub (e1 := by rw [e_v]; rfl) (e2 := e_c) (e3 := e) (e4 := rfl), fl_ok]
  refine wF_nx ?_
  have e1 : (h.set i (.lst [.int a, .int b, .int (c + 1)]))[i]? = some (.lst [.int a, .int b, .int (c + 1)]) := by rw [List.getElem?_set_self l]
  show wF (evSs prg (PY.run prg n) _ [some (.ref i), some (.int m), none] (h.set i (.lst [.int a, .int b, .int (c + 1)]))) _ _
  refine wF_cons ?_
  rw [s_if, e_cmp, e_idx]
  simp only [e_v, e_c, getV_0, getV_s, opt_s, bind_ok, fl_ok, idx_ref e1, i0, cm_gt, cmp_gt]
  have fin : ∀ (d x y z : Int), 0 ≤ d → d < m → 0 ≤ x → 0 ≤ y → 0 ≤ z → okR (trim false h (.ok (.int d) (h.set i (.lst [.int x, .int y, .int z])))) Q := fun d x y z d0 d1 hx hy hz => by
    have s := Stp.put (h := h) l hx hy hz
    have := trim_stp (out := false) (d := .int d) (x := []) s rfl
    rw [List.append_nil] at this
    rw [this]
    exact q d _ d0 d1 s
  by_cases ca : 0 < a
  · rw [decide_eq_true ca]
    refine wF_cons ?_
    have d1 := Int.emod_lt_of_pos a m0
    have d0 := Int.emod_nonneg a (Int.ne_of_gt m0)
    have q0 := Int.ediv_nonneg ha (Int.le_of_lt m0)
    rw [s_set, e_bc]
    simp only [es_cons (a := .idx _ _) (fun _ z => by cases z), es_cons (a := .v _) (fun _ z => by cases z), es_nil, e_idx, e_v, e_c, getV_0, getV_s, opt_s, bind_ok, fl_ok, idx_ref e1, i0, bc_divmod]
    rw [guard_t (by rw [decide_eq_true m0, decide_eq_true m1]; rfl), fl_ok, a_tup, as_cons, a_sub (e1 := by rw [e_v]; rfl) (e2 := e_c) (e3 := e1) (e4 := rfl), bind_ok, as_cons, a_n (by simp), bind_ok, as_nil, fl_ok]
    refine wF_nx ?_
    refine wF_cons ?_
    rw [s_ret, e_v]
    simp only [List.set_cons_succ, List.set_cons_zero, getV_0, getV_s, opt_s, fl_ok]
    refine wF_rt ?_
    rw [List.set_set]
    exact fin _ _ _ _ d0 d1 q0 hb (by omega)
  · rw [decide_eq_false ca]
    refine wF_nil ?_
    refine wF_cons ?_
    have f1 : fitsMul b 48271 = true := by simp [fitsMul]
    have f2 : fitsMul 7919 (c + 1) = true := by simp [fitsMul]
    rw [s_set, e_bin, e_bc]
    simp only [es_cons (a := .bin _ _ _ _) (fun _ z => by cases z), es_nil, e_bin, e_idx, e_v, e_c, getV_0, getV_s, opt_s, bind_ok, fl_ok, idx_ref e1, i0, i1, i2, bin_mul, bin_add, guard_t f1, guard_t f2, bc_int, bin_mod]
    rw [guard_t (by decide), fl_ok, a_sub (e1 := by rw [e_v]; rfl) (e2 := e_c) (e3 := e1) (e4 := rfl), fl_ok]
    refine wF_nx ?_
    have y0 : 0 ≤ (b * 48271 + 7919 * (c + 1) + 1) % 2147483323 := Int.emod_nonneg _ (by decide)
    generalize (b * 48271 + 7919 * (c + 1) + 1) % 2147483323 = y at y0
    rw [List.set_set]
    show wF (evSs prg (PY.run prg n) _ [some (.ref i), some (.int m), none] (h.set i (.lst [.int a, .int y, .int (c + 1)]))) _ _
    have e2 : (h.set i (.lst [.int a, .int y, .int (c + 1)]))[i]? = some (.lst [.int a, .int y, .int (c + 1)]) := by rw [List.getElem?_set_self l]
    refine wF_cons ?_
    rw [s_ret, e_bin, e_bc]
    simp only [es_cons (a := .bin _ _ _ _) (fun _ z => by cases z), es_nil, e_bin, e_idx, e_v, e_c, getV_0, getV_s, opt_s, bind_ok, fl_ok, idx_ref e2, i1, bin_fdiv]
    rw [guard_t (by decide)]
    simp only [bind_ok, bc_int, bin_mod]
    rw [guard_t (decide_eq_true m0), fl_ok]
    exact wF_rt (fin _ _ _ _ (Int.emod_nonneg _ (Int.ne_of_gt m0)) (Int.emod_lt_of_pos _ m0) ha y0 (by omega))
theorem pickL {n i : Nat} {xs : List D} {h : Hh} {Q : D → Hh → Prop} (s : Sk i h) (x0 : 0 < xs.length) (x1 : xs.length < 1073741824) (q : ∀ (d : D) (h' : Hh), d ∈ xs → Stp i h h' → Q d h') (hp : D.lts 0 xs = true) : okR (PY.run prg (n + 2) 23 [.ref i, .list xs] h) Q := by
  refine run_w (F := fn23) rfl rfl ?_
  show wF (evSs prg (PY.run prg (n + 1)) fn23.body [some (.ref i), some (.list xs)] h) _ _
  unfold fn23
  refine wF_cons ?_
  rw [s_ret, e_idx, e_v, getV_s, getV_0, opt_s, bind_ok, e_call]
  simp only [es_cons (a := .v _) (fun _ z => by cases z), es_cons (a := .bc _ _ _) (fun _ z => by cases z), es_nil, ks_nil, e_bc, e_v, getV_0, getV_s, opt_s, bind_ok, bc_lenL]
  rw [callM_pos (F := fn22) rfl (by decide +kernel) rfl (by decide)]
  refine wF_fl (okR_bind (grab s (by omega) (by omega) fun d h' d0 d1 st => ?_))
  obtain ⟨x, e, hm⟩ := atI_nat (xs := xs) d0 d1
  rw [idx_list, e, opt_s]
  refine okR_ok (wF_rt ?_)
  have := trim_stp (out := false) (d := x) (x := []) st (lts_mem hp hm)
  rw [List.append_nil] at this
  rw [this]
  exact q _ _ hm st
theorem sack {n : Nat} {t : Int} {ns : List Int} {h : Hh} {Q : D → Hh → Prop} (t0 : 0 ≤ t) (t1 : t < 100) (q : ∀ (a b : Int), 0 ≤ a → 0 ≤ b → Q (.ref h.length) (h ++ [.lst [.int a, .int b, .int 0]])) : okR (PY.run prg (n + 1) 21 [.scr (ns.map D.int), .int t] h) Q := by
  refine run_w (F := fn21) rfl rfl ?_
  show wF (evSs prg (PY.run prg n) fn21.body [some (.scr (ns.map D.int)), some (.int t), none, none, none] h) _ _
  unfold fn21
  refine wF_cons ?_
  have f1 : fitsMul 10007 t = true := by simp [fitsMul]
  rw [s_set]
  simp only [e_bin, e_v, e_c, getV_0, getV_s, opt_s, bind_ok, bin_mul, guard_t f1, bin_add, fl_ok]
  rw [a_n (by simp), fl_ok]
  refine wF_nx ?_
  refine wF_cons ?_
  have ei : evE prg (PY.run prg n) (.slc (.v 0) none (some (.c (.int 7)))) [some (.scr (ns.map D.int)), some (.int t), some (.int (40961 + 10007 * t)), none, none] h = .ok (.list (cutD (ns.map D.int) none (some 7))) h := by
    rw [e_slc, e_v, getV_0, opt_s, bind_ok, o_none, bind_ok, o_int, bind_ok]
    rfl
  show wF (evS _ _ _ [some (.scr (ns.map D.int)), some (.int t), some (.int (40961 + 10007 * t)), none, none] h) _ _
  rw [s_for, i_e ei rfl, fl_ok]
  refine forM_w (I := fun xs env hh => hh = h ∧ (∀ d ∈ xs, ∃ k : Int, d = .int k) ∧ ∃ (s : Int) (o : Option D), 0 ≤ s ∧ env = [some (.scr (ns.map D.int)), some (.int t), some (.int s), o, none]) (fun _ _ _ _ => rfl) ?_ ?_ ⟨rfl, fun d m => ?_, 40961 + 10007 * t, none, by omega, rfl⟩
  · rintro d r env hh ⟨rfl, hx, s, o, s0, rfl⟩
    obtain ⟨k, rfl⟩ := hx d List.mem_cons_self
    rw [tgt_n (by simp)]
    show wF (evSs _ _ _ [some (.scr (ns.map D.int)), some (.int t), some (.int s), some (.int k), none] hh) _ _
    refine wF_cons ?_
    have g1 : fitsMul s 50069 = true := by simp [fitsMul]
    have g2 : fitsMul k 5 = true := by simp [fitsMul]
    rw [s_set, e_bin, e_bc]
    simp only [es_cons (a := .bin _ _ _ _) (fun _ z => by cases z), es_cons (a := .v _) (fun _ z => by cases z), es_nil, e_bin, e_bc, e_v, e_c, getV_0, getV_s, opt_s, bind_ok, bin_mul, guard_t g1, guard_t g2, bin_add, bc_int, bin_mod]
    rw [guard_t (by decide), fl_ok, a_n (by simp), fl_ok]
    refine wF_nx (wF_nil ?_)
    exact ⟨rfl, fun d m => hx d (List.mem_cons_of_mem _ m), _, _, Int.emod_nonneg _ (by decide), rfl⟩
  · rintro env hh ⟨rfl, _, s, o, s0, rfl⟩
    refine wF_cons ?_
    have own : ∃ w : Int, evE prg (PY.run prg n) (.ite (.cmp .Lt (.v 1) (.bc false .len [.v 0])) (.bc false .int [.idx (.v 0) (.v 1)]) (.v 2)) [some (.scr (ns.map D.int)), some (.int t), some (.int s), o, none] hh = .ok (.int w) hh := by
      rw [e_ite]
      simp only [e_cmp, e_bc, es_cons (a := .v _) (fun _ z => by cases z), es_nil, e_v, getV_0, getV_s, opt_s, bind_ok, bc_lenC, cm_lt, cmp_lt]
      by_cases c : t < ((ns.map D.int).length : Int)
      · rw [decide_eq_true c]
        obtain ⟨x, e, m⟩ := atI_nat t0 c
        obtain ⟨k, _, rfl⟩ := List.mem_map.mp m
        refine ⟨k, ?_⟩
        simp only [es_cons (a := .idx _ _) (fun _ z => by cases z), es_nil, e_idx, e_v, getV_0, getV_s, opt_s, bind_ok, idx_scr, e, bc_int]
      · rw [decide_eq_false c]
        exact ⟨s, rfl⟩
    obtain ⟨w, ew⟩ := own
    rw [s_set, ew, fl_ok, a_n (by simp), fl_ok]
    refine wF_nx (wF_cons ?_)
    show wF (evS _ _ _ [some (.scr (ns.map D.int)), some (.int t), some (.int s), o, some (.int w)] hh) _ _
    have ab : ∃ a : Int, 0 ≤ a ∧ evE prg (PY.run prg n) (.ite (.or [(.cmp .Lt (.v 4) (.c (.int 0))), (.cmp .GtE (.v 4) (.bin false .Pow (.c (.int 10)) (.c (.int 18))))]) (.bc false .abs [(.v 4)]) (.c (.int 0))) [some (.scr (ns.map D.int)), some (.int t), some (.int s), o, some (.int w)] hh = .ok (.int a) hh := by
      have gp : (decide ((0 : Int) ≤ 18) && decide ((18 : Int) ≤ 1000000) && decide ((10 : Int).natAbs < 2 ^ 64)) = true := by decide
      rw [e_ite]
      simp only [e_or, or2, or1, e_cmp, e_bin, e_v, e_c, getV_0, getV_s, opt_s, bind_ok, cm_lt, cmp_lt, cm_ge, cmp_ge, bin_pow, guard_t gp]
      have ea : evE prg (PY.run prg n) (.bc false .abs [(.v 4)]) [some (.scr (ns.map D.int)), some (.int t), some (.int s), o, some (.int w)] hh = .ok (.int (if w < 0 then -w else w)) hh := by
        simp only [e_bc, es_cons (a := .v _) (fun _ z => by cases z), es_nil, e_v, getV_0, getV_s, opt_s, bind_ok, bc_abs]
      have a0 : 0 ≤ (if w < 0 then -w else w) := by split <;> omega
      by_cases c1 : w < 0
      · rw [decide_eq_true c1]
        exact ⟨_, a0, ea⟩
      · rw [decide_eq_false c1]
        by_cases c2 : (10 : Int) ^ (18 : Int).toNat ≤ w
        · simp only [decide_eq_true c2, bind_ok]
          exact ⟨_, a0, ea⟩
        · simp only [decide_eq_false c2, bind_ok]
          exact ⟨0, by omega, rfl⟩
    obtain ⟨a, a0, ea⟩ := ab
    have g3 : fitsMul w 3 = true := by simp [fitsMul]
    rw [s_ret, e_lst, es_cons (a := .ite _ _ _) (fun _ z => by cases z), ea, bind_ok]
    simp only [es_cons (a := .bin _ _ _ _) (fun _ z => by cases z), es_cons (a := .c _) (fun _ z => by cases z), es_nil, e_bin, e_bc, e_v, e_c, getV_0, getV_s, opt_s, bind_ok, bin_mul, guard_t g3, bin_add, bc_int, bin_mod]
    rw [guard_t (by decide)]
    simp only [bind_ok, mkL]
    rw [guard_t (decide_eq_true (by show 3 ≤ sizeLine; decide)), fl_ok]
    refine wF_rt ?_
    rw [trim_new rfl (fun _ _ => rfl)]
    exact q _ _ a0 (Int.emod_nonneg _ (by decide))
  · obtain ⟨k, _, rfl⟩ := List.mem_map.mp (cut_mem m)
    exact ⟨k, rfl⟩
theorem pickS {n i : Nat} {z : Str} {h : Hh} {Q : D → Hh → Prop} (s : Sk i h) (x0 : 0 < z.length) (x1 : z.length < 1000) (q : ∀ (c : Nat) (h' : Hh), c ∈ z.cps.toList → Stp i h h' → Q (.str ⟨#[c]⟩) h') : okR (PY.run prg (n + 2) 23 [.ref i, .str z] h) Q := by
  refine run_w (F := fn23) rfl rfl ?_
  show wF (evSs prg (PY.run prg (n + 1)) fn23.body [some (.ref i), some (.str z)] h) _ _
  unfold fn23
  refine wF_cons ?_
  have zl : z.length ≤ sizeLine := by have := sizeLine_eq; omega
  have zc : z.cps.toList.length = z.length := by simp [Str.length]
  rw [s_ret, e_idx, e_v, getV_s, getV_0, opt_s, bind_ok, e_call]
  simp only [es_cons (a := .v _) (fun _ z => by cases z), es_cons (a := .bc _ _ _) (fun _ z => by cases z), es_nil, ks_nil, e_bc, e_v, getV_0, getV_s, opt_s, bind_ok, bc_lenS, guard_t (decide_eq_true zl)]
  rw [callM_pos (F := fn22) rfl (by decide +kernel) rfl (by decide)]
  refine wF_fl (okR_bind (grab s (by omega) (by omega) fun d h' d0 d1 st => ?_))
  obtain ⟨x, e, hm⟩ := atI_nat (xs := z.cps.toList) d0 (by rw [zc]; exact d1)
  have ei : idxD (.str z) (.int d) h' = .ok (.str ⟨#[x]⟩) h' := by
    show guard (decide (z.length ≤ sizeLine)) (opt ((L2.atI z.cps.toList d).map fun c => D.str ⟨#[c]⟩) h') = _
    rw [guard_t (decide_eq_true zl), e]
    rfl
  rw [ei]
  refine okR_ok (wF_rt ?_)
  have := trim_stp (out := false) (d := .str ⟨#[x]⟩) (x := []) st rfl
  rw [List.append_nil] at this
  rw [this]
  exact q _ _ hm st
theorem value {n i : Nat} {t : Int} {h : Hh} {Q : D → Hh → Prop} (s : Sk i h) (t0 : 0 < t) (t1 : t ≤ 1000000) (q : ∀ (v : Int) (h' : Hh), -t ≤ v → v ≤ t → Stp i h h' → Q (.int v) h') : okR (PY.run prg (n + 3) 25 [.ref i, .int t] h) Q := by
  refine run_w (F := fn25) rfl rfl ?_
  show wF (evSs prg (PY.run prg (n + 2)) fn25.body [some (.ref i), some (.int t)] h) _ _
  unfold fn25
  refine wF_cons ?_
  have f1 : fitsMul 2 t = true := by simp [fitsMul]
  rw [s_ret, e_call]
  simp only [es_cons (a := .v _) (fun _ z => by cases z), es_cons (a := .lst _ _) (fun _ z => by cases z), es_cons (a := .c _) (fun _ z => by cases z), es_cons (a := .bin _ _ _ _) (fun _ z => by cases z), es_cons (a := .bc _ _ _) (fun _ z => by cases z), es_cons (a := .call _ _ _) (fun _ z => by cases z),
    es_nil, ks_nil, e_bin, e_lst, e_bc, e_call, e_v, e_c, getV_0, getV_s, opt_s, bind_ok, bin_mul, guard_t f1, bin_add]
  simp only [flE, bindE, rtE]
  rw [callM_pos (F := fn22) rfl (by decide +kernel) rfl (by decide)]
  refine grab s (by omega) (by omega) fun d1 h1 a0 a1 s1 => ?_
  simp only [bin_sub, okE]
  rw [callM_pos (F := fn22) rfl (by decide +kernel) rfl (by decide)]
  refine grab s1.sk (by omega) (by omega) fun d2 h2 b0 b1 s2 => ?_
  simp only [bin_sub, okE, bc_min2]
  rw [mkL_v (by have := sizeLine_eq; simp only [List.length_cons, List.length_nil]; omega)]
  simp only [okE]
  rw [callM_pos (F := fn23) rfl (by decide +kernel) rfl (by decide)]
  refine pickL s2.sk (by simp) (by simp) (fun d h3 hm s3 => ?_) rfl
  have hv : ∃ v : Int, d = .int v ∧ -t ≤ v ∧ v ≤ t := by
    simp only [List.mem_cons, List.not_mem_nil, or_false] at hm
    rcases hm with rfl | rfl | rfl | rfl | rfl
    · exact ⟨_, rfl, by omega, by omega⟩
    · exact ⟨_, rfl, by omega, by omega⟩
    · exact ⟨_, rfl, by split <;> omega, by split <;> omega⟩
    · exact ⟨_, rfl, by omega, by omega⟩
    · exact ⟨_, rfl, by omega, by omega⟩
  obtain ⟨v, rfl, v0, v1⟩ := hv
  have st := (s1.trans s2).trans s3
  have := trim_stp (out := false) (d := .int v) (x := []) st rfl
  rw [List.append_nil] at this
  rw [this]
  exact q _ _ v0 v1 st
theorem span {n i : Nat} {t : Int} {h : Hh} {Q : D → Hh → Prop} (s : Sk i h) (t0 : 0 < t) (t1 : t ≤ 1000000) (q : ∀ (v : Int) (h' : Hh), 0 ≤ v → v ≤ t → Stp i h h' → Q (.int v) h') : okR (PY.run prg (n + 3) 26 [.ref i, .int t] h) Q := by
  refine run_w (F := fn26) rfl rfl ?_
  show wF (evSs prg (PY.run prg (n + 2)) fn26.body [some (.ref i), some (.int t)] h) _ _
  unfold fn26
  refine wF_cons ?_
  rw [s_ret, e_call]
  simp only [es_cons (a := .v _) (fun _ z => by cases z), es_cons (a := .lst _ _) (fun _ z => by cases z), es_cons (a := .c _) (fun _ z => by cases z), es_cons (a := .bin _ _ _ _) (fun _ z => by cases z), es_cons (a := .bc _ _ _) (fun _ z => by cases z), es_cons (a := .call _ _ _) (fun _ z => by cases z),
    es_nil, ks_nil, e_bin, e_lst, e_bc, e_call, e_v, e_c, getV_0, getV_s, opt_s, bind_ok, bin_add, flE, bindE, rtE]
  rw [callM_pos (F := fn22) rfl (by decide +kernel) rfl (by decide)]
  refine grab s (by omega) (by omega) fun d1 h1 a0 a1 s1 => ?_
  simp only [okE, bc_min2]
  rw [callM_pos (F := fn22) rfl (by decide +kernel) rfl (by decide)]
  refine grab s1.sk (by omega) (by omega) fun d2 h2 b0 b1 s2 => ?_
  rw [mkL_v (by have := sizeLine_eq; simp only [List.length_cons, List.length_nil]; omega)]
  simp only [okE]
  rw [callM_pos (F := fn23) rfl (by decide +kernel) rfl (by decide)]
  refine pickL s2.sk (by simp) (by simp) (fun d h3 hm s3 => ?_) rfl
  have hv : ∃ v : Int, d = .int v ∧ 0 ≤ v ∧ v ≤ t := by
    simp only [List.mem_cons, List.not_mem_nil, or_false] at hm
    rcases hm with rfl | rfl | rfl | rfl | rfl
    · exact ⟨_, rfl, by omega, by omega⟩
    · exact ⟨_, rfl, by split <;> omega, by split <;> omega⟩
    · exact ⟨_, rfl, by omega, by omega⟩
    · exact ⟨_, rfl, by omega, by omega⟩
    · exact ⟨_, rfl, by omega, by omega⟩
  obtain ⟨v, rfl, v0, v1⟩ := hv
  have st := (s1.trans s2).trans s3
  have := trim_stp (out := false) (d := .int v) (x := []) st rfl
  rw [List.append_nil] at this
  rw [this]
  exact q _ _ v0 v1 st
end K12
end
section
set_option Elab.async false
set_option linter.all false
set_option maxRecDepth 100000
set_option maxHeartbeats 2000000
namespace K12
open PySem PyProof.Rows PY L12
section
variable {n i : Nat} {h x : Hh} {Q : D → Hh → Prop}
theorem grabF {m : Int} (s : Sk i h) (m0 : 0 < m) (m1 : m < 1073741824) (q : ∀ (d : Int) (h' : Hh), 0 ≤ d → d < m → Stp i h h' → Q (.int d) (h' ++ x)) : okR (PY.run prg (n + 1) 22 [.ref i, .int m] (h ++ x)) Q :=
  grab s.app m0 m1 fun d hb a b st => by
    obtain ⟨h1, rfl, s1⟩ := st.split s.lt
    exact q d h1 a b s1
theorem pickLF {xs : List D} (s : Sk i h) (x0 : 0 < xs.length) (x1 : xs.length < 1073741824) (q : ∀ (d : D) (h' : Hh), d ∈ xs → Stp i h h' → Q d (h' ++ x)) (hp : D.lts 0 xs = true) : okR (PY.run prg (n + 2) 23 [.ref i, .list xs] (h ++ x)) Q :=
  pickL s.app x0 x1 (fun d hb a st => by
    obtain ⟨h1, rfl, s1⟩ := st.split s.lt
    exact q d h1 a s1) hp
theorem pickSF {z : Str} (s : Sk i h) (x0 : 0 < z.length) (x1 : z.length < 1000) (q : ∀ (c : Nat) (h' : Hh), c ∈ z.cps.toList → Stp i h h' → Q (.str ⟨#[c]⟩) (h' ++ x)) : okR (PY.run prg (n + 2) 23 [.ref i, .str z] (h ++ x)) Q :=
  pickS s.app x0 x1 fun d hb a st => by
    obtain ⟨h1, rfl, s1⟩ := st.split s.lt
    exact q d h1 a s1
theorem valueF {t : Int} (s : Sk i h) (t0 : 0 < t) (t1 : t ≤ 1000000) (q : ∀ (v : Int) (h' : Hh), -t ≤ v → v ≤ t → Stp i h h' → Q (.int v) (h' ++ x)) : okR (PY.run prg (n + 3) 25 [.ref i, .int t] (h ++ x)) Q :=
  value s.app t0 t1 fun d hb a b st => by
    obtain ⟨h1, rfl, s1⟩ := st.split s.lt
    exact q d h1 a b s1
theorem spanF {t : Int} (s : Sk i h) (t0 : 0 < t) (t1 : t ≤ 1000000) (q : ∀ (v : Int) (h' : Hh), 0 ≤ v → v ≤ t → Stp i h h' → Q (.int v) (h' ++ x)) : okR (PY.run prg (n + 3) 26 [.ref i, .int t] (h ++ x)) Q :=
  span s.app t0 t1 fun d hb a b st => by
    obtain ⟨h1, rfl, s1⟩ := st.split s.lt
    exact q d h1 a b s1
end
theorem titles {n i : Nat} {k : Int} {h : Hh} (s : Sk i h) (k0 : 0 ≤ k) (k1 : k ≤ 3) : okR (PY.run prg (n + 3) 24 [.ref i, .int k] h) fun d h' => Stp i h h' ∧ ∃ ws : List Str, d = .list (ws.map D.str) ∧ (ws.length : Int) = k ∧ ws.Nodup ∧ ∀ w ∈ ws, GN w ∧ w ≠ "pause" := by
  have sl := sizeLine_eq
  have il := s.lt
  rw [r_24]
  simp only [PY.wSs, PY.wSn, PY.w_if, PY.w_and2, PY.w_or2, PY.w_ite, PY.w_chain, PY.w_opt_s, PY.w_guard, PY.w_set_n0, PY.w_set_ns, PY.w_aug, PY.aug_add, PY.aug_sub, PY.idx_l0, PY.idx_l1, PY.idx_p0, PY.idx_p1, PY.idx_p2, PY.idx_p3, PY.idx_p4, PY.idx_p5, PY.w_mkLf, PY.w_mkLt, PY.es_star, PY.ks_cons, PY.ks_nil, PY.es_nil, PY.es_v, PY.es_c, PY.es_g, PY.es_bin, PY.es_un, PY.es_cmp, PY.es_chain, PY.es_and, PY.es_or, PY.es_ite, PY.es_tup, PY.es_lst, PY.es_idx, PY.es_slc, PY.es_rev, PY.es_call, PY.es_make, PY.es_bc, PY.es_bm, PY.es_meth, PY.es_attr, PY.es_isi, PY.es_comp, PY.es_frz, PY.e_attr, PY.e_make, PY.e_isi, PY.e_bm, PY.w_rev, PY.w_frz, PY.w_comp, PY.w_csn, PY.w_csc, PY.w_i_e, PY.w_i_range, PY.rng_1, PY.rng_2, PY.slc_str, PY.toI, PY.w_i_enum, PY.w_for, PY.itm_tup, PY.itm_list, PY.itm_scr, PY.itm_str, PY.itN_tup, PY.chk_none, PY.sq_tup, PY.sq_list, PY.bin_L, PY.bin_T, PY.bc_strI, PY.bc_strS, PY.bc_tupL, PY.bc_tupT, PY.bc_max2, PY.bc_min2, PY.e_v, PY.e_c, PY.e_bin, PY.e_un, PY.e_cmp, PY.e_idx, PY.e_bc, PY.e_call, PY.e_lst, PY.e_tup, PY.e_or, PY.e_and, PY.or1, PY.and1, PY.e_slc, PY.o_none, PY.o_some, PY.s_set, PY.s_ret, PY.s_expr, PY.getV_0, PY.getV_s, PY.bin_add, PY.bin_sub, PY.bin_mul, PY.bin_fdiv, PY.bin_mod, PY.bin_pow, PY.bin_cat, PY.cmp_lt, PY.cmp_le, PY.cmp_gt, PY.cmp_ge, PY.un_not, PY.un_neg, PY.idx_tup, PY.idx_list, PY.idx_scr, PY.bc_int, PY.bc_abs, PY.bc_divmod, PY.bc_lenS, PY.bc_lenT, PY.bc_lenL, PY.bc_lenC, PY.a_tup, PY.as_nil, PY.as_cons, PY.okE, PY.bindE, PY.flE, PY.rtE, PY.nxE, PY.opt_s, PY.bind_ok, PY.fl_ok, PY.cm_lt, PY.cm_le, PY.cm_gt, PY.cm_ge, PY.cm_is, PY.cm_isn, PY.cm_in, PY.cm_nin, PY.cm_eqI, PY.cm_neI, PY.cm_eqS, PY.cm_neS, PY.cm_eqL, PY.cm_neL, PY.cm_eqT, PY.cm_neT, PY.cmp_eqS, PY.cmp_neS, PY.cmp_eqI, PY.cmp_neI, PY.cmp_inT, PY.ifQ_t, PY.ifQ_f, PY.tr_b, PY.tr_i, PY.tr_s, PY.tr_n, PY.isi_ii, PY.isi_bi, PY.isi_ss, PY.isi_tt, Option.map_some, PY.atI_0, PY.atI_1, PY.atI_2, PY.atI_3, PY.atI_4, PY.atI_5, List.set_cons_zero, List.set_cons_succ, fn24, List.length_nil]
  refine ⟨by simp [sl], by simp [sl], inR_ok k0 (by omega), ?_⟩
  have e0 : k = 0 + (k.toNat : Int) := by omega
  refine forM_upto (I := fun k' m env hh => ∃ (h1 : Hh) (ws : List Str) (o4 o5 o6 o7 o8 o9 oa : Option D), k = k' + (m : Int) ∧ Stp i h h1 ∧ hh = h1 ++ [.lst (ws.map D.str)] ∧ (ws.length : Int) = k' ∧ ws.Nodup ∧ (∀ w ∈ ws, GN w ∧ w ≠ "pause") ∧
      env = [some (.ref i), some (.int k), some (.str LET), some (.ref h.length), o4, o5, o6, o7, o8, o9, oa]) (fun _ _ _ _ _ => rfl) ?_ ?_ ⟨h, [], none, none, none, none, none, none, none, e0, Stp.refl s, rfl, rfl, List.nodup_nil, (fun _ m => by cases m), rfl⟩
  · rintro k' m env hh ⟨h1, ws, o4, o5, o6, o7, o8, o9, oa, ek, s1, rfl, wl, nd, gw, rfl⟩
    show wF (evSs _ _ _ [some (.ref i), some (.int k), some (.str LET), some (.ref h.length), some (.int k'), o5, o6, o7, o8, o9, oa] _) _ _
    simp only [PY.wSs, PY.wSn, PY.w_if, PY.w_and2, PY.w_or2, PY.w_ite, PY.w_chain, PY.w_opt_s, PY.w_guard, PY.w_set_n0, PY.w_set_ns, PY.w_aug, PY.aug_add, PY.aug_sub, PY.idx_l0, PY.idx_l1, PY.idx_p0, PY.idx_p1, PY.idx_p2, PY.idx_p3, PY.idx_p4, PY.idx_p5, PY.w_mkLf, PY.w_mkLt, PY.es_star, PY.ks_cons, PY.ks_nil, PY.es_nil, PY.es_v, PY.es_c, PY.es_g, PY.es_bin, PY.es_un, PY.es_cmp, PY.es_chain, PY.es_and, PY.es_or, PY.es_ite, PY.es_tup, PY.es_lst, PY.es_idx, PY.es_slc, PY.es_rev, PY.es_call, PY.es_make, PY.es_bc, PY.es_bm, PY.es_meth, PY.es_attr, PY.es_isi, PY.es_comp, PY.es_frz, PY.e_attr, PY.e_make, PY.e_isi, PY.e_bm, PY.w_rev, PY.w_frz, PY.w_comp, PY.w_csn, PY.w_csc, PY.w_i_e, PY.w_i_range, PY.rng_1, PY.rng_2, PY.slc_str, PY.toI, PY.w_i_enum, PY.w_for, PY.itm_tup, PY.itm_list, PY.itm_scr, PY.itm_str, PY.itN_tup, PY.chk_none, PY.sq_tup, PY.sq_list, PY.bin_L, PY.bin_T, PY.bc_strI, PY.bc_strS, PY.bc_tupL, PY.bc_tupT, PY.bc_max2, PY.bc_min2, PY.e_v, PY.e_c, PY.e_bin, PY.e_un, PY.e_cmp, PY.e_idx, PY.e_bc, PY.e_call, PY.e_lst, PY.e_tup, PY.e_or, PY.e_and, PY.or1, PY.and1, PY.e_slc, PY.o_none, PY.o_some, PY.s_set, PY.s_ret, PY.s_expr, PY.getV_0, PY.getV_s, PY.bin_add, PY.bin_sub, PY.bin_mul, PY.bin_fdiv, PY.bin_mod, PY.bin_pow, PY.bin_cat, PY.cmp_lt, PY.cmp_le, PY.cmp_gt, PY.cmp_ge, PY.un_not, PY.un_neg, PY.idx_tup, PY.idx_list, PY.idx_scr, PY.bc_int, PY.bc_abs, PY.bc_divmod, PY.bc_lenS, PY.bc_lenT, PY.bc_lenL, PY.bc_lenC, PY.a_tup, PY.as_nil, PY.as_cons, PY.okE, PY.bindE, PY.flE, PY.rtE, PY.nxE, PY.opt_s, PY.bind_ok, PY.fl_ok, PY.cm_lt, PY.cm_le, PY.cm_gt, PY.cm_ge, PY.cm_is, PY.cm_isn, PY.cm_in, PY.cm_nin, PY.cm_eqI, PY.cm_neI, PY.cm_eqS, PY.cm_neS, PY.cm_eqL, PY.cm_neL, PY.cm_eqT, PY.cm_neT, PY.cmp_eqS, PY.cmp_neS, PY.cmp_eqI, PY.cmp_neI, PY.cmp_inT, PY.ifQ_t, PY.ifQ_f, PY.tr_b, PY.tr_i, PY.tr_s, PY.tr_n, PY.isi_ii, PY.isi_bi, PY.isi_ss, PY.isi_tt, Option.map_some, PY.atI_0, PY.atI_1, PY.atI_2, PY.atI_3, PY.atI_4, PY.atI_5, List.set_cons_zero, List.set_cons_succ, c_23]
    refine pickSF s1.sk (by decide) (by decide) fun c h2 cm s2 => ?_
    have st2 := s1.trans s2
    refine ⟨by simp [sl], pickLF st2.sk (by simp) (by simp) (fun d h3 dm s3 => ?_) rfl⟩
    have st3 := st2.trans s3
    have dj : ∃ j : Nat, d = .int j ∧ j ≤ 7 := by
      simp only [List.mem_cons, List.not_mem_nil, or_false] at dm
      rcases dm with rfl | rfl | rfl | rfl
      · exact ⟨0, rfl, by decide⟩
      · exact ⟨0, rfl, by decide⟩
      · exact ⟨2, rfl, by decide⟩
      · exact ⟨7, rfl, by decide⟩
    obtain ⟨j, rfl, j7⟩ := dj
    simp only [rng_1, w_guard, okE]
    refine ⟨inR_ok (by omega) (by omega), ?_⟩
    refine forM_upto (I := fun _ m' env hh => ∃ (h4 : Hh) (w : Str) (o6 : Option D), Stp i h h4 ∧ hh = h4 ++ [.lst (ws.map D.str)] ∧ GN w ∧ w.length + m' ≤ 8 ∧
      env = [some (.ref i), some (.int k), some (.str LET), some (.ref h.length), some (.int k'), some (.str w), o6, o7, o8, o9, oa]) (fun _ _ _ _ _ => rfl) ?_ ?_ ⟨h3, _, _, st3, rfl, GN.one cm, by
        rw [Int.toNat_natCast]
        show 1 + j ≤ 8
        omega, rfl⟩
    · rintro kk m' env hh ⟨h4, w, o6, s4, rfl, gw4, wl4, rfl⟩
      show wF (evSs _ _ _ [some (.ref i), some (.int k), some (.str LET), some (.ref h.length), some (.int k'), some (.str w), some (.int kk), o7, o8, o9, oa] _) _ _
      have ld : LET.length + (("0123456789" : String) : Str).length ≤ sizeLine := by rw [sl]; decide
      simp only [PY.wSs, PY.wSn, PY.w_if, PY.w_and2, PY.w_or2, PY.w_ite, PY.w_chain, PY.w_opt_s, PY.w_guard, PY.w_set_n0, PY.w_set_ns, PY.w_aug, PY.aug_add, PY.aug_sub, PY.idx_l0, PY.idx_l1, PY.idx_p0, PY.idx_p1, PY.idx_p2, PY.idx_p3, PY.idx_p4, PY.idx_p5, PY.w_mkLf, PY.w_mkLt, PY.es_star, PY.ks_cons, PY.ks_nil, PY.es_nil, PY.es_v, PY.es_c, PY.es_g, PY.es_bin, PY.es_un, PY.es_cmp, PY.es_chain, PY.es_and, PY.es_or, PY.es_ite, PY.es_tup, PY.es_lst, PY.es_idx, PY.es_slc, PY.es_rev, PY.es_call, PY.es_make, PY.es_bc, PY.es_bm, PY.es_meth, PY.es_attr, PY.es_isi, PY.es_comp, PY.es_frz, PY.e_attr, PY.e_make, PY.e_isi, PY.e_bm, PY.w_rev, PY.w_frz, PY.w_comp, PY.w_csn, PY.w_csc, PY.w_i_e, PY.w_i_range, PY.rng_1, PY.rng_2, PY.slc_str, PY.toI, PY.w_i_enum, PY.w_for, PY.itm_tup, PY.itm_list, PY.itm_scr, PY.itm_str, PY.itN_tup, PY.chk_none, PY.sq_tup, PY.sq_list, PY.bin_L, PY.bin_T, PY.bc_strI, PY.bc_strS, PY.bc_tupL, PY.bc_tupT, PY.bc_max2, PY.bc_min2, PY.e_v, PY.e_c, PY.e_bin, PY.e_un, PY.e_cmp, PY.e_idx, PY.e_bc, PY.e_call, PY.e_lst, PY.e_tup, PY.e_or, PY.e_and, PY.or1, PY.and1, PY.e_slc, PY.o_none, PY.o_some, PY.s_set, PY.s_ret, PY.s_expr, PY.getV_0, PY.getV_s, PY.bin_add, PY.bin_sub, PY.bin_mul, PY.bin_fdiv, PY.bin_mod, PY.bin_pow, PY.bin_cat, PY.cmp_lt, PY.cmp_le, PY.cmp_gt, PY.cmp_ge, PY.un_not, PY.un_neg, PY.idx_tup, PY.idx_list, PY.idx_scr, PY.bc_int, PY.bc_abs, PY.bc_divmod, PY.bc_lenS, PY.bc_lenT, PY.bc_lenL, PY.bc_lenC, PY.a_tup, PY.as_nil, PY.as_cons, PY.okE, PY.bindE, PY.flE, PY.rtE, PY.nxE, PY.opt_s, PY.bind_ok, PY.fl_ok, PY.cm_lt, PY.cm_le, PY.cm_gt, PY.cm_ge, PY.cm_is, PY.cm_isn, PY.cm_in, PY.cm_nin, PY.cm_eqI, PY.cm_neI, PY.cm_eqS, PY.cm_neS, PY.cm_eqL, PY.cm_neL, PY.cm_eqT, PY.cm_neT, PY.cmp_eqS, PY.cmp_neS, PY.cmp_eqI, PY.cmp_neI, PY.cmp_inT, PY.ifQ_t, PY.ifQ_f, PY.tr_b, PY.tr_i, PY.tr_s, PY.tr_n, PY.isi_ii, PY.isi_bi, PY.isi_ss, PY.isi_tt, Option.map_some, PY.atI_0, PY.atI_1, PY.atI_2, PY.atI_3, PY.atI_4, PY.atI_5, List.set_cons_zero, List.set_cons_succ, decide_eq_true ld, c_23]
      refine ⟨trivial, ?_⟩
      refine pickSF s4.sk (by decide) (by decide) fun c h5 cm5 s5 => ?_
      have w1 : w.length + (⟨#[c]⟩ : Str).length ≤ sizeLine := by
        show w.length + 1 ≤ sizeLine
        omega
      simp only [PY.wSs, PY.wSn, PY.w_if, PY.w_and2, PY.w_or2, PY.w_ite, PY.w_chain, PY.w_opt_s, PY.w_guard, PY.w_set_n0, PY.w_set_ns, PY.w_aug, PY.aug_add, PY.aug_sub, PY.idx_l0, PY.idx_l1, PY.idx_p0, PY.idx_p1, PY.idx_p2, PY.idx_p3, PY.idx_p4, PY.idx_p5, PY.w_mkLf, PY.w_mkLt, PY.es_star, PY.ks_cons, PY.ks_nil, PY.es_nil, PY.es_v, PY.es_c, PY.es_g, PY.es_bin, PY.es_un, PY.es_cmp, PY.es_chain, PY.es_and, PY.es_or, PY.es_ite, PY.es_tup, PY.es_lst, PY.es_idx, PY.es_slc, PY.es_rev, PY.es_call, PY.es_make, PY.es_bc, PY.es_bm, PY.es_meth, PY.es_attr, PY.es_isi, PY.es_comp, PY.es_frz, PY.e_attr, PY.e_make, PY.e_isi, PY.e_bm, PY.w_rev, PY.w_frz, PY.w_comp, PY.w_csn, PY.w_csc, PY.w_i_e, PY.w_i_range, PY.rng_1, PY.rng_2, PY.slc_str, PY.toI, PY.w_i_enum, PY.w_for, PY.itm_tup, PY.itm_list, PY.itm_scr, PY.itm_str, PY.itN_tup, PY.chk_none, PY.sq_tup, PY.sq_list, PY.bin_L, PY.bin_T, PY.bc_strI, PY.bc_strS, PY.bc_tupL, PY.bc_tupT, PY.bc_max2, PY.bc_min2, PY.e_v, PY.e_c, PY.e_bin, PY.e_un, PY.e_cmp, PY.e_idx, PY.e_bc, PY.e_call, PY.e_lst, PY.e_tup, PY.e_or, PY.e_and, PY.or1, PY.and1, PY.e_slc, PY.o_none, PY.o_some, PY.s_set, PY.s_ret, PY.s_expr, PY.getV_0, PY.getV_s, PY.bin_add, PY.bin_sub, PY.bin_mul, PY.bin_fdiv, PY.bin_mod, PY.bin_pow, PY.bin_cat, PY.cmp_lt, PY.cmp_le, PY.cmp_gt, PY.cmp_ge, PY.un_not, PY.un_neg, PY.idx_tup, PY.idx_list, PY.idx_scr, PY.bc_int, PY.bc_abs, PY.bc_divmod, PY.bc_lenS, PY.bc_lenT, PY.bc_lenL, PY.bc_lenC, PY.a_tup, PY.as_nil, PY.as_cons, PY.okE, PY.bindE, PY.flE, PY.rtE, PY.nxE, PY.opt_s, PY.bind_ok, PY.fl_ok, PY.cm_lt, PY.cm_le, PY.cm_gt, PY.cm_ge, PY.cm_is, PY.cm_isn, PY.cm_in, PY.cm_nin, PY.cm_eqI, PY.cm_neI, PY.cm_eqS, PY.cm_neS, PY.cm_eqL, PY.cm_neL, PY.cm_eqT, PY.cm_neT, PY.cmp_eqS, PY.cmp_neS, PY.cmp_eqI, PY.cmp_neI, PY.cmp_inT, PY.ifQ_t, PY.ifQ_f, PY.tr_b, PY.tr_i, PY.tr_s, PY.tr_n, PY.isi_ii, PY.isi_bi, PY.isi_ss, PY.isi_tt, Option.map_some, PY.atI_0, PY.atI_1, PY.atI_2, PY.atI_3, PY.atI_4, PY.atI_5, List.set_cons_zero, List.set_cons_succ, decide_eq_true w1]
      refine ⟨trivial, h5, _, _, s4.trans s5, rfl, gw4.more (by omega) ?_, ?_, rfl⟩
      · rw [app_list] at cm5
        exact List.mem_append.mp cm5
      · rw [Str.length_append]
        show w.length + 1 + m' ≤ 8
        omega
    · rintro kk env hh ⟨h4, w, o6, s4, rfl, gw4, wl4, rfl⟩
      simp only [PY.wSs, PY.wSn, PY.w_if, PY.w_and2, PY.w_or2, PY.w_ite, PY.w_chain, PY.w_opt_s, PY.w_guard, PY.w_set_n0, PY.w_set_ns, PY.w_aug, PY.aug_add, PY.aug_sub, PY.idx_l0, PY.idx_l1, PY.idx_p0, PY.idx_p1, PY.idx_p2, PY.idx_p3, PY.idx_p4, PY.idx_p5, PY.w_mkLf, PY.w_mkLt, PY.es_star, PY.ks_cons, PY.ks_nil, PY.es_nil, PY.es_v, PY.es_c, PY.es_g, PY.es_bin, PY.es_un, PY.es_cmp, PY.es_chain, PY.es_and, PY.es_or, PY.es_ite, PY.es_tup, PY.es_lst, PY.es_idx, PY.es_slc, PY.es_rev, PY.es_call, PY.es_make, PY.es_bc, PY.es_bm, PY.es_meth, PY.es_attr, PY.es_isi, PY.es_comp, PY.es_frz, PY.e_attr, PY.e_make, PY.e_isi, PY.e_bm, PY.w_rev, PY.w_frz, PY.w_comp, PY.w_csn, PY.w_csc, PY.w_i_e, PY.w_i_range, PY.rng_1, PY.rng_2, PY.slc_str, PY.toI, PY.w_i_enum, PY.w_for, PY.itm_tup, PY.itm_list, PY.itm_scr, PY.itm_str, PY.itN_tup, PY.chk_none, PY.sq_tup, PY.sq_list, PY.bin_L, PY.bin_T, PY.bc_strI, PY.bc_strS, PY.bc_tupL, PY.bc_tupT, PY.bc_max2, PY.bc_min2, PY.e_v, PY.e_c, PY.e_bin, PY.e_un, PY.e_cmp, PY.e_idx, PY.e_bc, PY.e_call, PY.e_lst, PY.e_tup, PY.e_or, PY.e_and, PY.or1, PY.and1, PY.e_slc, PY.o_none, PY.o_some, PY.s_set, PY.s_ret, PY.s_expr, PY.getV_0, PY.getV_s, PY.bin_add, PY.bin_sub, PY.bin_mul, PY.bin_fdiv, PY.bin_mod, PY.bin_pow, PY.bin_cat, PY.cmp_lt, PY.cmp_le, PY.cmp_gt, PY.cmp_ge, PY.un_not, PY.un_neg, PY.idx_tup, PY.idx_list, PY.idx_scr, PY.bc_int, PY.bc_abs, PY.bc_divmod, PY.bc_lenS, PY.bc_lenT, PY.bc_lenL, PY.bc_lenC, PY.a_tup, PY.as_nil, PY.as_cons, PY.okE, PY.bindE, PY.flE, PY.rtE, PY.nxE, PY.opt_s, PY.bind_ok, PY.fl_ok, PY.cm_lt, PY.cm_le, PY.cm_gt, PY.cm_ge, PY.cm_is, PY.cm_isn, PY.cm_in, PY.cm_nin, PY.cm_eqI, PY.cm_neI, PY.cm_eqS, PY.cm_neS, PY.cm_eqL, PY.cm_neL, PY.cm_eqT, PY.cm_neT, PY.cmp_eqS, PY.cmp_neS, PY.cmp_eqI, PY.cmp_neI, PY.cmp_inT, PY.ifQ_t, PY.ifQ_f, PY.tr_b, PY.tr_i, PY.tr_s, PY.tr_n, PY.isi_ii, PY.isi_bi, PY.isi_ss, PY.isi_tt, Option.map_some, PY.atI_0, PY.atI_1, PY.atI_2, PY.atI_3, PY.atI_4, PY.atI_5, List.set_cons_zero, List.set_cons_succ, c_22]
      refine grabF s4.sk (by decide) (by decide) fun d h5 d0 d5 s5 => ?_
      have st5 := s4.trans s5
      have l2 : ws.length ≤ 2 := by omega
      have sq : ∀ h6 : Hh, h6.length = h.length → seqOf (h6 ++ [.lst (ws.map D.str)]) (.ref h.length) = some (ws.map D.str) := fun h6 e => by
        simp only [seqOf, last_get e]
      have fin : ∀ (w : Str) (h6 : Hh), GN w → Stp i h h6 → wF (evSs prg (PY.run prg (n + 2)) [(.set (.n 8) (.bin false .Add (.lst false [(.v 5)]) (.comp false [("_law_k", 9)] (.n 9) (.range [(.c (.int 4))]) [] (.bin false .Add (.c (.str "q")) (.bc false .str [(.v 9)]))))),
      (.expr (.bm false .append (.v 3) [(.idx (.comp false [("_law_each", 10)] (.n 10) (.e (.v 8)) [(.and [(.cmp .NotIn (.v 10) (.v 3)), (.cmp .NotEq (.v 10) (.c (.str "pause")))])] (.v 10)) (.c (.int 0)))]))]
        [some (.ref i), some (.int k), some (.str LET), some (.ref h.length), some (.int k'), some (.str w), o6, some (.int d), o8, o9, oa] (h6 ++ [.lst (ws.map D.str)]))
        (fun env hh => ∃ (h1 : Hh) (ws : List Str) (o4 o5 o6 o7 o8 o9 oa : Option D), k = k' + 1 + (m : Int) ∧ Stp i h h1 ∧ hh = h1 ++ [.lst (ws.map D.str)] ∧ (ws.length : Int) = k' + 1 ∧ ws.Nodup ∧ (∀ w ∈ ws, GN w ∧ w ≠ "pause") ∧
      env = [some (.ref i), some (.int k), some (.str LET), some (.ref h.length), o4, o5, o6, o7, o8, o9, oa]) (fun _ _ => True) := fun w h6 gw6 s6 => by
        simp only [PY.wSs, PY.wSn, PY.w_if, PY.w_and2, PY.w_or2, PY.w_ite, PY.w_chain, PY.w_opt_s, PY.w_guard, PY.w_set_n0, PY.w_set_ns, PY.w_aug, PY.aug_add, PY.aug_sub, PY.idx_l0, PY.idx_l1, PY.idx_p0, PY.idx_p1, PY.idx_p2, PY.idx_p3, PY.idx_p4, PY.idx_p5, PY.w_mkLf, PY.w_mkLt, PY.es_star, PY.ks_cons, PY.ks_nil, PY.es_nil, PY.es_v, PY.es_c, PY.es_g, PY.es_bin, PY.es_un, PY.es_cmp, PY.es_chain, PY.es_and, PY.es_or, PY.es_ite, PY.es_tup, PY.es_lst, PY.es_idx, PY.es_slc, PY.es_rev, PY.es_call, PY.es_make, PY.es_bc, PY.es_bm, PY.es_meth, PY.es_attr, PY.es_isi, PY.es_comp, PY.es_frz, PY.e_attr, PY.e_make, PY.e_isi, PY.e_bm, PY.w_rev, PY.w_frz, PY.w_comp, PY.w_csn, PY.w_csc, PY.w_i_e, PY.w_i_range, PY.rng_1, PY.rng_2, PY.slc_str, PY.toI, PY.w_i_enum, PY.w_for, PY.itm_tup, PY.itm_list, PY.itm_scr, PY.itm_str, PY.itN_tup, PY.chk_none, PY.sq_tup, PY.sq_list, PY.bin_L, PY.bin_T, PY.bc_strI, PY.bc_strS, PY.bc_tupL, PY.bc_tupT, PY.bc_max2, PY.bc_min2, PY.e_v, PY.e_c, PY.e_bin, PY.e_un, PY.e_cmp, PY.e_idx, PY.e_bc, PY.e_call, PY.e_lst, PY.e_tup, PY.e_or, PY.e_and, PY.or1, PY.and1, PY.e_slc, PY.o_none, PY.o_some, PY.s_set, PY.s_ret, PY.s_expr, PY.getV_0, PY.getV_s, PY.bin_add, PY.bin_sub, PY.bin_mul, PY.bin_fdiv, PY.bin_mod, PY.bin_pow, PY.bin_cat, PY.cmp_lt, PY.cmp_le, PY.cmp_gt, PY.cmp_ge, PY.un_not, PY.un_neg, PY.idx_tup, PY.idx_list, PY.idx_scr, PY.bc_int, PY.bc_abs, PY.bc_divmod, PY.bc_lenS, PY.bc_lenT, PY.bc_lenL, PY.bc_lenC, PY.a_tup, PY.as_nil, PY.as_cons, PY.okE, PY.bindE, PY.flE, PY.rtE, PY.nxE, PY.opt_s, PY.bind_ok, PY.fl_ok, PY.cm_lt, PY.cm_le, PY.cm_gt, PY.cm_ge, PY.cm_is, PY.cm_isn, PY.cm_in, PY.cm_nin, PY.cm_eqI, PY.cm_neI, PY.cm_eqS, PY.cm_neS, PY.cm_eqL, PY.cm_neL, PY.cm_eqT, PY.cm_neT, PY.cmp_eqS, PY.cmp_neS, PY.cmp_eqI, PY.cmp_neI, PY.cmp_inT, PY.ifQ_t, PY.ifQ_f, PY.tr_b, PY.tr_i, PY.tr_s, PY.tr_n, PY.isi_ii, PY.isi_bi, PY.isi_ss, PY.isi_tt, Option.map_some, PY.atI_0, PY.atI_1, PY.atI_2, PY.atI_3, PY.atI_4, PY.atI_5, List.set_cons_zero, List.set_cons_succ, u4]
        refine ⟨by simp [sl], inR_ok (by decide) (by decide), ?_⟩
        refine w_cmap (k := fun a => D.str (("q" : Str) ++ Str.ofString (toString a))) (fun a ma => ?_) ?_
        · rw [w_cB (env' := [some (.ref i), some (.int k), some (.str LET), some (.ref h.length), some (.int k'), some (.str w), o6, some (.int d), o8, some (.int a), oa]) rfl]
          have a3 : 0 ≤ a ∧ a ≤ 7 := by
            simp only [List.mem_cons, List.not_mem_nil, or_false] at ma
            omega
          have lg := log_small a3.1 (by omega)
          have l9 : (("q" : String) : Str).length + (Str.ofString (toString a)).length ≤ sizeLine := by
            have := int_len (i := a) (by omega) (by omega)
            have e : (("q" : String) : Str).length = 1 := rfl
            omega
          simp only [PY.wSs, PY.wSn, PY.w_if, PY.w_and2, PY.w_or2, PY.w_ite, PY.w_chain, PY.w_opt_s, PY.w_guard, PY.w_set_n0, PY.w_set_ns, PY.w_aug, PY.aug_add, PY.aug_sub, PY.idx_l0, PY.idx_l1, PY.idx_p0, PY.idx_p1, PY.idx_p2, PY.idx_p3, PY.idx_p4, PY.idx_p5, PY.w_mkLf, PY.w_mkLt, PY.es_star, PY.ks_cons, PY.ks_nil, PY.es_nil, PY.es_v, PY.es_c, PY.es_g, PY.es_bin, PY.es_un, PY.es_cmp, PY.es_chain, PY.es_and, PY.es_or, PY.es_ite, PY.es_tup, PY.es_lst, PY.es_idx, PY.es_slc, PY.es_rev, PY.es_call, PY.es_make, PY.es_bc, PY.es_bm, PY.es_meth, PY.es_attr, PY.es_isi, PY.es_comp, PY.es_frz, PY.e_attr, PY.e_make, PY.e_isi, PY.e_bm, PY.w_rev, PY.w_frz, PY.w_comp, PY.w_csn, PY.w_csc, PY.w_i_e, PY.w_i_range, PY.rng_1, PY.rng_2, PY.slc_str, PY.toI, PY.w_i_enum, PY.w_for, PY.itm_tup, PY.itm_list, PY.itm_scr, PY.itm_str, PY.itN_tup, PY.chk_none, PY.sq_tup, PY.sq_list, PY.bin_L, PY.bin_T, PY.bc_strI, PY.bc_strS, PY.bc_tupL, PY.bc_tupT, PY.bc_max2, PY.bc_min2, PY.e_v, PY.e_c, PY.e_bin, PY.e_un, PY.e_cmp, PY.e_idx, PY.e_bc, PY.e_call, PY.e_lst, PY.e_tup, PY.e_or, PY.e_and, PY.or1, PY.and1, PY.e_slc, PY.o_none, PY.o_some, PY.s_set, PY.s_ret, PY.s_expr, PY.getV_0, PY.getV_s, PY.bin_add, PY.bin_sub, PY.bin_mul, PY.bin_fdiv, PY.bin_mod, PY.bin_pow, PY.bin_cat, PY.cmp_lt, PY.cmp_le, PY.cmp_gt, PY.cmp_ge, PY.un_not, PY.un_neg, PY.idx_tup, PY.idx_list, PY.idx_scr, PY.bc_int, PY.bc_abs, PY.bc_divmod, PY.bc_lenS, PY.bc_lenT, PY.bc_lenL, PY.bc_lenC, PY.a_tup, PY.as_nil, PY.as_cons, PY.okE, PY.bindE, PY.flE, PY.rtE, PY.nxE, PY.opt_s, PY.bind_ok, PY.fl_ok, PY.cm_lt, PY.cm_le, PY.cm_gt, PY.cm_ge, PY.cm_is, PY.cm_isn, PY.cm_in, PY.cm_nin, PY.cm_eqI, PY.cm_neI, PY.cm_eqS, PY.cm_neS, PY.cm_eqL, PY.cm_neL, PY.cm_eqT, PY.cm_neT, PY.cmp_eqS, PY.cmp_neS, PY.cmp_eqI, PY.cmp_neI, PY.cmp_inT, PY.ifQ_t, PY.ifQ_f, PY.tr_b, PY.tr_i, PY.tr_s, PY.tr_n, PY.isi_ii, PY.isi_bi, PY.isi_ss, PY.isi_tt, Option.map_some, PY.atI_0, PY.atI_1, PY.atI_2, PY.atI_3, PY.atI_4, PY.atI_5, List.set_cons_zero, List.set_cons_succ, decide_eq_true lg, decide_eq_true l9]
          simp
        · rw [qnamesD]
          refine ⟨trivial, by simp [sl], by simp [sl], ?_⟩
          have rc : recv .append (.ref h.length) (h6 ++ [.lst (ws.map D.str)]) = true := by
            simp only [recv, last_get s6.len]
          refine ⟨rc, ?_⟩
          show okR (compM _ ((w :: (["q0", "q1", "q2", "q3"] : List Str)).map D.str) _) _
          refine w_cfil (p := fun v => decide (v ∉ ws) && decide (v ≠ "pause")) (k := D.str) (fun a ma => ?_) ?_
          · rw [w_cB (env' := [some (.ref i), some (.int k), some (.str LET), some (.ref h.length), some (.int k'), some (.str w), o6, some (.int d), some (.list ([.str w] ++ (["q0", "q1", "q2", "q3"] : List Str).map D.str)), o9, some (.str a)]) rfl]
            simp only [PY.wSs, PY.wSn, PY.w_if, PY.w_and2, PY.w_or2, PY.w_ite, PY.w_chain, PY.w_opt_s, PY.w_guard, PY.w_set_n0, PY.w_set_ns, PY.w_aug, PY.aug_add, PY.aug_sub, PY.idx_l0, PY.idx_l1, PY.idx_p0, PY.idx_p1, PY.idx_p2, PY.idx_p3, PY.idx_p4, PY.idx_p5, PY.w_mkLf, PY.w_mkLt, PY.es_star, PY.ks_cons, PY.ks_nil, PY.es_nil, PY.es_v, PY.es_c, PY.es_g, PY.es_bin, PY.es_un, PY.es_cmp, PY.es_chain, PY.es_and, PY.es_or, PY.es_ite, PY.es_tup, PY.es_lst, PY.es_idx, PY.es_slc, PY.es_rev, PY.es_call, PY.es_make, PY.es_bc, PY.es_bm, PY.es_meth, PY.es_attr, PY.es_isi, PY.es_comp, PY.es_frz, PY.e_attr, PY.e_make, PY.e_isi, PY.e_bm, PY.w_rev, PY.w_frz, PY.w_comp, PY.w_csn, PY.w_csc, PY.w_i_e, PY.w_i_range, PY.rng_1, PY.rng_2, PY.slc_str, PY.toI, PY.w_i_enum, PY.w_for, PY.itm_tup, PY.itm_list, PY.itm_scr, PY.itm_str, PY.itN_tup, PY.chk_none, PY.sq_tup, PY.sq_list, PY.bin_L, PY.bin_T, PY.bc_strI, PY.bc_strS, PY.bc_tupL, PY.bc_tupT, PY.bc_max2, PY.bc_min2, PY.e_v, PY.e_c, PY.e_bin, PY.e_un, PY.e_cmp, PY.e_idx, PY.e_bc, PY.e_call, PY.e_lst, PY.e_tup, PY.e_or, PY.e_and, PY.or1, PY.and1, PY.e_slc, PY.o_none, PY.o_some, PY.s_set, PY.s_ret, PY.s_expr, PY.getV_0, PY.getV_s, PY.bin_add, PY.bin_sub, PY.bin_mul, PY.bin_fdiv, PY.bin_mod, PY.bin_pow, PY.bin_cat, PY.cmp_lt, PY.cmp_le, PY.cmp_gt, PY.cmp_ge, PY.un_not, PY.un_neg, PY.idx_tup, PY.idx_list, PY.idx_scr, PY.bc_int, PY.bc_abs, PY.bc_divmod, PY.bc_lenS, PY.bc_lenT, PY.bc_lenL, PY.bc_lenC, PY.a_tup, PY.as_nil, PY.as_cons, PY.okE, PY.bindE, PY.flE, PY.rtE, PY.nxE, PY.opt_s, PY.bind_ok, PY.fl_ok, PY.cm_lt, PY.cm_le, PY.cm_gt, PY.cm_ge, PY.cm_is, PY.cm_isn, PY.cm_in, PY.cm_nin, PY.cm_eqI, PY.cm_neI, PY.cm_eqS, PY.cm_neS, PY.cm_eqL, PY.cm_neL, PY.cm_eqT, PY.cm_neT, PY.cmp_eqS, PY.cmp_neS, PY.cmp_eqI, PY.cmp_neI, PY.cmp_inT, PY.ifQ_t, PY.ifQ_f, PY.tr_b, PY.tr_i, PY.tr_s, PY.tr_n, PY.isi_ii, PY.isi_bi, PY.isi_ss, PY.isi_tt, Option.map_some, PY.atI_0, PY.atI_1, PY.atI_2, PY.atI_3, PY.atI_4, PY.atI_5, List.set_cons_zero, List.set_cons_succ, cmp_ninS (ws := ws) (sq h6 s6.len) (fun z q => by cases q), ifQ_nd]
            refine ⟨trivial, fun z => ?_, fun z => ?_⟩
            · simp [z]
            · refine ⟨fun z1 => ?_, fun z1 => ?_⟩
              · simp [z1]
              · simp [z, z1]
          · obtain ⟨q, qm, qn⟩ := pig l2
            have qp := (words_ok q (by simp only [List.mem_cons, List.not_mem_nil, or_false] at qm ⊢; rcases qm with z | z | z | z <;> simp [z])).2
            have fm : q ∈ (w :: (["q0", "q1", "q2", "q3"] : List Str)).filter (fun v => decide (v ∉ ws) && decide (v ≠ "pause")) := by
              rw [List.mem_filter]
              exact ⟨List.mem_cons_of_mem _ qm, by simp [qn, qp]⟩
            have fl : ((w :: (["q0", "q1", "q2", "q3"] : List Str)).filter (fun v => decide (v ∉ ws) && decide (v ≠ "pause"))).length ≤ 5 := List.length_filter_le _ _
            cases ef : (w :: (["q0", "q1", "q2", "q3"] : List Str)).filter (fun v => decide (v ∉ ws) && decide (v ≠ "pause")) with
            | nil => rw [ef] at fm; cases fm
            | cons y r =>
              rw [ef] at fl
              have ym : y ∈ (w :: (["q0", "q1", "q2", "q3"] : List Str)).filter (fun v => decide (v ∉ ws) && decide (v ≠ "pause")) := by rw [ef]; exact List.mem_cons_self
              rw [List.mem_filter, Bool.and_eq_true, decide_eq_true_eq, decide_eq_true_eq] at ym
              have gy : GN y := by
                rcases List.mem_cons.mp ym.1 with z | z
                · rw [z]; exact gw6
                · exact (words_ok y (by simp only [List.mem_cons, List.not_mem_nil, or_false] at z ⊢; rcases z with z | z | z | z <;> simp [z])).1
              rw [List.map_cons]
              refine ⟨trivial, by rw [List.length_cons, List.length_map]; rw [List.length_cons] at fl; omega, ?_⟩
              simp only [PY.wSs, PY.wSn, PY.w_if, PY.w_and2, PY.w_or2, PY.w_ite, PY.w_chain, PY.w_opt_s, PY.w_guard, PY.w_set_n0, PY.w_set_ns, PY.w_aug, PY.aug_add, PY.aug_sub, PY.idx_l0, PY.idx_l1, PY.idx_p0, PY.idx_p1, PY.idx_p2, PY.idx_p3, PY.idx_p4, PY.idx_p5, PY.w_mkLf, PY.w_mkLt, PY.es_star, PY.ks_cons, PY.ks_nil, PY.es_nil, PY.es_v, PY.es_c, PY.es_g, PY.es_bin, PY.es_un, PY.es_cmp, PY.es_chain, PY.es_and, PY.es_or, PY.es_ite, PY.es_tup, PY.es_lst, PY.es_idx, PY.es_slc, PY.es_rev, PY.es_call, PY.es_make, PY.es_bc, PY.es_bm, PY.es_meth, PY.es_attr, PY.es_isi, PY.es_comp, PY.es_frz, PY.e_attr, PY.e_make, PY.e_isi, PY.e_bm, PY.w_rev, PY.w_frz, PY.w_comp, PY.w_csn, PY.w_csc, PY.w_i_e, PY.w_i_range, PY.rng_1, PY.rng_2, PY.slc_str, PY.toI, PY.w_i_enum, PY.w_for, PY.itm_tup, PY.itm_list, PY.itm_scr, PY.itm_str, PY.itN_tup, PY.chk_none, PY.sq_tup, PY.sq_list, PY.bin_L, PY.bin_T, PY.bc_strI, PY.bc_strS, PY.bc_tupL, PY.bc_tupT, PY.bc_max2, PY.bc_min2, PY.e_v, PY.e_c, PY.e_bin, PY.e_un, PY.e_cmp, PY.e_idx, PY.e_bc, PY.e_call, PY.e_lst, PY.e_tup, PY.e_or, PY.e_and, PY.or1, PY.and1, PY.e_slc, PY.o_none, PY.o_some, PY.s_set, PY.s_ret, PY.s_expr, PY.getV_0, PY.getV_s, PY.bin_add, PY.bin_sub, PY.bin_mul, PY.bin_fdiv, PY.bin_mod, PY.bin_pow, PY.bin_cat, PY.cmp_lt, PY.cmp_le, PY.cmp_gt, PY.cmp_ge, PY.un_not, PY.un_neg, PY.idx_tup, PY.idx_list, PY.idx_scr, PY.bc_int, PY.bc_abs, PY.bc_divmod, PY.bc_lenS, PY.bc_lenT, PY.bc_lenL, PY.bc_lenC, PY.a_tup, PY.as_nil, PY.as_cons, PY.okE, PY.bindE, PY.flE, PY.rtE, PY.nxE, PY.opt_s, PY.bind_ok, PY.fl_ok, PY.cm_lt, PY.cm_le, PY.cm_gt, PY.cm_ge, PY.cm_is, PY.cm_isn, PY.cm_in, PY.cm_nin, PY.cm_eqI, PY.cm_neI, PY.cm_eqS, PY.cm_neS, PY.cm_eqL, PY.cm_neL, PY.cm_eqT, PY.cm_neT, PY.cmp_eqS, PY.cmp_neS, PY.cmp_eqI, PY.cmp_neI, PY.cmp_inT, PY.ifQ_t, PY.ifQ_f, PY.tr_b, PY.tr_i, PY.tr_s, PY.tr_n, PY.isi_ii, PY.isi_bi, PY.isi_ss, PY.isi_tt, Option.map_some, PY.atI_0, PY.atI_1, PY.atI_2, PY.atI_3, PY.atI_4, PY.atI_5, List.set_cons_zero, List.set_cons_succ, bmM, last_get s6.len, last_set s6.len]
              refine ⟨decide_eq_true (by rw [List.length_map]; omega), h6, ws ++ [y], _, _, _, _, _, _, _, by omega, s6, by simp, by simp; omega, ?_, fun v vm => ?_, rfl⟩
              · rw [List.nodup_append]
                refine ⟨nd, by simp, fun a am b bm => ?_⟩
                have : b = y := by simpa using bm
                rw [this]
                intro z
                exact ym.2.1 (z ▸ am)
              · rcases List.mem_append.mp vm with z | z
                · exact gw v z
                · have : v = y := by simpa using z
                  rw [this]
                  exact ⟨gy, ym.2.2⟩
      simp only [PY.wSs, PY.wSn, PY.w_if, PY.w_and2, PY.w_or2, PY.w_ite, PY.w_chain, PY.w_opt_s, PY.w_guard, PY.w_set_n0, PY.w_set_ns, PY.w_aug, PY.aug_add, PY.aug_sub, PY.idx_l0, PY.idx_l1, PY.idx_p0, PY.idx_p1, PY.idx_p2, PY.idx_p3, PY.idx_p4, PY.idx_p5, PY.w_mkLf, PY.w_mkLt, PY.es_star, PY.ks_cons, PY.ks_nil, PY.es_nil, PY.es_v, PY.es_c, PY.es_g, PY.es_bin, PY.es_un, PY.es_cmp, PY.es_chain, PY.es_and, PY.es_or, PY.es_ite, PY.es_tup, PY.es_lst, PY.es_idx, PY.es_slc, PY.es_rev, PY.es_call, PY.es_make, PY.es_bc, PY.es_bm, PY.es_meth, PY.es_attr, PY.es_isi, PY.es_comp, PY.es_frz, PY.e_attr, PY.e_make, PY.e_isi, PY.e_bm, PY.w_rev, PY.w_frz, PY.w_comp, PY.w_csn, PY.w_csc, PY.w_i_e, PY.w_i_range, PY.rng_1, PY.rng_2, PY.slc_str, PY.toI, PY.w_i_enum, PY.w_for, PY.itm_tup, PY.itm_list, PY.itm_scr, PY.itm_str, PY.itN_tup, PY.chk_none, PY.sq_tup, PY.sq_list, PY.bin_L, PY.bin_T, PY.bc_strI, PY.bc_strS, PY.bc_tupL, PY.bc_tupT, PY.bc_max2, PY.bc_min2, PY.e_v, PY.e_c, PY.e_bin, PY.e_un, PY.e_cmp, PY.e_idx, PY.e_bc, PY.e_call, PY.e_lst, PY.e_tup, PY.e_or, PY.e_and, PY.or1, PY.and1, PY.e_slc, PY.o_none, PY.o_some, PY.s_set, PY.s_ret, PY.s_expr, PY.getV_0, PY.getV_s, PY.bin_add, PY.bin_sub, PY.bin_mul, PY.bin_fdiv, PY.bin_mod, PY.bin_pow, PY.bin_cat, PY.cmp_lt, PY.cmp_le, PY.cmp_gt, PY.cmp_ge, PY.un_not, PY.un_neg, PY.idx_tup, PY.idx_list, PY.idx_scr, PY.bc_int, PY.bc_abs, PY.bc_divmod, PY.bc_lenS, PY.bc_lenT, PY.bc_lenL, PY.bc_lenC, PY.a_tup, PY.as_nil, PY.as_cons, PY.okE, PY.bindE, PY.flE, PY.rtE, PY.nxE, PY.opt_s, PY.bind_ok, PY.fl_ok, PY.cm_lt, PY.cm_le, PY.cm_gt, PY.cm_ge, PY.cm_is, PY.cm_isn, PY.cm_in, PY.cm_nin, PY.cm_eqI, PY.cm_neI, PY.cm_eqS, PY.cm_neS, PY.cm_eqL, PY.cm_neL, PY.cm_eqT, PY.cm_neT, PY.cmp_eqS, PY.cmp_neS, PY.cmp_eqI, PY.cmp_neI, PY.cmp_inT, PY.ifQ_t, PY.ifQ_f, PY.tr_b, PY.tr_i, PY.tr_s, PY.tr_n, PY.isi_ii, PY.isi_bi, PY.isi_ss, PY.isi_tt, Option.map_some, PY.atI_0, PY.atI_1, PY.atI_2, PY.atI_3, PY.atI_4, PY.atI_5, List.set_cons_zero, List.set_cons_succ, ifQ_d]
      refine ⟨fun z => ?_, fun z => ?_⟩
      · refine ⟨by simp [sl], pickLF st5.sk (by simp) (by simp) (fun a h6 am s6 => ?_) rfl⟩
        obtain ⟨w6, rfl, gw6⟩ : ∃ w6, a = .str w6 ∧ GN w6 := by
          simp only [List.mem_cons, List.not_mem_nil, or_false] at am
          rcases am with rfl | rfl | rfl | rfl | rfl | rfl <;> exact ⟨_, rfl, (words_ok _ (by simp)).1⟩
        refine ⟨fun z1 => absurd z1 (by omega), fun _ => ?_⟩
        have f := fin w6 h6 gw6 (st5.trans s6)
        simp only [PY.wSs, PY.wSn, PY.w_if, PY.w_and2, PY.w_or2, PY.w_ite, PY.w_chain, PY.w_opt_s, PY.w_guard, PY.w_set_n0, PY.w_set_ns, PY.w_aug, PY.aug_add, PY.aug_sub, PY.idx_l0, PY.idx_l1, PY.idx_p0, PY.idx_p1, PY.idx_p2, PY.idx_p3, PY.idx_p4, PY.idx_p5, PY.w_mkLf, PY.w_mkLt, PY.es_star, PY.ks_cons, PY.ks_nil, PY.es_nil, PY.es_v, PY.es_c, PY.es_g, PY.es_bin, PY.es_un, PY.es_cmp, PY.es_chain, PY.es_and, PY.es_or, PY.es_ite, PY.es_tup, PY.es_lst, PY.es_idx, PY.es_slc, PY.es_rev, PY.es_call, PY.es_make, PY.es_bc, PY.es_bm, PY.es_meth, PY.es_attr, PY.es_isi, PY.es_comp, PY.es_frz, PY.e_attr, PY.e_make, PY.e_isi, PY.e_bm, PY.w_rev, PY.w_frz, PY.w_comp, PY.w_csn, PY.w_csc, PY.w_i_e, PY.w_i_range, PY.rng_1, PY.rng_2, PY.slc_str, PY.toI, PY.w_i_enum, PY.w_for, PY.itm_tup, PY.itm_list, PY.itm_scr, PY.itm_str, PY.itN_tup, PY.chk_none, PY.sq_tup, PY.sq_list, PY.bin_L, PY.bin_T, PY.bc_strI, PY.bc_strS, PY.bc_tupL, PY.bc_tupT, PY.bc_max2, PY.bc_min2, PY.e_v, PY.e_c, PY.e_bin, PY.e_un, PY.e_cmp, PY.e_idx, PY.e_bc, PY.e_call, PY.e_lst, PY.e_tup, PY.e_or, PY.e_and, PY.or1, PY.and1, PY.e_slc, PY.o_none, PY.o_some, PY.s_set, PY.s_ret, PY.s_expr, PY.getV_0, PY.getV_s, PY.bin_add, PY.bin_sub, PY.bin_mul, PY.bin_fdiv, PY.bin_mod, PY.bin_pow, PY.bin_cat, PY.cmp_lt, PY.cmp_le, PY.cmp_gt, PY.cmp_ge, PY.un_not, PY.un_neg, PY.idx_tup, PY.idx_list, PY.idx_scr, PY.bc_int, PY.bc_abs, PY.bc_divmod, PY.bc_lenS, PY.bc_lenT, PY.bc_lenL, PY.bc_lenC, PY.a_tup, PY.as_nil, PY.as_cons, PY.okE, PY.bindE, PY.flE, PY.rtE, PY.nxE, PY.opt_s, PY.bind_ok, PY.fl_ok, PY.cm_lt, PY.cm_le, PY.cm_gt, PY.cm_ge, PY.cm_is, PY.cm_isn, PY.cm_in, PY.cm_nin, PY.cm_eqI, PY.cm_neI, PY.cm_eqS, PY.cm_neS, PY.cm_eqL, PY.cm_neL, PY.cm_eqT, PY.cm_neT, PY.cmp_eqS, PY.cmp_neS, PY.cmp_eqI, PY.cmp_neI, PY.cmp_inT, PY.ifQ_t, PY.ifQ_f, PY.tr_b, PY.tr_i, PY.tr_s, PY.tr_n, PY.isi_ii, PY.isi_bi, PY.isi_ss, PY.isi_tt, Option.map_some, PY.atI_0, PY.atI_1, PY.atI_2, PY.atI_3, PY.atI_4, PY.atI_5, List.set_cons_zero, List.set_cons_succ] at f
        exact f
      · refine ⟨fun z1 => ?_, fun _ => ?_⟩
        · rw [cm_ref (last_get st5.len), ne_empty (last_get st5.len) fun w m => (gw w m).1.ok]
          simp only [okE, ifQ_nd]
          refine ⟨by simp [sl], fun _ => ?_, fun zn => ?_⟩
          · have f := fin w h5 gw4 st5
            simp only [PY.wSs, PY.wSn, PY.w_if, PY.w_and2, PY.w_or2, PY.w_ite, PY.w_chain, PY.w_opt_s, PY.w_guard, PY.w_set_n0, PY.w_set_ns, PY.w_aug, PY.aug_add, PY.aug_sub, PY.idx_l0, PY.idx_l1, PY.idx_p0, PY.idx_p1, PY.idx_p2, PY.idx_p3, PY.idx_p4, PY.idx_p5, PY.w_mkLf, PY.w_mkLt, PY.es_star, PY.ks_cons, PY.ks_nil, PY.es_nil, PY.es_v, PY.es_c, PY.es_g, PY.es_bin, PY.es_un, PY.es_cmp, PY.es_chain, PY.es_and, PY.es_or, PY.es_ite, PY.es_tup, PY.es_lst, PY.es_idx, PY.es_slc, PY.es_rev, PY.es_call, PY.es_make, PY.es_bc, PY.es_bm, PY.es_meth, PY.es_attr, PY.es_isi, PY.es_comp, PY.es_frz, PY.e_attr, PY.e_make, PY.e_isi, PY.e_bm, PY.w_rev, PY.w_frz, PY.w_comp, PY.w_csn, PY.w_csc, PY.w_i_e, PY.w_i_range, PY.rng_1, PY.rng_2, PY.slc_str, PY.toI, PY.w_i_enum, PY.w_for, PY.itm_tup, PY.itm_list, PY.itm_scr, PY.itm_str, PY.itN_tup, PY.chk_none, PY.sq_tup, PY.sq_list, PY.bin_L, PY.bin_T, PY.bc_strI, PY.bc_strS, PY.bc_tupL, PY.bc_tupT, PY.bc_max2, PY.bc_min2, PY.e_v, PY.e_c, PY.e_bin, PY.e_un, PY.e_cmp, PY.e_idx, PY.e_bc, PY.e_call, PY.e_lst, PY.e_tup, PY.e_or, PY.e_and, PY.or1, PY.and1, PY.e_slc, PY.o_none, PY.o_some, PY.s_set, PY.s_ret, PY.s_expr, PY.getV_0, PY.getV_s, PY.bin_add, PY.bin_sub, PY.bin_mul, PY.bin_fdiv, PY.bin_mod, PY.bin_pow, PY.bin_cat, PY.cmp_lt, PY.cmp_le, PY.cmp_gt, PY.cmp_ge, PY.un_not, PY.un_neg, PY.idx_tup, PY.idx_list, PY.idx_scr, PY.bc_int, PY.bc_abs, PY.bc_divmod, PY.bc_lenS, PY.bc_lenT, PY.bc_lenL, PY.bc_lenC, PY.a_tup, PY.as_nil, PY.as_cons, PY.okE, PY.bindE, PY.flE, PY.rtE, PY.nxE, PY.opt_s, PY.bind_ok, PY.fl_ok, PY.cm_lt, PY.cm_le, PY.cm_gt, PY.cm_ge, PY.cm_is, PY.cm_isn, PY.cm_in, PY.cm_nin, PY.cm_eqI, PY.cm_neI, PY.cm_eqS, PY.cm_neS, PY.cm_eqL, PY.cm_neL, PY.cm_eqT, PY.cm_neT, PY.cmp_eqS, PY.cmp_neS, PY.cmp_eqI, PY.cmp_neI, PY.cmp_inT, PY.ifQ_t, PY.ifQ_f, PY.tr_b, PY.tr_i, PY.tr_s, PY.tr_n, PY.isi_ii, PY.isi_bi, PY.isi_ss, PY.isi_tt, Option.map_some, PY.atI_0, PY.atI_1, PY.atI_2, PY.atI_3, PY.atI_4, PY.atI_5, List.set_cons_zero, List.set_cons_succ] at f
            exact f
          · obtain ⟨v, ev, vm⟩ := atI_neg1 (xs := ws.map D.str) (fun q => zn (List.map_eq_nil_iff.mp q))
            obtain ⟨u, um, rfl⟩ := List.mem_map.mp vm
            have gu := (gw u um).1
            have ll : u.length + w.length ≤ sizeLine := by
              have := gu.l1
              have := gw4.l1
              omega
            have ll2 : (u ++ w).length ≤ sizeLine := by rw [Str.length_append]; exact ll
            rw [idx_ref (last_get st5.len), ev]
            have f := fin _ h5 (gu.cut gw4) st5
            simp only [PY.wSs, PY.wSn, PY.w_if, PY.w_and2, PY.w_or2, PY.w_ite, PY.w_chain, PY.w_opt_s, PY.w_guard, PY.w_set_n0, PY.w_set_ns, PY.w_aug, PY.aug_add, PY.aug_sub, PY.idx_l0, PY.idx_l1, PY.idx_p0, PY.idx_p1, PY.idx_p2, PY.idx_p3, PY.idx_p4, PY.idx_p5, PY.w_mkLf, PY.w_mkLt, PY.es_star, PY.ks_cons, PY.ks_nil, PY.es_nil, PY.es_v, PY.es_c, PY.es_g, PY.es_bin, PY.es_un, PY.es_cmp, PY.es_chain, PY.es_and, PY.es_or, PY.es_ite, PY.es_tup, PY.es_lst, PY.es_idx, PY.es_slc, PY.es_rev, PY.es_call, PY.es_make, PY.es_bc, PY.es_bm, PY.es_meth, PY.es_attr, PY.es_isi, PY.es_comp, PY.es_frz, PY.e_attr, PY.e_make, PY.e_isi, PY.e_bm, PY.w_rev, PY.w_frz, PY.w_comp, PY.w_csn, PY.w_csc, PY.w_i_e, PY.w_i_range, PY.rng_1, PY.rng_2, PY.slc_str, PY.toI, PY.w_i_enum, PY.w_for, PY.itm_tup, PY.itm_list, PY.itm_scr, PY.itm_str, PY.itN_tup, PY.chk_none, PY.sq_tup, PY.sq_list, PY.bin_L, PY.bin_T, PY.bc_strI, PY.bc_strS, PY.bc_tupL, PY.bc_tupT, PY.bc_max2, PY.bc_min2, PY.e_v, PY.e_c, PY.e_bin, PY.e_un, PY.e_cmp, PY.e_idx, PY.e_bc, PY.e_call, PY.e_lst, PY.e_tup, PY.e_or, PY.e_and, PY.or1, PY.and1, PY.e_slc, PY.o_none, PY.o_some, PY.s_set, PY.s_ret, PY.s_expr, PY.getV_0, PY.getV_s, PY.bin_add, PY.bin_sub, PY.bin_mul, PY.bin_fdiv, PY.bin_mod, PY.bin_pow, PY.bin_cat, PY.cmp_lt, PY.cmp_le, PY.cmp_gt, PY.cmp_ge, PY.un_not, PY.un_neg, PY.idx_tup, PY.idx_list, PY.idx_scr, PY.bc_int, PY.bc_abs, PY.bc_divmod, PY.bc_lenS, PY.bc_lenT, PY.bc_lenL, PY.bc_lenC, PY.a_tup, PY.as_nil, PY.as_cons, PY.okE, PY.bindE, PY.flE, PY.rtE, PY.nxE, PY.opt_s, PY.bind_ok, PY.fl_ok, PY.cm_lt, PY.cm_le, PY.cm_gt, PY.cm_ge, PY.cm_is, PY.cm_isn, PY.cm_in, PY.cm_nin, PY.cm_eqI, PY.cm_neI, PY.cm_eqS, PY.cm_neS, PY.cm_eqL, PY.cm_neL, PY.cm_eqT, PY.cm_neT, PY.cmp_eqS, PY.cmp_neS, PY.cmp_eqI, PY.cmp_neI, PY.cmp_inT, PY.ifQ_t, PY.ifQ_f, PY.tr_b, PY.tr_i, PY.tr_s, PY.tr_n, PY.isi_ii, PY.isi_bi, PY.isi_ss, PY.isi_tt, Option.map_some, PY.atI_0, PY.atI_1, PY.atI_2, PY.atI_3, PY.atI_4, PY.atI_5, List.set_cons_zero, List.set_cons_succ, decide_eq_true ll, decide_eq_true ll2]
            simp only [PY.wSs, PY.wSn, PY.w_if, PY.w_and2, PY.w_or2, PY.w_ite, PY.w_chain, PY.w_opt_s, PY.w_guard, PY.w_set_n0, PY.w_set_ns, PY.w_aug, PY.aug_add, PY.aug_sub, PY.idx_l0, PY.idx_l1, PY.idx_p0, PY.idx_p1, PY.idx_p2, PY.idx_p3, PY.idx_p4, PY.idx_p5, PY.w_mkLf, PY.w_mkLt, PY.es_star, PY.ks_cons, PY.ks_nil, PY.es_nil, PY.es_v, PY.es_c, PY.es_g, PY.es_bin, PY.es_un, PY.es_cmp, PY.es_chain, PY.es_and, PY.es_or, PY.es_ite, PY.es_tup, PY.es_lst, PY.es_idx, PY.es_slc, PY.es_rev, PY.es_call, PY.es_make, PY.es_bc, PY.es_bm, PY.es_meth, PY.es_attr, PY.es_isi, PY.es_comp, PY.es_frz, PY.e_attr, PY.e_make, PY.e_isi, PY.e_bm, PY.w_rev, PY.w_frz, PY.w_comp, PY.w_csn, PY.w_csc, PY.w_i_e, PY.w_i_range, PY.rng_1, PY.rng_2, PY.slc_str, PY.toI, PY.w_i_enum, PY.w_for, PY.itm_tup, PY.itm_list, PY.itm_scr, PY.itm_str, PY.itN_tup, PY.chk_none, PY.sq_tup, PY.sq_list, PY.bin_L, PY.bin_T, PY.bc_strI, PY.bc_strS, PY.bc_tupL, PY.bc_tupT, PY.bc_max2, PY.bc_min2, PY.e_v, PY.e_c, PY.e_bin, PY.e_un, PY.e_cmp, PY.e_idx, PY.e_bc, PY.e_call, PY.e_lst, PY.e_tup, PY.e_or, PY.e_and, PY.or1, PY.and1, PY.e_slc, PY.o_none, PY.o_some, PY.s_set, PY.s_ret, PY.s_expr, PY.getV_0, PY.getV_s, PY.bin_add, PY.bin_sub, PY.bin_mul, PY.bin_fdiv, PY.bin_mod, PY.bin_pow, PY.bin_cat, PY.cmp_lt, PY.cmp_le, PY.cmp_gt, PY.cmp_ge, PY.un_not, PY.un_neg, PY.idx_tup, PY.idx_list, PY.idx_scr, PY.bc_int, PY.bc_abs, PY.bc_divmod, PY.bc_lenS, PY.bc_lenT, PY.bc_lenL, PY.bc_lenC, PY.a_tup, PY.as_nil, PY.as_cons, PY.okE, PY.bindE, PY.flE, PY.rtE, PY.nxE, PY.opt_s, PY.bind_ok, PY.fl_ok, PY.cm_lt, PY.cm_le, PY.cm_gt, PY.cm_ge, PY.cm_is, PY.cm_isn, PY.cm_in, PY.cm_nin, PY.cm_eqI, PY.cm_neI, PY.cm_eqS, PY.cm_neS, PY.cm_eqL, PY.cm_neL, PY.cm_eqT, PY.cm_neT, PY.cmp_eqS, PY.cmp_neS, PY.cmp_eqI, PY.cmp_neI, PY.cmp_inT, PY.ifQ_t, PY.ifQ_f, PY.tr_b, PY.tr_i, PY.tr_s, PY.tr_n, PY.isi_ii, PY.isi_bi, PY.isi_ss, PY.isi_tt, Option.map_some, PY.atI_0, PY.atI_1, PY.atI_2, PY.atI_3, PY.atI_4, PY.atI_5, List.set_cons_zero, List.set_cons_succ] at f
            exact ⟨trivial, trivial, f⟩
        · have f := fin w h5 gw4 st5
          simp only [PY.wSs, PY.wSn, PY.w_if, PY.w_and2, PY.w_or2, PY.w_ite, PY.w_chain, PY.w_opt_s, PY.w_guard, PY.w_set_n0, PY.w_set_ns, PY.w_aug, PY.aug_add, PY.aug_sub, PY.idx_l0, PY.idx_l1, PY.idx_p0, PY.idx_p1, PY.idx_p2, PY.idx_p3, PY.idx_p4, PY.idx_p5, PY.w_mkLf, PY.w_mkLt, PY.es_star, PY.ks_cons, PY.ks_nil, PY.es_nil, PY.es_v, PY.es_c, PY.es_g, PY.es_bin, PY.es_un, PY.es_cmp, PY.es_chain, PY.es_and, PY.es_or, PY.es_ite, PY.es_tup, PY.es_lst, PY.es_idx, PY.es_slc, PY.es_rev, PY.es_call, PY.es_make, PY.es_bc, PY.es_bm, PY.es_meth, PY.es_attr, PY.es_isi, PY.es_comp, PY.es_frz, PY.e_attr, PY.e_make, PY.e_isi, PY.e_bm, PY.w_rev, PY.w_frz, PY.w_comp, PY.w_csn, PY.w_csc, PY.w_i_e, PY.w_i_range, PY.rng_1, PY.rng_2, PY.slc_str, PY.toI, PY.w_i_enum, PY.w_for, PY.itm_tup, PY.itm_list, PY.itm_scr, PY.itm_str, PY.itN_tup, PY.chk_none, PY.sq_tup, PY.sq_list, PY.bin_L, PY.bin_T, PY.bc_strI, PY.bc_strS, PY.bc_tupL, PY.bc_tupT, PY.bc_max2, PY.bc_min2, PY.e_v, PY.e_c, PY.e_bin, PY.e_un, PY.e_cmp, PY.e_idx, PY.e_bc, PY.e_call, PY.e_lst, PY.e_tup, PY.e_or, PY.e_and, PY.or1, PY.and1, PY.e_slc, PY.o_none, PY.o_some, PY.s_set, PY.s_ret, PY.s_expr, PY.getV_0, PY.getV_s, PY.bin_add, PY.bin_sub, PY.bin_mul, PY.bin_fdiv, PY.bin_mod, PY.bin_pow, PY.bin_cat, PY.cmp_lt, PY.cmp_le, PY.cmp_gt, PY.cmp_ge, PY.un_not, PY.un_neg, PY.idx_tup, PY.idx_list, PY.idx_scr, PY.bc_int, PY.bc_abs, PY.bc_divmod, PY.bc_lenS, PY.bc_lenT, PY.bc_lenL, PY.bc_lenC, PY.a_tup, PY.as_nil, PY.as_cons, PY.okE, PY.bindE, PY.flE, PY.rtE, PY.nxE, PY.opt_s, PY.bind_ok, PY.fl_ok, PY.cm_lt, PY.cm_le, PY.cm_gt, PY.cm_ge, PY.cm_is, PY.cm_isn, PY.cm_in, PY.cm_nin, PY.cm_eqI, PY.cm_neI, PY.cm_eqS, PY.cm_neS, PY.cm_eqL, PY.cm_neL, PY.cm_eqT, PY.cm_neT, PY.cmp_eqS, PY.cmp_neS, PY.cmp_eqI, PY.cmp_neI, PY.cmp_inT, PY.ifQ_t, PY.ifQ_f, PY.tr_b, PY.tr_i, PY.tr_s, PY.tr_n, PY.isi_ii, PY.isi_bi, PY.isi_ss, PY.isi_tt, Option.map_some, PY.atI_0, PY.atI_1, PY.atI_2, PY.atI_3, PY.atI_4, PY.atI_5, List.set_cons_zero, List.set_cons_succ] at f
          exact f
  · rintro k' env hh ⟨h1, ws, o4, o5, o6, o7, o8, o9, oa, ek, s1, rfl, wl, nd, gw, rfl⟩
    simp only [PY.wSs, PY.wSn, PY.w_if, PY.w_and2, PY.w_or2, PY.w_ite, PY.w_chain, PY.w_opt_s, PY.w_guard, PY.w_set_n0, PY.w_set_ns, PY.w_aug, PY.aug_add, PY.aug_sub, PY.idx_l0, PY.idx_l1, PY.idx_p0, PY.idx_p1, PY.idx_p2, PY.idx_p3, PY.idx_p4, PY.idx_p5, PY.w_mkLf, PY.w_mkLt, PY.es_star, PY.ks_cons, PY.ks_nil, PY.es_nil, PY.es_v, PY.es_c, PY.es_g, PY.es_bin, PY.es_un, PY.es_cmp, PY.es_chain, PY.es_and, PY.es_or, PY.es_ite, PY.es_tup, PY.es_lst, PY.es_idx, PY.es_slc, PY.es_rev, PY.es_call, PY.es_make, PY.es_bc, PY.es_bm, PY.es_meth, PY.es_attr, PY.es_isi, PY.es_comp, PY.es_frz, PY.e_attr, PY.e_make, PY.e_isi, PY.e_bm, PY.w_rev, PY.w_frz, PY.w_comp, PY.w_csn, PY.w_csc, PY.w_i_e, PY.w_i_range, PY.rng_1, PY.rng_2, PY.slc_str, PY.toI, PY.w_i_enum, PY.w_for, PY.itm_tup, PY.itm_list, PY.itm_scr, PY.itm_str, PY.itN_tup, PY.chk_none, PY.sq_tup, PY.sq_list, PY.bin_L, PY.bin_T, PY.bc_strI, PY.bc_strS, PY.bc_tupL, PY.bc_tupT, PY.bc_max2, PY.bc_min2, PY.e_v, PY.e_c, PY.e_bin, PY.e_un, PY.e_cmp, PY.e_idx, PY.e_bc, PY.e_call, PY.e_lst, PY.e_tup, PY.e_or, PY.e_and, PY.or1, PY.and1, PY.e_slc, PY.o_none, PY.o_some, PY.s_set, PY.s_ret, PY.s_expr, PY.getV_0, PY.getV_s, PY.bin_add, PY.bin_sub, PY.bin_mul, PY.bin_fdiv, PY.bin_mod, PY.bin_pow, PY.bin_cat, PY.cmp_lt, PY.cmp_le, PY.cmp_gt, PY.cmp_ge, PY.un_not, PY.un_neg, PY.idx_tup, PY.idx_list, PY.idx_scr, PY.bc_int, PY.bc_abs, PY.bc_divmod, PY.bc_lenS, PY.bc_lenT, PY.bc_lenL, PY.bc_lenC, PY.a_tup, PY.as_nil, PY.as_cons, PY.okE, PY.bindE, PY.flE, PY.rtE, PY.nxE, PY.opt_s, PY.bind_ok, PY.fl_ok, PY.cm_lt, PY.cm_le, PY.cm_gt, PY.cm_ge, PY.cm_is, PY.cm_isn, PY.cm_in, PY.cm_nin, PY.cm_eqI, PY.cm_neI, PY.cm_eqS, PY.cm_neS, PY.cm_eqL, PY.cm_neL, PY.cm_eqT, PY.cm_neT, PY.cmp_eqS, PY.cmp_neS, PY.cmp_eqI, PY.cmp_neI, PY.cmp_inT, PY.ifQ_t, PY.ifQ_f, PY.tr_b, PY.tr_i, PY.tr_s, PY.tr_n, PY.isi_ii, PY.isi_bi, PY.isi_ss, PY.isi_tt, Option.map_some, PY.atI_0, PY.atI_1, PY.atI_2, PY.atI_3, PY.atI_4, PY.atI_5, List.set_cons_zero, List.set_cons_succ, last_get s1.len, last_set s1.len]
    refine tr_stp s1 strs_lt ⟨s1, ws, rfl, by omega, nd, gw⟩
end K12
end
section
set_option Elab.async false
set_option linter.all false
set_option maxRecDepth 100000
set_option maxHeartbeats 2000000
namespace K12
open PySem PyProof.Rows PY L12
theorem lanes {n i : Nat} {t : Int} {h : Hh} (s : Sk i h) (t0 : 0 < t) (t1 : t ≤ 1000000) : okR (PY.run prg (n + 4) 27 [.ref i, .int 3, .int t] h) fun d h' => Stp i h h' ∧ ∃ ls : List (Str × Int), d = .tup (ls.map laneD) ∧ GLanes ls ∧ ∀ p ∈ ls, -t ≤ p.2 ∧ p.2 ≤ t := by
  have sl := sizeLine_eq
  rw [r_27]
  simp only [PY.wSs, PY.wSn, PY.w_if, PY.w_and2, PY.w_or2, PY.w_ite, PY.w_chain, PY.w_opt_s, PY.w_guard, PY.w_set_n0, PY.w_set_ns, PY.w_aug, PY.aug_add, PY.aug_sub, PY.idx_l0, PY.idx_l1, PY.idx_p0, PY.idx_p1, PY.idx_p2, PY.idx_p3, PY.idx_p4, PY.idx_p5, PY.w_mkLf, PY.w_mkLt, PY.es_star, PY.ks_cons, PY.ks_nil, PY.es_nil, PY.es_v, PY.es_c, PY.es_g, PY.es_bin, PY.es_un, PY.es_cmp, PY.es_chain, PY.es_and, PY.es_or, PY.es_ite, PY.es_tup, PY.es_lst, PY.es_idx, PY.es_slc, PY.es_rev, PY.es_call, PY.es_make, PY.es_bc, PY.es_bm, PY.es_meth, PY.es_attr, PY.es_isi, PY.es_comp, PY.es_frz, PY.e_attr, PY.e_make, PY.e_isi, PY.e_bm, PY.w_rev, PY.w_frz, PY.w_comp, PY.w_csn, PY.w_csc, PY.w_i_e, PY.w_i_range, PY.rng_1, PY.rng_2, PY.slc_str, PY.toI, PY.w_i_enum, PY.w_for, PY.itm_tup, PY.itm_list, PY.itm_scr, PY.itm_str, PY.itN_tup, PY.chk_none, PY.sq_tup, PY.sq_list, PY.bin_L, PY.bin_T, PY.bc_strI, PY.bc_strS, PY.bc_tupL, PY.bc_tupT, PY.bc_max2, PY.bc_min2, PY.e_v, PY.e_c, PY.e_bin, PY.e_un, PY.e_cmp, PY.e_idx, PY.e_bc, PY.e_call, PY.e_lst, PY.e_tup, PY.e_or, PY.e_and, PY.or1, PY.and1, PY.e_slc, PY.o_none, PY.o_some, PY.s_set, PY.s_ret, PY.s_expr, PY.getV_0, PY.getV_s, PY.bin_add, PY.bin_sub, PY.bin_mul, PY.bin_fdiv, PY.bin_mod, PY.bin_pow, PY.bin_cat, PY.cmp_lt, PY.cmp_le, PY.cmp_gt, PY.cmp_ge, PY.un_not, PY.un_neg, PY.idx_tup, PY.idx_list, PY.idx_scr, PY.bc_int, PY.bc_abs, PY.bc_divmod, PY.bc_lenS, PY.bc_lenT, PY.bc_lenL, PY.bc_lenC, PY.a_tup, PY.as_nil, PY.as_cons, PY.okE, PY.bindE, PY.flE, PY.rtE, PY.nxE, PY.opt_s, PY.bind_ok, PY.fl_ok, PY.cm_lt, PY.cm_le, PY.cm_gt, PY.cm_ge, PY.cm_is, PY.cm_isn, PY.cm_in, PY.cm_nin, PY.cm_eqI, PY.cm_neI, PY.cm_eqS, PY.cm_neS, PY.cm_eqL, PY.cm_neL, PY.cm_eqT, PY.cm_neT, PY.cmp_eqS, PY.cmp_neS, PY.cmp_eqI, PY.cmp_neI, PY.cmp_inT, PY.ifQ_t, PY.ifQ_f, PY.tr_b, PY.tr_i, PY.tr_s, PY.tr_n, PY.isi_ii, PY.isi_bi, PY.isi_ss, PY.isi_tt, Option.map_some, PY.atI_0, PY.atI_1, PY.atI_2, PY.atI_3, PY.atI_4, PY.atI_5, List.set_cons_zero, List.set_cons_succ, fn27, c_22, c_24, c_25]
  refine grab s (by decide) (by decide) fun d h1 d0 d3 s1 => ?_
  simp only [bin_add, okE]
  refine okR_mono (titles s1.sk (by omega) (by omega)) ?_
  rintro _ h2 ⟨s2, ws, rfl, wl, nd, gw⟩
  simp only [PY.wSs, PY.wSn, PY.w_if, PY.w_and2, PY.w_or2, PY.w_ite, PY.w_chain, PY.w_opt_s, PY.w_guard, PY.w_set_n0, PY.w_set_ns, PY.w_aug, PY.aug_add, PY.aug_sub, PY.idx_l0, PY.idx_l1, PY.idx_p0, PY.idx_p1, PY.idx_p2, PY.idx_p3, PY.idx_p4, PY.idx_p5, PY.w_mkLf, PY.w_mkLt, PY.es_star, PY.ks_cons, PY.ks_nil, PY.es_nil, PY.es_v, PY.es_c, PY.es_g, PY.es_bin, PY.es_un, PY.es_cmp, PY.es_chain, PY.es_and, PY.es_or, PY.es_ite, PY.es_tup, PY.es_lst, PY.es_idx, PY.es_slc, PY.es_rev, PY.es_call, PY.es_make, PY.es_bc, PY.es_bm, PY.es_meth, PY.es_attr, PY.es_isi, PY.es_comp, PY.es_frz, PY.e_attr, PY.e_make, PY.e_isi, PY.e_bm, PY.w_rev, PY.w_frz, PY.w_comp, PY.w_csn, PY.w_csc, PY.w_i_e, PY.w_i_range, PY.rng_1, PY.rng_2, PY.slc_str, PY.toI, PY.w_i_enum, PY.w_for, PY.itm_tup, PY.itm_list, PY.itm_scr, PY.itm_str, PY.itN_tup, PY.chk_none, PY.sq_tup, PY.sq_list, PY.bin_L, PY.bin_T, PY.bc_strI, PY.bc_strS, PY.bc_tupL, PY.bc_tupT, PY.bc_max2, PY.bc_min2, PY.e_v, PY.e_c, PY.e_bin, PY.e_un, PY.e_cmp, PY.e_idx, PY.e_bc, PY.e_call, PY.e_lst, PY.e_tup, PY.e_or, PY.e_and, PY.or1, PY.and1, PY.e_slc, PY.o_none, PY.o_some, PY.s_set, PY.s_ret, PY.s_expr, PY.getV_0, PY.getV_s, PY.bin_add, PY.bin_sub, PY.bin_mul, PY.bin_fdiv, PY.bin_mod, PY.bin_pow, PY.bin_cat, PY.cmp_lt, PY.cmp_le, PY.cmp_gt, PY.cmp_ge, PY.un_not, PY.un_neg, PY.idx_tup, PY.idx_list, PY.idx_scr, PY.bc_int, PY.bc_abs, PY.bc_divmod, PY.bc_lenS, PY.bc_lenT, PY.bc_lenL, PY.bc_lenC, PY.a_tup, PY.as_nil, PY.as_cons, PY.okE, PY.bindE, PY.flE, PY.rtE, PY.nxE, PY.opt_s, PY.bind_ok, PY.fl_ok, PY.cm_lt, PY.cm_le, PY.cm_gt, PY.cm_ge, PY.cm_is, PY.cm_isn, PY.cm_in, PY.cm_nin, PY.cm_eqI, PY.cm_neI, PY.cm_eqS, PY.cm_neS, PY.cm_eqL, PY.cm_neL, PY.cm_eqT, PY.cm_neT, PY.cmp_eqS, PY.cmp_neS, PY.cmp_eqI, PY.cmp_neI, PY.cmp_inT, PY.ifQ_t, PY.ifQ_f, PY.tr_b, PY.tr_i, PY.tr_s, PY.tr_n, PY.isi_ii, PY.isi_bi, PY.isi_ss, PY.isi_tt, Option.map_some, PY.atI_0, PY.atI_1, PY.atI_2, PY.atI_3, PY.atI_4, PY.atI_5, List.set_cons_zero, List.set_cons_succ]
  refine okR_mono (w_cdraw (encB := laneD) (R := fun w z => z.1 = w ∧ -t ≤ z.2 ∧ z.2 ≤ t) (fun w wm h3 s3 => ?_) s2.sk) ?_
  · rw [w_cB (env' := [some (.ref i), some (.int 3), some (.int t), some (.str w)]) rfl]
    simp only [PY.wSs, PY.wSn, PY.w_if, PY.w_and2, PY.w_or2, PY.w_ite, PY.w_chain, PY.w_opt_s, PY.w_guard, PY.w_set_n0, PY.w_set_ns, PY.w_aug, PY.aug_add, PY.aug_sub, PY.idx_l0, PY.idx_l1, PY.idx_p0, PY.idx_p1, PY.idx_p2, PY.idx_p3, PY.idx_p4, PY.idx_p5, PY.w_mkLf, PY.w_mkLt, PY.es_star, PY.ks_cons, PY.ks_nil, PY.es_nil, PY.es_v, PY.es_c, PY.es_g, PY.es_bin, PY.es_un, PY.es_cmp, PY.es_chain, PY.es_and, PY.es_or, PY.es_ite, PY.es_tup, PY.es_lst, PY.es_idx, PY.es_slc, PY.es_rev, PY.es_call, PY.es_make, PY.es_bc, PY.es_bm, PY.es_meth, PY.es_attr, PY.es_isi, PY.es_comp, PY.es_frz, PY.e_attr, PY.e_make, PY.e_isi, PY.e_bm, PY.w_rev, PY.w_frz, PY.w_comp, PY.w_csn, PY.w_csc, PY.w_i_e, PY.w_i_range, PY.rng_1, PY.rng_2, PY.slc_str, PY.toI, PY.w_i_enum, PY.w_for, PY.itm_tup, PY.itm_list, PY.itm_scr, PY.itm_str, PY.itN_tup, PY.chk_none, PY.sq_tup, PY.sq_list, PY.bin_L, PY.bin_T, PY.bc_strI, PY.bc_strS, PY.bc_tupL, PY.bc_tupT, PY.bc_max2, PY.bc_min2, PY.e_v, PY.e_c, PY.e_bin, PY.e_un, PY.e_cmp, PY.e_idx, PY.e_bc, PY.e_call, PY.e_lst, PY.e_tup, PY.e_or, PY.e_and, PY.or1, PY.and1, PY.e_slc, PY.o_none, PY.o_some, PY.s_set, PY.s_ret, PY.s_expr, PY.getV_0, PY.getV_s, PY.bin_add, PY.bin_sub, PY.bin_mul, PY.bin_fdiv, PY.bin_mod, PY.bin_pow, PY.bin_cat, PY.cmp_lt, PY.cmp_le, PY.cmp_gt, PY.cmp_ge, PY.un_not, PY.un_neg, PY.idx_tup, PY.idx_list, PY.idx_scr, PY.bc_int, PY.bc_abs, PY.bc_divmod, PY.bc_lenS, PY.bc_lenT, PY.bc_lenL, PY.bc_lenC, PY.a_tup, PY.as_nil, PY.as_cons, PY.okE, PY.bindE, PY.flE, PY.rtE, PY.nxE, PY.opt_s, PY.bind_ok, PY.fl_ok, PY.cm_lt, PY.cm_le, PY.cm_gt, PY.cm_ge, PY.cm_is, PY.cm_isn, PY.cm_in, PY.cm_nin, PY.cm_eqI, PY.cm_neI, PY.cm_eqS, PY.cm_neS, PY.cm_eqL, PY.cm_neL, PY.cm_eqT, PY.cm_neT, PY.cmp_eqS, PY.cmp_neS, PY.cmp_eqI, PY.cmp_neI, PY.cmp_inT, PY.ifQ_t, PY.ifQ_f, PY.tr_b, PY.tr_i, PY.tr_s, PY.tr_n, PY.isi_ii, PY.isi_bi, PY.isi_ss, PY.isi_tt, Option.map_some, PY.atI_0, PY.atI_1, PY.atI_2, PY.atI_3, PY.atI_4, PY.atI_5, List.set_cons_zero, List.set_cons_succ, c_25]
    refine ⟨trivial, ?_⟩
    simp only [if_true]
    refine value s3 t0 t1 fun v h4 v0 v1 s4 => ?_
    exact ⟨by simp [sl], s4, (w, v), rfl, rfl, v0, v1⟩
  · rintro ds h3 ⟨s3, zs, rfl, al⟩
    have en : zs.map (·.1) = ws := by
      have := al.map (f := fun w => w) (g := fun z : Str × Int => z.1) (fun a b r => r.1.symm)
      rw [← this, List.map_id']
    have zl : zs.length = ws.length := by rw [← en, List.length_map]
    refine ⟨trivial, by rw [List.length_map]; omega, ?_⟩
    have st := (s1.trans s2).trans s3
    refine tr_st st (by simp only [D.lt]; exact lanes_lt) ⟨st, zs, rfl, ⟨by omega, by omega, fun p pm => ?_, by rw [en]; exact nd⟩, fun p pm => ?_⟩
    · obtain ⟨w, wm, r1, r2, r3⟩ := al.mem p pm
      have g := gw p.1 (by rw [r1]; exact wm)
      exact ⟨g.1, g.2, by omega, by omega⟩
    · obtain ⟨w, wm, r1, r2, r3⟩ := al.mem p pm
      exact ⟨r2, r3⟩
theorem parts {n i : Nat} {k sp t : Int} {ls : List (Str × Int)} {h : Hh} (s : Sk i h) (gl : GLanes ls) (k0 : 0 ≤ k) (k1 : k ≤ 8) (p0 : 0 < sp) (p1 : sp ≤ 1000000) (t0 : 0 < t) (t1 : t ≤ 1000000) :
    okR (PY.run prg (n + 4) 28 [.ref i, .tup (ls.map laneD), .int k, .int sp, .int t] h) fun d h' => Stp i h h' ∧ ∃ ps : List Part, d = .tup (ps.map partD) ∧ GParts (ls.map (·.1)) ps ∧ (ps.length : Int) ≤ k ∧ ∀ p ∈ ps, p.d ≤ sp ∧ p.l ≤ sp := by
  have sl := sizeLine_eq
  have il := s.lt
  have l3 := gl.l1
  rw [r_28]
  simp only [PY.wSs, PY.wSn, PY.w_if, PY.w_and2, PY.w_or2, PY.w_ite, PY.w_chain, PY.w_opt_s, PY.w_guard, PY.w_set_n0, PY.w_set_ns, PY.w_aug, PY.aug_add, PY.aug_sub, PY.idx_l0, PY.idx_l1, PY.idx_p0, PY.idx_p1, PY.idx_p2, PY.idx_p3, PY.idx_p4, PY.idx_p5, PY.w_mkLf, PY.w_mkLt, PY.es_star, PY.ks_cons, PY.ks_nil, PY.es_nil, PY.es_v, PY.es_c, PY.es_g, PY.es_bin, PY.es_un, PY.es_cmp, PY.es_chain, PY.es_and, PY.es_or, PY.es_ite, PY.es_tup, PY.es_lst, PY.es_idx, PY.es_slc, PY.es_rev, PY.es_call, PY.es_make, PY.es_bc, PY.es_bm, PY.es_meth, PY.es_attr, PY.es_isi, PY.es_comp, PY.es_frz, PY.e_attr, PY.e_make, PY.e_isi, PY.e_bm, PY.w_rev, PY.w_frz, PY.w_comp, PY.w_csn, PY.w_csc, PY.w_i_e, PY.w_i_range, PY.rng_1, PY.rng_2, PY.slc_str, PY.toI, PY.w_i_enum, PY.w_for, PY.itm_tup, PY.itm_list, PY.itm_scr, PY.itm_str, PY.itN_tup, PY.chk_none, PY.sq_tup, PY.sq_list, PY.bin_L, PY.bin_T, PY.bc_strI, PY.bc_strS, PY.bc_tupL, PY.bc_tupT, PY.bc_max2, PY.bc_min2, PY.e_v, PY.e_c, PY.e_bin, PY.e_un, PY.e_cmp, PY.e_idx, PY.e_bc, PY.e_call, PY.e_lst, PY.e_tup, PY.e_or, PY.e_and, PY.or1, PY.and1, PY.e_slc, PY.o_none, PY.o_some, PY.s_set, PY.s_ret, PY.s_expr, PY.getV_0, PY.getV_s, PY.bin_add, PY.bin_sub, PY.bin_mul, PY.bin_fdiv, PY.bin_mod, PY.bin_pow, PY.bin_cat, PY.cmp_lt, PY.cmp_le, PY.cmp_gt, PY.cmp_ge, PY.un_not, PY.un_neg, PY.idx_tup, PY.idx_list, PY.idx_scr, PY.bc_int, PY.bc_abs, PY.bc_divmod, PY.bc_lenS, PY.bc_lenT, PY.bc_lenL, PY.bc_lenC, PY.a_tup, PY.as_nil, PY.as_cons, PY.okE, PY.bindE, PY.flE, PY.rtE, PY.nxE, PY.opt_s, PY.bind_ok, PY.fl_ok, PY.cm_lt, PY.cm_le, PY.cm_gt, PY.cm_ge, PY.cm_is, PY.cm_isn, PY.cm_in, PY.cm_nin, PY.cm_eqI, PY.cm_neI, PY.cm_eqS, PY.cm_neS, PY.cm_eqL, PY.cm_neL, PY.cm_eqT, PY.cm_neT, PY.cmp_eqS, PY.cmp_neS, PY.cmp_eqI, PY.cmp_neI, PY.cmp_inT, PY.ifQ_t, PY.ifQ_f, PY.tr_b, PY.tr_i, PY.tr_s, PY.tr_n, PY.isi_ii, PY.isi_bi, PY.isi_ss, PY.isi_tt, Option.map_some, PY.atI_0, PY.atI_1, PY.atI_2, PY.atI_3, PY.atI_4, PY.atI_5, List.set_cons_zero, List.set_cons_succ, fn28, c_22]
  refine ⟨by simp [sl], grabF (x := [.lst []]) s (by omega) (by omega) fun d h0 d0 d1 s0 => ?_⟩
  simp only [rng_1, w_guard, okE]
  refine ⟨inR_ok d0 (by omega), ?_⟩
  refine forM_upto (I := fun k' m env hh => ∃ (h1 : Hh) (ps : List Part) (o6 o7 o8 o9 oa ob : Option D), k' + (m : Int) ≤ k ∧ Stp i h h1 ∧ hh = h1 ++ [.lst (ps.map partD)] ∧ (ps.length : Int) = k' ∧ (∀ p ∈ ps, GPart (ls.map (·.1)) p) ∧ (ps.filter Part.click).length ≤ 3 ∧ (∀ p ∈ ps, p.d ≤ sp ∧ p.l ≤ sp) ∧
      env = [some (.ref i), some (.tup (ls.map laneD)), some (.int k), some (.int sp), some (.int t), some (.ref h.length), o6, o7, o8, o9, oa, ob]) (fun _ _ _ _ _ => rfl) ?_ ?_ ⟨h0, [], none, none, none, none, none, none, by omega, s0, rfl, rfl, (fun _ m => by cases m), by decide, (fun _ m => by cases m), rfl⟩
  · rintro k' m env hh ⟨h1, ps, o6, o7, o8, o9, oa, ob, ek, s1, rfl, pl, ga, gc, gs, rfl⟩
    show wF (evSs _ _ _ [some (.ref i), some (.tup (ls.map laneD)), some (.int k), some (.int sp), some (.int t), some (.ref h.length), some (.int k'), o7, o8, o9, oa, ob] _) _ _
    have lg : ∀ {h6 : Hh}, Stp i h h6 → (h6 ++ [O.lst (ps.map partD)])[h.length]? = some (.lst (ps.map partD)) := fun s6 => last_get s6.len
    refine w_cut (fun env hh => ∃ (h2 : Hh) (z : Str), Stp i h h2 ∧ hh = h2 ++ [.lst (ps.map partD)] ∧ (z = "click" ∨ z = "with" ∨ z = "after") ∧
      env = [some (.ref i), some (.tup (ls.map laneD)), some (.int k), some (.int sp), some (.int t), some (.ref h.length), some (.int k'), some (.str z), o8, o9, oa, ob]) ?_ ?_
    · simp only [PY.wSs, PY.wSn, PY.w_if, PY.w_and2, PY.w_or2, PY.w_ite, PY.w_chain, PY.w_opt_s, PY.w_guard, PY.w_set_n0, PY.w_set_ns, PY.w_aug, PY.aug_add, PY.aug_sub, PY.idx_l0, PY.idx_l1, PY.idx_p0, PY.idx_p1, PY.idx_p2, PY.idx_p3, PY.idx_p4, PY.idx_p5, PY.w_mkLf, PY.w_mkLt, PY.es_star, PY.ks_cons, PY.ks_nil, PY.es_nil, PY.es_v, PY.es_c, PY.es_g, PY.es_bin, PY.es_un, PY.es_cmp, PY.es_chain, PY.es_and, PY.es_or, PY.es_ite, PY.es_tup, PY.es_lst, PY.es_idx, PY.es_slc, PY.es_rev, PY.es_call, PY.es_make, PY.es_bc, PY.es_bm, PY.es_meth, PY.es_attr, PY.es_isi, PY.es_comp, PY.es_frz, PY.e_attr, PY.e_make, PY.e_isi, PY.e_bm, PY.w_rev, PY.w_frz, PY.w_comp, PY.w_csn, PY.w_csc, PY.w_i_e, PY.w_i_range, PY.rng_1, PY.rng_2, PY.slc_str, PY.toI, PY.w_i_enum, PY.w_for, PY.itm_tup, PY.itm_list, PY.itm_scr, PY.itm_str, PY.itN_tup, PY.chk_none, PY.sq_tup, PY.sq_list, PY.bin_L, PY.bin_T, PY.bc_strI, PY.bc_strS, PY.bc_tupL, PY.bc_tupT, PY.bc_max2, PY.bc_min2, PY.e_v, PY.e_c, PY.e_bin, PY.e_un, PY.e_cmp, PY.e_idx, PY.e_bc, PY.e_call, PY.e_lst, PY.e_tup, PY.e_or, PY.e_and, PY.or1, PY.and1, PY.e_slc, PY.o_none, PY.o_some, PY.s_set, PY.s_ret, PY.s_expr, PY.getV_0, PY.getV_s, PY.bin_add, PY.bin_sub, PY.bin_mul, PY.bin_fdiv, PY.bin_mod, PY.bin_pow, PY.bin_cat, PY.cmp_lt, PY.cmp_le, PY.cmp_gt, PY.cmp_ge, PY.un_not, PY.un_neg, PY.idx_tup, PY.idx_list, PY.idx_scr, PY.bc_int, PY.bc_abs, PY.bc_divmod, PY.bc_lenS, PY.bc_lenT, PY.bc_lenL, PY.bc_lenC, PY.a_tup, PY.as_nil, PY.as_cons, PY.okE, PY.bindE, PY.flE, PY.rtE, PY.nxE, PY.opt_s, PY.bind_ok, PY.fl_ok, PY.cm_lt, PY.cm_le, PY.cm_gt, PY.cm_ge, PY.cm_is, PY.cm_isn, PY.cm_in, PY.cm_nin, PY.cm_eqI, PY.cm_neI, PY.cm_eqS, PY.cm_neS, PY.cm_eqL, PY.cm_neL, PY.cm_eqT, PY.cm_neT, PY.cmp_eqS, PY.cmp_neS, PY.cmp_eqI, PY.cmp_neI, PY.cmp_inT, PY.ifQ_t, PY.ifQ_f, PY.tr_b, PY.tr_i, PY.tr_s, PY.tr_n, PY.isi_ii, PY.isi_bi, PY.isi_ss, PY.isi_tt, Option.map_some, PY.atI_0, PY.atI_1, PY.atI_2, PY.atI_3, PY.atI_4, PY.atI_5, List.set_cons_zero, List.set_cons_succ, c_23]
      refine ⟨by simp [sl], pickLF s1.sk (by simp) (by simp) (fun d h2 dm s2 => ?_) rfl⟩
      simp only [List.mem_cons, List.not_mem_nil, or_false] at dm
      rcases dm with rfl | rfl | rfl
      · exact ⟨h2, _, s1.trans s2, rfl, .inl rfl, rfl⟩
      · exact ⟨h2, _, s1.trans s2, rfl, .inr (.inl rfl), rfl⟩
      · exact ⟨h2, _, s1.trans s2, rfl, .inr (.inr rfl), rfl⟩
    rintro env hh ⟨h2, z, s2, rfl, hz, rfl⟩
    refine w_cut (fun env hh => ∃ (z : Str), hh = h2 ++ [.lst (ps.map partD)] ∧ (z = "click" ∨ z = "with" ∨ z = "after") ∧ (z = "click" → (ps.filter Part.click).length < 3) ∧
      env = [some (.ref i), some (.tup (ls.map laneD)), some (.int k), some (.int sp), some (.int t), some (.ref h.length), some (.int k'), some (.str z), o8, o9, oa, ob]) ?_ ?_
    · simp only [PY.wSs, PY.wSn, PY.w_if, PY.w_and2, PY.w_or2, PY.w_ite, PY.w_chain, PY.w_opt_s, PY.w_guard, PY.w_set_n0, PY.w_set_ns, PY.w_aug, PY.aug_add, PY.aug_sub, PY.idx_l0, PY.idx_l1, PY.idx_p0, PY.idx_p1, PY.idx_p2, PY.idx_p3, PY.idx_p4, PY.idx_p5, PY.w_mkLf, PY.w_mkLt, PY.es_star, PY.ks_cons, PY.ks_nil, PY.es_nil, PY.es_v, PY.es_c, PY.es_g, PY.es_bin, PY.es_un, PY.es_cmp, PY.es_chain, PY.es_and, PY.es_or, PY.es_ite, PY.es_tup, PY.es_lst, PY.es_idx, PY.es_slc, PY.es_rev, PY.es_call, PY.es_make, PY.es_bc, PY.es_bm, PY.es_meth, PY.es_attr, PY.es_isi, PY.es_comp, PY.es_frz, PY.e_attr, PY.e_make, PY.e_isi, PY.e_bm, PY.w_rev, PY.w_frz, PY.w_comp, PY.w_csn, PY.w_csc, PY.w_i_e, PY.w_i_range, PY.rng_1, PY.rng_2, PY.slc_str, PY.toI, PY.w_i_enum, PY.w_for, PY.itm_tup, PY.itm_list, PY.itm_scr, PY.itm_str, PY.itN_tup, PY.chk_none, PY.sq_tup, PY.sq_list, PY.bin_L, PY.bin_T, PY.bc_strI, PY.bc_strS, PY.bc_tupL, PY.bc_tupT, PY.bc_max2, PY.bc_min2, PY.e_v, PY.e_c, PY.e_bin, PY.e_un, PY.e_cmp, PY.e_idx, PY.e_bc, PY.e_call, PY.e_lst, PY.e_tup, PY.e_or, PY.e_and, PY.or1, PY.and1, PY.e_slc, PY.o_none, PY.o_some, PY.s_set, PY.s_ret, PY.s_expr, PY.getV_0, PY.getV_s, PY.bin_add, PY.bin_sub, PY.bin_mul, PY.bin_fdiv, PY.bin_mod, PY.bin_pow, PY.bin_cat, PY.cmp_lt, PY.cmp_le, PY.cmp_gt, PY.cmp_ge, PY.un_not, PY.un_neg, PY.idx_tup, PY.idx_list, PY.idx_scr, PY.bc_int, PY.bc_abs, PY.bc_divmod, PY.bc_lenS, PY.bc_lenT, PY.bc_lenL, PY.bc_lenC, PY.a_tup, PY.as_nil, PY.as_cons, PY.okE, PY.bindE, PY.flE, PY.rtE, PY.nxE, PY.opt_s, PY.bind_ok, PY.fl_ok, PY.cm_lt, PY.cm_le, PY.cm_gt, PY.cm_ge, PY.cm_is, PY.cm_isn, PY.cm_in, PY.cm_nin, PY.cm_eqI, PY.cm_neI, PY.cm_eqS, PY.cm_neS, PY.cm_eqL, PY.cm_neL, PY.cm_eqT, PY.cm_neT, PY.cmp_eqS, PY.cmp_neS, PY.cmp_eqI, PY.cmp_neI, PY.cmp_inT, PY.ifQ_t, PY.ifQ_f, PY.tr_b, PY.tr_i, PY.tr_s, PY.tr_n, PY.isi_ii, PY.isi_bi, PY.isi_ss, PY.isi_tt, Option.map_some, PY.atI_0, PY.atI_1, PY.atI_2, PY.atI_3, PY.atI_4, PY.atI_5, List.set_cons_zero, List.set_cons_succ, itm_ref (lg s2), ifQ_d]
      refine ⟨fun zc => ?_, fun zc => ⟨z, trivial, hz, fun q => absurd q zc, rfl⟩⟩
      refine w_cfil (p := Part.click) (k := partD) (fun a ma => ?_) ?_
      · rw [w_cB (env' := [some (.ref i), some (.tup (ls.map laneD)), some (.int k), some (.int sp), some (.int t), some (.ref h.length), some (.int k'), some (.str z), o8, o9, some (partD a), ob]) rfl]
        simp only [PY.wSs, PY.wSn, PY.w_if, PY.w_and2, PY.w_or2, PY.w_ite, PY.w_chain, PY.w_opt_s, PY.w_guard, PY.w_set_n0, PY.w_set_ns, PY.w_aug, PY.aug_add, PY.aug_sub, PY.idx_l0, PY.idx_l1, PY.idx_p0, PY.idx_p1, PY.idx_p2, PY.idx_p3, PY.idx_p4, PY.idx_p5, PY.w_mkLf, PY.w_mkLt, PY.es_star, PY.ks_cons, PY.ks_nil, PY.es_nil, PY.es_v, PY.es_c, PY.es_g, PY.es_bin, PY.es_un, PY.es_cmp, PY.es_chain, PY.es_and, PY.es_or, PY.es_ite, PY.es_tup, PY.es_lst, PY.es_idx, PY.es_slc, PY.es_rev, PY.es_call, PY.es_make, PY.es_bc, PY.es_bm, PY.es_meth, PY.es_attr, PY.es_isi, PY.es_comp, PY.es_frz, PY.e_attr, PY.e_make, PY.e_isi, PY.e_bm, PY.w_rev, PY.w_frz, PY.w_comp, PY.w_csn, PY.w_csc, PY.w_i_e, PY.w_i_range, PY.rng_1, PY.rng_2, PY.slc_str, PY.toI, PY.w_i_enum, PY.w_for, PY.itm_tup, PY.itm_list, PY.itm_scr, PY.itm_str, PY.itN_tup, PY.chk_none, PY.sq_tup, PY.sq_list, PY.bin_L, PY.bin_T, PY.bc_strI, PY.bc_strS, PY.bc_tupL, PY.bc_tupT, PY.bc_max2, PY.bc_min2, PY.e_v, PY.e_c, PY.e_bin, PY.e_un, PY.e_cmp, PY.e_idx, PY.e_bc, PY.e_call, PY.e_lst, PY.e_tup, PY.e_or, PY.e_and, PY.or1, PY.and1, PY.e_slc, PY.o_none, PY.o_some, PY.s_set, PY.s_ret, PY.s_expr, PY.getV_0, PY.getV_s, PY.bin_add, PY.bin_sub, PY.bin_mul, PY.bin_fdiv, PY.bin_mod, PY.bin_pow, PY.bin_cat, PY.cmp_lt, PY.cmp_le, PY.cmp_gt, PY.cmp_ge, PY.un_not, PY.un_neg, PY.idx_tup, PY.idx_list, PY.idx_scr, PY.bc_int, PY.bc_abs, PY.bc_divmod, PY.bc_lenS, PY.bc_lenT, PY.bc_lenL, PY.bc_lenC, PY.a_tup, PY.as_nil, PY.as_cons, PY.okE, PY.bindE, PY.flE, PY.rtE, PY.nxE, PY.opt_s, PY.bind_ok, PY.fl_ok, PY.cm_lt, PY.cm_le, PY.cm_gt, PY.cm_ge, PY.cm_is, PY.cm_isn, PY.cm_in, PY.cm_nin, PY.cm_eqI, PY.cm_neI, PY.cm_eqS, PY.cm_neS, PY.cm_eqL, PY.cm_neL, PY.cm_eqT, PY.cm_neT, PY.cmp_eqS, PY.cmp_neS, PY.cmp_eqI, PY.cmp_neI, PY.cmp_inT, PY.ifQ_t, PY.ifQ_f, PY.tr_b, PY.tr_i, PY.tr_s, PY.tr_n, PY.isi_ii, PY.isi_bi, PY.isi_ss, PY.isi_tt, Option.map_some, PY.atI_0, PY.atI_1, PY.atI_2, PY.atI_3, PY.atI_4, PY.atI_5, List.set_cons_zero, List.set_cons_succ, ifQ_d, chk_ref (lg s2)]
        refine ⟨trivial, fun z => ?_, fun z => ?_⟩
        · have : a.click = true := decide_eq_true z
          simp [this]
        · have : a.click = false := decide_eq_false z
          simp [this]
      · have fl := List.length_filter_le Part.click ps
        refine ⟨chk_ref (lg s2), by rw [List.length_map]; omega, ?_⟩
        rw [List.length_map]
        refine ⟨fun e3 => ?_, fun e3 => ⟨z, rfl, hz, fun _ => by omega, rfl⟩⟩
        exact ⟨"with", rfl, .inr (.inl rfl), fun q => absurd q (by decide +kernel), rfl⟩
    rintro env hh ⟨z, rfl, hz, hc, rfl⟩
    refine w_cut (fun env hh => ∃ (h3 : Hh) (w : Str), Stp i h h3 ∧ hh = h3 ++ [.lst (ps.map partD)] ∧ (w = "pause" ∨ w ∈ ls.map (·.1)) ∧
      env = [some (.ref i), some (.tup (ls.map laneD)), some (.int k), some (.int sp), some (.int t), some (.ref h.length), some (.int k'), some (.str z), some (.str w), some (.tup [.int 0, .int 0]), oa, ob]) ?_ ?_
    · simp only [PY.wSs, PY.wSn, PY.w_if, PY.w_and2, PY.w_or2, PY.w_ite, PY.w_chain, PY.w_opt_s, PY.w_guard, PY.w_set_n0, PY.w_set_ns, PY.w_aug, PY.aug_add, PY.aug_sub, PY.idx_l0, PY.idx_l1, PY.idx_p0, PY.idx_p1, PY.idx_p2, PY.idx_p3, PY.idx_p4, PY.idx_p5, PY.w_mkLf, PY.w_mkLt, PY.es_star, PY.ks_cons, PY.ks_nil, PY.es_nil, PY.es_v, PY.es_c, PY.es_g, PY.es_bin, PY.es_un, PY.es_cmp, PY.es_chain, PY.es_and, PY.es_or, PY.es_ite, PY.es_tup, PY.es_lst, PY.es_idx, PY.es_slc, PY.es_rev, PY.es_call, PY.es_make, PY.es_bc, PY.es_bm, PY.es_meth, PY.es_attr, PY.es_isi, PY.es_comp, PY.es_frz, PY.e_attr, PY.e_make, PY.e_isi, PY.e_bm, PY.w_rev, PY.w_frz, PY.w_comp, PY.w_csn, PY.w_csc, PY.w_i_e, PY.w_i_range, PY.rng_1, PY.rng_2, PY.slc_str, PY.toI, PY.w_i_enum, PY.w_for, PY.itm_tup, PY.itm_list, PY.itm_scr, PY.itm_str, PY.itN_tup, PY.chk_none, PY.sq_tup, PY.sq_list, PY.bin_L, PY.bin_T, PY.bc_strI, PY.bc_strS, PY.bc_tupL, PY.bc_tupT, PY.bc_max2, PY.bc_min2, PY.e_v, PY.e_c, PY.e_bin, PY.e_un, PY.e_cmp, PY.e_idx, PY.e_bc, PY.e_call, PY.e_lst, PY.e_tup, PY.e_or, PY.e_and, PY.or1, PY.and1, PY.e_slc, PY.o_none, PY.o_some, PY.s_set, PY.s_ret, PY.s_expr, PY.getV_0, PY.getV_s, PY.bin_add, PY.bin_sub, PY.bin_mul, PY.bin_fdiv, PY.bin_mod, PY.bin_pow, PY.bin_cat, PY.cmp_lt, PY.cmp_le, PY.cmp_gt, PY.cmp_ge, PY.un_not, PY.un_neg, PY.idx_tup, PY.idx_list, PY.idx_scr, PY.bc_int, PY.bc_abs, PY.bc_divmod, PY.bc_lenS, PY.bc_lenT, PY.bc_lenL, PY.bc_lenC, PY.a_tup, PY.as_nil, PY.as_cons, PY.okE, PY.bindE, PY.flE, PY.rtE, PY.nxE, PY.opt_s, PY.bind_ok, PY.fl_ok, PY.cm_lt, PY.cm_le, PY.cm_gt, PY.cm_ge, PY.cm_is, PY.cm_isn, PY.cm_in, PY.cm_nin, PY.cm_eqI, PY.cm_neI, PY.cm_eqS, PY.cm_neS, PY.cm_eqL, PY.cm_neL, PY.cm_eqT, PY.cm_neT, PY.cmp_eqS, PY.cmp_neS, PY.cmp_eqI, PY.cmp_neI, PY.cmp_inT, PY.ifQ_t, PY.ifQ_f, PY.tr_b, PY.tr_i, PY.tr_s, PY.tr_n, PY.isi_ii, PY.isi_bi, PY.isi_ss, PY.isi_tt, Option.map_some, PY.atI_0, PY.atI_1, PY.atI_2, PY.atI_3, PY.atI_4, PY.atI_5, List.set_cons_zero, List.set_cons_succ, bin_LI, c_23]
      refine w_cmap (k := fun p => D.str p.1) (fun a ma => ?_) ?_
      · rw [w_cB (env' := [some (.ref i), some (.tup (ls.map laneD)), some (.int k), some (.int sp), some (.int t), some (.ref h.length), some (.int k'), some (.str z), o8, o9, oa, some (laneD a)]) rfl]
        simp only [PY.wSs, PY.wSn, PY.w_if, PY.w_and2, PY.w_or2, PY.w_ite, PY.w_chain, PY.w_opt_s, PY.w_guard, PY.w_set_n0, PY.w_set_ns, PY.w_aug, PY.aug_add, PY.aug_sub, PY.idx_l0, PY.idx_l1, PY.idx_p0, PY.idx_p1, PY.idx_p2, PY.idx_p3, PY.idx_p4, PY.idx_p5, PY.w_mkLf, PY.w_mkLt, PY.es_star, PY.ks_cons, PY.ks_nil, PY.es_nil, PY.es_v, PY.es_c, PY.es_g, PY.es_bin, PY.es_un, PY.es_cmp, PY.es_chain, PY.es_and, PY.es_or, PY.es_ite, PY.es_tup, PY.es_lst, PY.es_idx, PY.es_slc, PY.es_rev, PY.es_call, PY.es_make, PY.es_bc, PY.es_bm, PY.es_meth, PY.es_attr, PY.es_isi, PY.es_comp, PY.es_frz, PY.e_attr, PY.e_make, PY.e_isi, PY.e_bm, PY.w_rev, PY.w_frz, PY.w_comp, PY.w_csn, PY.w_csc, PY.w_i_e, PY.w_i_range, PY.rng_1, PY.rng_2, PY.slc_str, PY.toI, PY.w_i_enum, PY.w_for, PY.itm_tup, PY.itm_list, PY.itm_scr, PY.itm_str, PY.itN_tup, PY.chk_none, PY.sq_tup, PY.sq_list, PY.bin_L, PY.bin_T, PY.bc_strI, PY.bc_strS, PY.bc_tupL, PY.bc_tupT, PY.bc_max2, PY.bc_min2, PY.e_v, PY.e_c, PY.e_bin, PY.e_un, PY.e_cmp, PY.e_idx, PY.e_bc, PY.e_call, PY.e_lst, PY.e_tup, PY.e_or, PY.e_and, PY.or1, PY.and1, PY.e_slc, PY.o_none, PY.o_some, PY.s_set, PY.s_ret, PY.s_expr, PY.getV_0, PY.getV_s, PY.bin_add, PY.bin_sub, PY.bin_mul, PY.bin_fdiv, PY.bin_mod, PY.bin_pow, PY.bin_cat, PY.cmp_lt, PY.cmp_le, PY.cmp_gt, PY.cmp_ge, PY.un_not, PY.un_neg, PY.idx_tup, PY.idx_list, PY.idx_scr, PY.bc_int, PY.bc_abs, PY.bc_divmod, PY.bc_lenS, PY.bc_lenT, PY.bc_lenL, PY.bc_lenC, PY.a_tup, PY.as_nil, PY.as_cons, PY.okE, PY.bindE, PY.flE, PY.rtE, PY.nxE, PY.opt_s, PY.bind_ok, PY.fl_ok, PY.cm_lt, PY.cm_le, PY.cm_gt, PY.cm_ge, PY.cm_is, PY.cm_isn, PY.cm_in, PY.cm_nin, PY.cm_eqI, PY.cm_neI, PY.cm_eqS, PY.cm_neS, PY.cm_eqL, PY.cm_neL, PY.cm_eqT, PY.cm_neT, PY.cmp_eqS, PY.cmp_neS, PY.cmp_eqI, PY.cmp_neI, PY.cmp_inT, PY.ifQ_t, PY.ifQ_f, PY.tr_b, PY.tr_i, PY.tr_s, PY.tr_n, PY.isi_ii, PY.isi_bi, PY.isi_ss, PY.isi_tt, Option.map_some, PY.atI_0, PY.atI_1, PY.atI_2, PY.atI_3, PY.atI_4, PY.atI_5, List.set_cons_zero, List.set_cons_succ]
        simp
      · have e1 : ls.map (fun x => D.str x.1) = (ls.map (·.1)).map D.str := by rw [List.map_map]; rfl
        have e2 : (List.replicate (Int.toNat 2) ((ls.map (·.1)).map D.str)).flatten ++ [.str "pause"] = ((ls.map (·.1)) ++ (ls.map (·.1)) ++ [("pause" : Str)]).map D.str := by
          show List.flatten [(ls.map (·.1)).map D.str, (ls.map (·.1)).map D.str] ++ [.str "pause"] = _
          simp
        have e3 : (List.replicate (Int.toNat 2) ((ls.map (·.1)).map D.str)).flatten.length ≤ sizeLine := by
          show (List.flatten [(ls.map (·.1)).map D.str, (ls.map (·.1)).map D.str]).length ≤ sizeLine
          simp
          omega
        rw [e1, e2]
        refine ⟨trivial, by rw [List.length_map, List.length_map]; omega, by decide, e3, by simp [sl], ?_, ?_⟩
        · simp
          omega
        · refine pickLF s2.sk (by simp; omega) (by simp; omega) (fun d h3 dm s3 => ?_) strs_lt
          obtain ⟨w, wm, rfl⟩ := List.mem_map.mp dm
          refine ⟨by simp [sl], by simp [sl], h3, w, s2.trans s3, rfl, ?_, rfl⟩
          simp only [List.mem_append, List.mem_cons, List.not_mem_nil, or_false] at wm
          rcases wm with (q | q) | q
          · exact .inr q
          · exact .inr q
          · exact .inl q
    rintro env hh ⟨h3, w, s3, rfl, hw, rfl⟩
    refine w_cut (fun env hh => ∃ (h4 : Hh) (a b : Int), Stp i h h4 ∧ hh = h4 ++ [.lst (ps.map partD)] ∧ (-1000000 ≤ a ∧ a ≤ 1000000) ∧ (-1000000 ≤ b ∧ b ≤ 1000000) ∧ (w = "pause" → a = 0 ∧ b = 0) ∧
      env = [some (.ref i), some (.tup (ls.map laneD)), some (.int k), some (.int sp), some (.int t), some (.ref h.length), some (.int k'), some (.str z), some (.str w), some (.tup [.int a, .int b]), oa, ob]) ?_ ?_
    · simp only [PY.wSs, PY.wSn, PY.w_if, PY.w_and2, PY.w_or2, PY.w_ite, PY.w_chain, PY.w_opt_s, PY.w_guard, PY.w_set_n0, PY.w_set_ns, PY.w_aug, PY.aug_add, PY.aug_sub, PY.idx_l0, PY.idx_l1, PY.idx_p0, PY.idx_p1, PY.idx_p2, PY.idx_p3, PY.idx_p4, PY.idx_p5, PY.w_mkLf, PY.w_mkLt, PY.es_star, PY.ks_cons, PY.ks_nil, PY.es_nil, PY.es_v, PY.es_c, PY.es_g, PY.es_bin, PY.es_un, PY.es_cmp, PY.es_chain, PY.es_and, PY.es_or, PY.es_ite, PY.es_tup, PY.es_lst, PY.es_idx, PY.es_slc, PY.es_rev, PY.es_call, PY.es_make, PY.es_bc, PY.es_bm, PY.es_meth, PY.es_attr, PY.es_isi, PY.es_comp, PY.es_frz, PY.e_attr, PY.e_make, PY.e_isi, PY.e_bm, PY.w_rev, PY.w_frz, PY.w_comp, PY.w_csn, PY.w_csc, PY.w_i_e, PY.w_i_range, PY.rng_1, PY.rng_2, PY.slc_str, PY.toI, PY.w_i_enum, PY.w_for, PY.itm_tup, PY.itm_list, PY.itm_scr, PY.itm_str, PY.itN_tup, PY.chk_none, PY.sq_tup, PY.sq_list, PY.bin_L, PY.bin_T, PY.bc_strI, PY.bc_strS, PY.bc_tupL, PY.bc_tupT, PY.bc_max2, PY.bc_min2, PY.e_v, PY.e_c, PY.e_bin, PY.e_un, PY.e_cmp, PY.e_idx, PY.e_bc, PY.e_call, PY.e_lst, PY.e_tup, PY.e_or, PY.e_and, PY.or1, PY.and1, PY.e_slc, PY.o_none, PY.o_some, PY.s_set, PY.s_ret, PY.s_expr, PY.getV_0, PY.getV_s, PY.bin_add, PY.bin_sub, PY.bin_mul, PY.bin_fdiv, PY.bin_mod, PY.bin_pow, PY.bin_cat, PY.cmp_lt, PY.cmp_le, PY.cmp_gt, PY.cmp_ge, PY.un_not, PY.un_neg, PY.idx_tup, PY.idx_list, PY.idx_scr, PY.bc_int, PY.bc_abs, PY.bc_divmod, PY.bc_lenS, PY.bc_lenT, PY.bc_lenL, PY.bc_lenC, PY.a_tup, PY.as_nil, PY.as_cons, PY.okE, PY.bindE, PY.flE, PY.rtE, PY.nxE, PY.opt_s, PY.bind_ok, PY.fl_ok, PY.cm_lt, PY.cm_le, PY.cm_gt, PY.cm_ge, PY.cm_is, PY.cm_isn, PY.cm_in, PY.cm_nin, PY.cm_eqI, PY.cm_neI, PY.cm_eqS, PY.cm_neS, PY.cm_eqL, PY.cm_neL, PY.cm_eqT, PY.cm_neT, PY.cmp_eqS, PY.cmp_neS, PY.cmp_eqI, PY.cmp_neI, PY.cmp_inT, PY.ifQ_t, PY.ifQ_f, PY.tr_b, PY.tr_i, PY.tr_s, PY.tr_n, PY.isi_ii, PY.isi_bi, PY.isi_ss, PY.isi_tt, Option.map_some, PY.atI_0, PY.atI_1, PY.atI_2, PY.atI_3, PY.atI_4, PY.atI_5, List.set_cons_zero, List.set_cons_succ, ifQ_nd, c_25]
      refine ⟨fun wp => ⟨h3, 0, 0, s3, rfl, by omega, by omega, fun _ => ⟨rfl, rfl⟩, rfl⟩, fun wp => ?_⟩
      refine valueF s3.sk t0 t1 fun a h4 a0 a1 s4 => ?_
      refine valueF s4.sk t0 t1 fun b h5 b0 b1 s5 => ?_
      exact ⟨by simp [sl], h5, a, b, (s3.trans s4).trans s5, rfl, by omega, by omega, fun q => absurd q wp, rfl⟩
    rintro env hh ⟨h4, a, b, s4, rfl, ha, hb, hp, rfl⟩
    simp only [PY.wSs, PY.wSn, PY.w_if, PY.w_and2, PY.w_or2, PY.w_ite, PY.w_chain, PY.w_opt_s, PY.w_guard, PY.w_set_n0, PY.w_set_ns, PY.w_aug, PY.aug_add, PY.aug_sub, PY.idx_l0, PY.idx_l1, PY.idx_p0, PY.idx_p1, PY.idx_p2, PY.idx_p3, PY.idx_p4, PY.idx_p5, PY.w_mkLf, PY.w_mkLt, PY.es_star, PY.ks_cons, PY.ks_nil, PY.es_nil, PY.es_v, PY.es_c, PY.es_g, PY.es_bin, PY.es_un, PY.es_cmp, PY.es_chain, PY.es_and, PY.es_or, PY.es_ite, PY.es_tup, PY.es_lst, PY.es_idx, PY.es_slc, PY.es_rev, PY.es_call, PY.es_make, PY.es_bc, PY.es_bm, PY.es_meth, PY.es_attr, PY.es_isi, PY.es_comp, PY.es_frz, PY.e_attr, PY.e_make, PY.e_isi, PY.e_bm, PY.w_rev, PY.w_frz, PY.w_comp, PY.w_csn, PY.w_csc, PY.w_i_e, PY.w_i_range, PY.rng_1, PY.rng_2, PY.slc_str, PY.toI, PY.w_i_enum, PY.w_for, PY.itm_tup, PY.itm_list, PY.itm_scr, PY.itm_str, PY.itN_tup, PY.chk_none, PY.sq_tup, PY.sq_list, PY.bin_L, PY.bin_T, PY.bc_strI, PY.bc_strS, PY.bc_tupL, PY.bc_tupT, PY.bc_max2, PY.bc_min2, PY.e_v, PY.e_c, PY.e_bin, PY.e_un, PY.e_cmp, PY.e_idx, PY.e_bc, PY.e_call, PY.e_lst, PY.e_tup, PY.e_or, PY.e_and, PY.or1, PY.and1, PY.e_slc, PY.o_none, PY.o_some, PY.s_set, PY.s_ret, PY.s_expr, PY.getV_0, PY.getV_s, PY.bin_add, PY.bin_sub, PY.bin_mul, PY.bin_fdiv, PY.bin_mod, PY.bin_pow, PY.bin_cat, PY.cmp_lt, PY.cmp_le, PY.cmp_gt, PY.cmp_ge, PY.un_not, PY.un_neg, PY.idx_tup, PY.idx_list, PY.idx_scr, PY.bc_int, PY.bc_abs, PY.bc_divmod, PY.bc_lenS, PY.bc_lenT, PY.bc_lenL, PY.bc_lenC, PY.a_tup, PY.as_nil, PY.as_cons, PY.okE, PY.bindE, PY.flE, PY.rtE, PY.nxE, PY.opt_s, PY.bind_ok, PY.fl_ok, PY.cm_lt, PY.cm_le, PY.cm_gt, PY.cm_ge, PY.cm_is, PY.cm_isn, PY.cm_in, PY.cm_nin, PY.cm_eqI, PY.cm_neI, PY.cm_eqS, PY.cm_neS, PY.cm_eqL, PY.cm_neL, PY.cm_eqT, PY.cm_neT, PY.cmp_eqS, PY.cmp_neS, PY.cmp_eqI, PY.cmp_neI, PY.cmp_inT, PY.ifQ_t, PY.ifQ_f, PY.tr_b, PY.tr_i, PY.tr_s, PY.tr_n, PY.isi_ii, PY.isi_bi, PY.isi_ss, PY.isi_tt, Option.map_some, PY.atI_0, PY.atI_1, PY.atI_2, PY.atI_3, PY.atI_4, PY.atI_5, List.set_cons_zero, List.set_cons_succ, c_26, rc_app (lg s4)]
    refine ⟨trivial, spanF s4.sk p0 p1 fun d h5 d0 d1 s5 => spanF s5.sk p0 p1 fun l h6 l0 l1 s6 => ?_⟩
    have st := (s4.trans s5).trans s6
    simp only [PY.wSs, PY.wSn, PY.w_if, PY.w_and2, PY.w_or2, PY.w_ite, PY.w_chain, PY.w_opt_s, PY.w_guard, PY.w_set_n0, PY.w_set_ns, PY.w_aug, PY.aug_add, PY.aug_sub, PY.idx_l0, PY.idx_l1, PY.idx_p0, PY.idx_p1, PY.idx_p2, PY.idx_p3, PY.idx_p4, PY.idx_p5, PY.w_mkLf, PY.w_mkLt, PY.es_star, PY.ks_cons, PY.ks_nil, PY.es_nil, PY.es_v, PY.es_c, PY.es_g, PY.es_bin, PY.es_un, PY.es_cmp, PY.es_chain, PY.es_and, PY.es_or, PY.es_ite, PY.es_tup, PY.es_lst, PY.es_idx, PY.es_slc, PY.es_rev, PY.es_call, PY.es_make, PY.es_bc, PY.es_bm, PY.es_meth, PY.es_attr, PY.es_isi, PY.es_comp, PY.es_frz, PY.e_attr, PY.e_make, PY.e_isi, PY.e_bm, PY.w_rev, PY.w_frz, PY.w_comp, PY.w_csn, PY.w_csc, PY.w_i_e, PY.w_i_range, PY.rng_1, PY.rng_2, PY.slc_str, PY.toI, PY.w_i_enum, PY.w_for, PY.itm_tup, PY.itm_list, PY.itm_scr, PY.itm_str, PY.itN_tup, PY.chk_none, PY.sq_tup, PY.sq_list, PY.bin_L, PY.bin_T, PY.bc_strI, PY.bc_strS, PY.bc_tupL, PY.bc_tupT, PY.bc_max2, PY.bc_min2, PY.e_v, PY.e_c, PY.e_bin, PY.e_un, PY.e_cmp, PY.e_idx, PY.e_bc, PY.e_call, PY.e_lst, PY.e_tup, PY.e_or, PY.e_and, PY.or1, PY.and1, PY.e_slc, PY.o_none, PY.o_some, PY.s_set, PY.s_ret, PY.s_expr, PY.getV_0, PY.getV_s, PY.bin_add, PY.bin_sub, PY.bin_mul, PY.bin_fdiv, PY.bin_mod, PY.bin_pow, PY.bin_cat, PY.cmp_lt, PY.cmp_le, PY.cmp_gt, PY.cmp_ge, PY.un_not, PY.un_neg, PY.idx_tup, PY.idx_list, PY.idx_scr, PY.bc_int, PY.bc_abs, PY.bc_divmod, PY.bc_lenS, PY.bc_lenT, PY.bc_lenL, PY.bc_lenC, PY.a_tup, PY.as_nil, PY.as_cons, PY.okE, PY.bindE, PY.flE, PY.rtE, PY.nxE, PY.opt_s, PY.bind_ok, PY.fl_ok, PY.cm_lt, PY.cm_le, PY.cm_gt, PY.cm_ge, PY.cm_is, PY.cm_isn, PY.cm_in, PY.cm_nin, PY.cm_eqI, PY.cm_neI, PY.cm_eqS, PY.cm_neS, PY.cm_eqL, PY.cm_neL, PY.cm_eqT, PY.cm_neT, PY.cmp_eqS, PY.cmp_neS, PY.cmp_eqI, PY.cmp_neI, PY.cmp_inT, PY.ifQ_t, PY.ifQ_f, PY.tr_b, PY.tr_i, PY.tr_s, PY.tr_n, PY.isi_ii, PY.isi_bi, PY.isi_ss, PY.isi_tt, Option.map_some, PY.atI_0, PY.atI_1, PY.atI_2, PY.atI_3, PY.atI_4, PY.atI_5, List.set_cons_zero, List.set_cons_succ, w_app (lg st), last_set st.len]
    have gw : w = "pause" ∨ (w ∈ ls.map (·.1) ∧ GN w) := hw.imp id fun q => ⟨q, by
      obtain ⟨p, pm, rfl⟩ := List.mem_map.mp q
      exact (gl.all p pm).n⟩
    have ng : GPart (ls.map (·.1)) ⟨w, z, d, l, a, b⟩ := ⟨gw, hz, d0, Int.le_trans d1 p1, l0, Int.le_trans l1 p1, ha.1, ha.2, hb.1, hb.2, hp⟩
    refine ⟨by simp [sl], by simp [sl], by rw [List.length_map]; omega, h6, ps ++ [⟨w, z, d, l, a, b⟩], _, _, _, _, _, _, by omega, st, by simp [partD], by simp; omega, fun p pm => ?_, ?_, fun p pm => ?_, rfl⟩
    · rcases List.mem_append.mp pm with q | q
      · exact ga p q
      · have : p = ⟨w, z, d, l, a, b⟩ := by simpa using q
        rw [this]; exact ng
    · rw [List.filter_append, List.length_append, List.filter_cons]
      by_cases q : z = "click"
      · have := hc q
        split <;> simp <;> omega
      · have : Part.click ⟨w, z, d, l, a, b⟩ = false := decide_eq_false q
        rw [this]
        simp
        omega
    · rcases List.mem_append.mp pm with q | q
      · exact gs p q
      · have : p = ⟨w, z, d, l, a, b⟩ := by simpa using q
        rw [this]; exact ⟨d1, l1⟩
  · rintro k' env hh ⟨h1, ps, o6, o7, o8, o9, oa, ob, ek, s1, rfl, pl, ga, gc, gs, rfl⟩
    simp only [PY.wSs, PY.wSn, PY.w_if, PY.w_and2, PY.w_or2, PY.w_ite, PY.w_chain, PY.w_opt_s, PY.w_guard, PY.w_set_n0, PY.w_set_ns, PY.w_aug, PY.aug_add, PY.aug_sub, PY.idx_l0, PY.idx_l1, PY.idx_p0, PY.idx_p1, PY.idx_p2, PY.idx_p3, PY.idx_p4, PY.idx_p5, PY.w_mkLf, PY.w_mkLt, PY.es_star, PY.ks_cons, PY.ks_nil, PY.es_nil, PY.es_v, PY.es_c, PY.es_g, PY.es_bin, PY.es_un, PY.es_cmp, PY.es_chain, PY.es_and, PY.es_or, PY.es_ite, PY.es_tup, PY.es_lst, PY.es_idx, PY.es_slc, PY.es_rev, PY.es_call, PY.es_make, PY.es_bc, PY.es_bm, PY.es_meth, PY.es_attr, PY.es_isi, PY.es_comp, PY.es_frz, PY.e_attr, PY.e_make, PY.e_isi, PY.e_bm, PY.w_rev, PY.w_frz, PY.w_comp, PY.w_csn, PY.w_csc, PY.w_i_e, PY.w_i_range, PY.rng_1, PY.rng_2, PY.slc_str, PY.toI, PY.w_i_enum, PY.w_for, PY.itm_tup, PY.itm_list, PY.itm_scr, PY.itm_str, PY.itN_tup, PY.chk_none, PY.sq_tup, PY.sq_list, PY.bin_L, PY.bin_T, PY.bc_strI, PY.bc_strS, PY.bc_tupL, PY.bc_tupT, PY.bc_max2, PY.bc_min2, PY.e_v, PY.e_c, PY.e_bin, PY.e_un, PY.e_cmp, PY.e_idx, PY.e_bc, PY.e_call, PY.e_lst, PY.e_tup, PY.e_or, PY.e_and, PY.or1, PY.and1, PY.e_slc, PY.o_none, PY.o_some, PY.s_set, PY.s_ret, PY.s_expr, PY.getV_0, PY.getV_s, PY.bin_add, PY.bin_sub, PY.bin_mul, PY.bin_fdiv, PY.bin_mod, PY.bin_pow, PY.bin_cat, PY.cmp_lt, PY.cmp_le, PY.cmp_gt, PY.cmp_ge, PY.un_not, PY.un_neg, PY.idx_tup, PY.idx_list, PY.idx_scr, PY.bc_int, PY.bc_abs, PY.bc_divmod, PY.bc_lenS, PY.bc_lenT, PY.bc_lenL, PY.bc_lenC, PY.a_tup, PY.as_nil, PY.as_cons, PY.okE, PY.bindE, PY.flE, PY.rtE, PY.nxE, PY.opt_s, PY.bind_ok, PY.fl_ok, PY.cm_lt, PY.cm_le, PY.cm_gt, PY.cm_ge, PY.cm_is, PY.cm_isn, PY.cm_in, PY.cm_nin, PY.cm_eqI, PY.cm_neI, PY.cm_eqS, PY.cm_neS, PY.cm_eqL, PY.cm_neL, PY.cm_eqT, PY.cm_neT, PY.cmp_eqS, PY.cmp_neS, PY.cmp_eqI, PY.cmp_neI, PY.cmp_inT, PY.ifQ_t, PY.ifQ_f, PY.tr_b, PY.tr_i, PY.tr_s, PY.tr_n, PY.isi_ii, PY.isi_bi, PY.isi_ss, PY.isi_tt, Option.map_some, PY.atI_0, PY.atI_1, PY.atI_2, PY.atI_3, PY.atI_4, PY.atI_5, List.set_cons_zero, List.set_cons_succ, bc_tupR (last_get s1.len)]
    refine tr_stp s1 (by simp only [D.lt]; exact parts_lt) ⟨s1, ps, rfl, ⟨by omega, ga, gc⟩, by omega, gs⟩
theorem drawn {n i : Nat} {k sp t : Int} {h : Hh} (s : Sk i h) (k0 : 0 ≤ k) (k1 : k ≤ 8) (p0 : 0 < sp) (p1 : sp ≤ 1000000) (t0 : 0 < t) (t1 : t ≤ 1000000) :
    okR (PY.run prg (n + 5) 29 [.ref i, .int k, .int sp, .int t] h) fun d h' => Stp i h h' ∧ ∃ m ls ps, d = .tup [.str m, .tup (ls.map laneD), .tup (ps.map partD)] ∧ GS m ls ps ∧ (ps.length : Int) ≤ k ∧ (∀ p ∈ ls, -t ≤ p.2 ∧ p.2 ≤ t) ∧ ∀ p ∈ ps, p.d ≤ sp ∧ p.l ≤ sp := by
  have sl := sizeLine_eq
  rw [r_29]
  simp only [PY.wSs, PY.wSn, PY.w_if, PY.w_and2, PY.w_or2, PY.w_ite, PY.w_chain, PY.w_opt_s, PY.w_guard, PY.w_set_n0, PY.w_set_ns, PY.w_aug, PY.aug_add, PY.aug_sub, PY.idx_l0, PY.idx_l1, PY.idx_p0, PY.idx_p1, PY.idx_p2, PY.idx_p3, PY.idx_p4, PY.idx_p5, PY.w_mkLf, PY.w_mkLt, PY.es_star, PY.ks_cons, PY.ks_nil, PY.es_nil, PY.es_v, PY.es_c, PY.es_g, PY.es_bin, PY.es_un, PY.es_cmp, PY.es_chain, PY.es_and, PY.es_or, PY.es_ite, PY.es_tup, PY.es_lst, PY.es_idx, PY.es_slc, PY.es_rev, PY.es_call, PY.es_make, PY.es_bc, PY.es_bm, PY.es_meth, PY.es_attr, PY.es_isi, PY.es_comp, PY.es_frz, PY.e_attr, PY.e_make, PY.e_isi, PY.e_bm, PY.w_rev, PY.w_frz, PY.w_comp, PY.w_csn, PY.w_csc, PY.w_i_e, PY.w_i_range, PY.rng_1, PY.rng_2, PY.slc_str, PY.toI, PY.w_i_enum, PY.w_for, PY.itm_tup, PY.itm_list, PY.itm_scr, PY.itm_str, PY.itN_tup, PY.chk_none, PY.sq_tup, PY.sq_list, PY.bin_L, PY.bin_T, PY.bc_strI, PY.bc_strS, PY.bc_tupL, PY.bc_tupT, PY.bc_max2, PY.bc_min2, PY.e_v, PY.e_c, PY.e_bin, PY.e_un, PY.e_cmp, PY.e_idx, PY.e_bc, PY.e_call, PY.e_lst, PY.e_tup, PY.e_or, PY.e_and, PY.or1, PY.and1, PY.e_slc, PY.o_none, PY.o_some, PY.s_set, PY.s_ret, PY.s_expr, PY.getV_0, PY.getV_s, PY.bin_add, PY.bin_sub, PY.bin_mul, PY.bin_fdiv, PY.bin_mod, PY.bin_pow, PY.bin_cat, PY.cmp_lt, PY.cmp_le, PY.cmp_gt, PY.cmp_ge, PY.un_not, PY.un_neg, PY.idx_tup, PY.idx_list, PY.idx_scr, PY.bc_int, PY.bc_abs, PY.bc_divmod, PY.bc_lenS, PY.bc_lenT, PY.bc_lenL, PY.bc_lenC, PY.a_tup, PY.as_nil, PY.as_cons, PY.okE, PY.bindE, PY.flE, PY.rtE, PY.nxE, PY.opt_s, PY.bind_ok, PY.fl_ok, PY.cm_lt, PY.cm_le, PY.cm_gt, PY.cm_ge, PY.cm_is, PY.cm_isn, PY.cm_in, PY.cm_nin, PY.cm_eqI, PY.cm_neI, PY.cm_eqS, PY.cm_neS, PY.cm_eqL, PY.cm_neL, PY.cm_eqT, PY.cm_neT, PY.cmp_eqS, PY.cmp_neS, PY.cmp_eqI, PY.cmp_neI, PY.cmp_inT, PY.ifQ_t, PY.ifQ_f, PY.tr_b, PY.tr_i, PY.tr_s, PY.tr_n, PY.isi_ii, PY.isi_bi, PY.isi_ss, PY.isi_tt, Option.map_some, PY.atI_0, PY.atI_1, PY.atI_2, PY.atI_3, PY.atI_4, PY.atI_5, List.set_cons_zero, List.set_cons_succ, fn29, c_27, c_23, c_28]
  refine okR_mono (lanes s t0 t1) ?_
  rintro _ h1 ⟨s1, ls, rfl, gl, gv⟩
  refine ⟨by simp [sl], pickL s1.sk (by simp) (by simp) (fun d h2 dm s2 => ?_) rfl⟩
  obtain ⟨m, rfl, gm⟩ : ∃ m : Str, d = .str m ∧ (m = "run" ∨ m = "finish") := by
    simp only [List.mem_cons, List.not_mem_nil, or_false] at dm
    rcases dm with rfl | rfl
    · exact ⟨_, rfl, .inl rfl⟩
    · exact ⟨_, rfl, .inr rfl⟩
  refine okR_mono (parts s2.sk gl k0 k1 p0 p1 t0 t1) ?_
  rintro _ h3 ⟨s3, ps, rfl, gp, pk, gs⟩
  have st := (s1.trans s2).trans s3
  refine ⟨by simp [sl], tr_st st (by simp [D.lt, D.lts, lanes_lt, parts_lt]) ⟨st, m, ls, ps, rfl, ⟨gm, gl, gp⟩, pk, gv, gs⟩⟩
end K12
end
section
set_option Elab.async false
set_option linter.all false
set_option maxRecDepth 100000
namespace K12
open PySem PyProof.Rows PY L12
section
variable {n : Nat} {m : Str} {ls : List (Str × Int)} {ps : List Part} {h : Hh}
theorem gs_bare (g : GS m ls ps) : GS m ls [] := ⟨g.hm, g.hl, by simp, by simp, by simp⟩
theorem mkE (g : GS m ls ps) : makeM prg (PY.run prg (n + 6)) 0 [.str m, .tup (ls.map laneD), .tup (ps.map partD)] [] h = .ok (sld m ls ps) h := okR_eq (mk3 g.hm g.hl g.hp ⟨rfl, rfl⟩)
theorem mkE0 (g : GS m ls ps) : makeM prg (PY.run prg (n + 6)) 0 [.str m, .tup (ls.map laneD), .tup []] [] h = .ok (sld m ls []) h := mkE (ps := []) (gs_bare g)
theorem mkE2 (g : GS m ls ps) : makeM prg (PY.run prg (n + 6)) 0 [.str m, .tup (ls.map laneD)] [] h = .ok (sld m ls []) h := okR_eq (mk2 g.hm g.hl ⟨rfl, rfl⟩)
theorem mkEk (g : GS m ls ps) : makeM prg (PY.run prg (n + 6)) 0 [] [("effects", .tup (ps.map partD)), ("channels", .tup (ls.map laneD)), ("manner", .str m)] h = .ok (sld m ls ps) h := okR_eq (mk3k g.hm g.hl g.hp ⟨rfl, rfl⟩)
theorem mkE2k (g : GS m ls ps) : makeM prg (PY.run prg (n + 6)) 0 [] [("channels", .tup (ls.map laneD)), ("manner", .str m)] h = .ok (sld m ls []) h := okR_eq (mk2k g.hm g.hl ⟨rfl, rfl⟩)
end
theorem made {n : Nat} {m : Str} {ls : List (Str × Int)} {ps : List Part} {h : Hh} (g : GS m ls ps) : PY.run prg (n + 7) 30 [pie m ls ps] h = .ok (sld m ls ps) h := by
  refine okR_eq ?_
  rw [r_30]
  simp only [PY.wSs, PY.wSn, PY.w_if, PY.w_and2, PY.w_or2, PY.w_ite, PY.w_chain, PY.w_opt_s, PY.w_guard, PY.w_set_n0, PY.w_set_ns, PY.w_aug, PY.aug_add, PY.aug_sub, PY.idx_l0, PY.idx_l1, PY.idx_p0, PY.idx_p1, PY.idx_p2, PY.idx_p3, PY.idx_p4, PY.idx_p5, PY.w_mkLf, PY.w_mkLt, PY.es_star, PY.ks_cons, PY.ks_nil, PY.es_nil, PY.es_v, PY.es_c, PY.es_g, PY.es_bin, PY.es_un, PY.es_cmp, PY.es_chain, PY.es_and, PY.es_or, PY.es_ite, PY.es_tup, PY.es_lst, PY.es_idx, PY.es_slc, PY.es_rev, PY.es_call, PY.es_make, PY.es_bc, PY.es_bm, PY.es_meth, PY.es_attr, PY.es_isi, PY.es_comp, PY.es_frz, PY.e_attr, PY.e_make, PY.e_isi, PY.e_bm, PY.w_rev, PY.w_frz, PY.w_comp, PY.w_csn, PY.w_csc, PY.w_i_e, PY.w_i_range, PY.rng_1, PY.rng_2, PY.slc_str, PY.toI, PY.w_i_enum, PY.w_for, PY.itm_tup, PY.itm_list, PY.itm_scr, PY.itm_str, PY.itN_tup, PY.chk_none, PY.sq_tup, PY.sq_list, PY.bin_L, PY.bin_T, PY.bc_strI, PY.bc_strS, PY.bc_tupL, PY.bc_tupT, PY.bc_max2, PY.bc_min2, PY.e_v, PY.e_c, PY.e_bin, PY.e_un, PY.e_cmp, PY.e_idx, PY.e_bc, PY.e_call, PY.e_lst, PY.e_tup, PY.e_or, PY.e_and, PY.or1, PY.and1, PY.e_slc, PY.o_none, PY.o_some, PY.s_set, PY.s_ret, PY.s_expr, PY.getV_0, PY.getV_s, PY.bin_add, PY.bin_sub, PY.bin_mul, PY.bin_fdiv, PY.bin_mod, PY.bin_pow, PY.bin_cat, PY.cmp_lt, PY.cmp_le, PY.cmp_gt, PY.cmp_ge, PY.un_not, PY.un_neg, PY.idx_tup, PY.idx_list, PY.idx_scr, PY.bc_int, PY.bc_abs, PY.bc_divmod, PY.bc_lenS, PY.bc_lenT, PY.bc_lenL, PY.bc_lenC, PY.a_tup, PY.as_nil, PY.as_cons, PY.okE, PY.bindE, PY.flE, PY.rtE, PY.nxE, PY.opt_s, PY.bind_ok, PY.fl_ok, PY.cm_lt, PY.cm_le, PY.cm_gt, PY.cm_ge, PY.cm_is, PY.cm_isn, PY.cm_in, PY.cm_nin, PY.cm_eqI, PY.cm_neI, PY.cm_eqS, PY.cm_neS, PY.cm_eqL, PY.cm_neL, PY.cm_eqT, PY.cm_neT, PY.cmp_eqS, PY.cmp_neS, PY.cmp_eqI, PY.cmp_neI, PY.cmp_inT, PY.ifQ_t, PY.ifQ_f, PY.tr_b, PY.tr_i, PY.tr_s, PY.tr_n, PY.isi_ii, PY.isi_bi, PY.isi_ss, PY.isi_tt, Option.map_some, PY.atI_0, PY.atI_1, PY.atI_2, PY.atI_3, PY.atI_4, PY.atI_5, List.set_cons_zero, List.set_cons_succ, fn30, idx_pie0, idx_pie1, idx_pie2, mkE g]
  rw [tr_same (by simp [sld, D.lt, D.lts, lanes_lt, parts_lt])]
  exact ⟨rfl, rfl⟩
end K12
end
section
set_option Elab.async false
set_option linter.all false
set_option maxRecDepth 100000
set_option maxHeartbeats 2000000
namespace K12
open PySem PyProof.Rows PY L12
theorem isi_sld {m : Str} {ls : List (Str × Int)} {ps : List Part} : isiM (.c 0) (sld m ls ps) = some true := rfl
theorem check_slide {n : Nat} {m : Str} {ls : List (Str × Int)} {ps : List Part} {h : Hh} : PY.run prg (n + 1) 15 [sld m ls ps] h = .ok .none h := by
  refine okR_eq ?_
  rw [r_15]
  simp only [PY.wSs, PY.wSn, PY.w_if, PY.w_and2, PY.w_or2, PY.w_ite, PY.w_chain, PY.w_opt_s, PY.w_guard, PY.w_set_n0, PY.w_set_ns, PY.w_aug, PY.aug_add, PY.aug_sub, PY.idx_l0, PY.idx_l1, PY.idx_p0, PY.idx_p1, PY.idx_p2, PY.idx_p3, PY.idx_p4, PY.idx_p5, PY.w_mkLf, PY.w_mkLt, PY.es_star, PY.ks_cons, PY.ks_nil, PY.es_nil, PY.es_v, PY.es_c, PY.es_g, PY.es_bin, PY.es_un, PY.es_cmp, PY.es_chain, PY.es_and, PY.es_or, PY.es_ite, PY.es_tup, PY.es_lst, PY.es_idx, PY.es_slc, PY.es_rev, PY.es_call, PY.es_make, PY.es_bc, PY.es_bm, PY.es_meth, PY.es_attr, PY.es_isi, PY.es_comp, PY.es_frz, PY.e_attr, PY.e_make, PY.e_isi, PY.e_bm, PY.w_rev, PY.w_frz, PY.w_comp, PY.w_csn, PY.w_csc, PY.w_i_e, PY.w_i_range, PY.rng_1, PY.rng_2, PY.slc_str, PY.toI, PY.w_i_enum, PY.w_for, PY.itm_tup, PY.itm_list, PY.itm_scr, PY.itm_str, PY.itN_tup, PY.chk_none, PY.sq_tup, PY.sq_list, PY.bin_L, PY.bin_T, PY.bc_strI, PY.bc_strS, PY.bc_tupL, PY.bc_tupT, PY.bc_max2, PY.bc_min2, PY.e_v, PY.e_c, PY.e_bin, PY.e_un, PY.e_cmp, PY.e_idx, PY.e_bc, PY.e_call, PY.e_lst, PY.e_tup, PY.e_or, PY.e_and, PY.or1, PY.and1, PY.e_slc, PY.o_none, PY.o_some, PY.s_set, PY.s_ret, PY.s_expr, PY.getV_0, PY.getV_s, PY.bin_add, PY.bin_sub, PY.bin_mul, PY.bin_fdiv, PY.bin_mod, PY.bin_pow, PY.bin_cat, PY.cmp_lt, PY.cmp_le, PY.cmp_gt, PY.cmp_ge, PY.un_not, PY.un_neg, PY.idx_tup, PY.idx_list, PY.idx_scr, PY.bc_int, PY.bc_abs, PY.bc_divmod, PY.bc_lenS, PY.bc_lenT, PY.bc_lenL, PY.bc_lenC, PY.a_tup, PY.as_nil, PY.as_cons, PY.okE, PY.bindE, PY.flE, PY.rtE, PY.nxE, PY.opt_s, PY.bind_ok, PY.fl_ok, PY.cm_lt, PY.cm_le, PY.cm_gt, PY.cm_ge, PY.cm_is, PY.cm_isn, PY.cm_in, PY.cm_nin, PY.cm_eqI, PY.cm_neI, PY.cm_eqS, PY.cm_neS, PY.cm_eqL, PY.cm_neL, PY.cm_eqT, PY.cm_neT, PY.cmp_eqS, PY.cmp_neS, PY.cmp_eqI, PY.cmp_neI, PY.cmp_inT, PY.ifQ_t, PY.ifQ_f, PY.tr_b, PY.tr_i, PY.tr_s, PY.tr_n, PY.isi_ii, PY.isi_bi, PY.isi_ss, PY.isi_tt, Option.map_some, PY.atI_0, PY.atI_1, PY.atI_2, PY.atI_3, PY.atI_4, PY.atI_5, List.set_cons_zero, List.set_cons_succ, fn15, isi_sld, Bool.not_true]
  simp
theorem groups_of {n : Nat} {m : Str} {ls : List (Str × Int)} {ps : List Part} {h : Hh} (l8 : ps.length ≤ 8) : PY.run prg (n + 2) 16 [sld m ls ps] h = .ok (.tup ((gidx 0 (segs ps)).map grD)) h := by
  refine okR_eq ?_
  have sl := sizeLine_eq
  rw [r_16]
  simp only [PY.wSs, PY.wSn, PY.w_if, PY.w_and2, PY.w_or2, PY.w_ite, PY.w_chain, PY.w_opt_s, PY.w_guard, PY.w_set_n0, PY.w_set_ns, PY.w_aug, PY.aug_add, PY.aug_sub, PY.idx_l0, PY.idx_l1, PY.idx_p0, PY.idx_p1, PY.idx_p2, PY.idx_p3, PY.idx_p4, PY.idx_p5, PY.w_mkLf, PY.w_mkLt, PY.es_star, PY.ks_cons, PY.ks_nil, PY.es_nil, PY.es_v, PY.es_c, PY.es_g, PY.es_bin, PY.es_un, PY.es_cmp, PY.es_chain, PY.es_and, PY.es_or, PY.es_ite, PY.es_tup, PY.es_lst, PY.es_idx, PY.es_slc, PY.es_rev, PY.es_call, PY.es_make, PY.es_bc, PY.es_bm, PY.es_meth, PY.es_attr, PY.es_isi, PY.es_comp, PY.es_frz, PY.e_attr, PY.e_make, PY.e_isi, PY.e_bm, PY.w_rev, PY.w_frz, PY.w_comp, PY.w_csn, PY.w_csc, PY.w_i_e, PY.w_i_range, PY.rng_1, PY.rng_2, PY.slc_str, PY.toI, PY.w_i_enum, PY.w_for, PY.itm_tup, PY.itm_list, PY.itm_scr, PY.itm_str, PY.itN_tup, PY.chk_none, PY.sq_tup, PY.sq_list, PY.bin_L, PY.bin_T, PY.bc_strI, PY.bc_strS, PY.bc_tupL, PY.bc_tupT, PY.bc_max2, PY.bc_min2, PY.e_v, PY.e_c, PY.e_bin, PY.e_un, PY.e_cmp, PY.e_idx, PY.e_bc, PY.e_call, PY.e_lst, PY.e_tup, PY.e_or, PY.e_and, PY.or1, PY.and1, PY.e_slc, PY.o_none, PY.o_some, PY.s_set, PY.s_ret, PY.s_expr, PY.getV_0, PY.getV_s, PY.bin_add, PY.bin_sub, PY.bin_mul, PY.bin_fdiv, PY.bin_mod, PY.bin_pow, PY.bin_cat, PY.cmp_lt, PY.cmp_le, PY.cmp_gt, PY.cmp_ge, PY.un_not, PY.un_neg, PY.idx_tup, PY.idx_list, PY.idx_scr, PY.bc_int, PY.bc_abs, PY.bc_divmod, PY.bc_lenS, PY.bc_lenT, PY.bc_lenL, PY.bc_lenC, PY.a_tup, PY.as_nil, PY.as_cons, PY.okE, PY.bindE, PY.flE, PY.rtE, PY.nxE, PY.opt_s, PY.bind_ok, PY.fl_ok, PY.cm_lt, PY.cm_le, PY.cm_gt, PY.cm_ge, PY.cm_is, PY.cm_isn, PY.cm_in, PY.cm_nin, PY.cm_eqI, PY.cm_neI, PY.cm_eqS, PY.cm_neS, PY.cm_eqL, PY.cm_neL, PY.cm_eqT, PY.cm_neT, PY.cmp_eqS, PY.cmp_neS, PY.cmp_eqI, PY.cmp_neI, PY.cmp_inT, PY.ifQ_t, PY.ifQ_f, PY.tr_b, PY.tr_i, PY.tr_s, PY.tr_n, PY.isi_ii, PY.isi_bi, PY.isi_ss, PY.isi_tt, Option.map_some, PY.atI_0, PY.atI_1, PY.atI_2, PY.atI_3, PY.atI_4, PY.atI_5, List.set_cons_zero, List.set_cons_succ, fn16, am_effects, q_effects]
  refine ⟨by simp [sl], by simp [sl], ?_⟩
  refine forM_enum (I := fun k r env hh => ∃ (x : Hh) (zi : List (Nat × List Int)) (p : Nat) (S0 : List (List Part)) (cur dn : List Part) (o2 o3 : Option D), ps = dn ++ r ∧ segs ps = S0 ++ cutP cur r ∧ S0.flatten ++ cur = dn ∧ (dn.length : Int) = k ∧ S0.length ≤ dn.length ∧
      hh = h ++ x ∧ hh[h.length + 1]? = some (.lst ((zi ++ [(p, seqI S0.flatten.length cur.length)]).map fun z => D.ref z.1)) ∧ zi.map (·.2) = gidx 0 S0 ∧ ((zi.map (·.1)) ++ [p]).Nodup ∧ (∀ z ∈ zi ++ [(p, seqI S0.flatten.length cur.length)], z.1 ≠ h.length + 1 ∧ h.length ≤ z.1 ∧ hh[z.1]? = some (.lst (z.2.map D.int))) ∧
      env = [some (sld m ls ps), some (.ref (h.length + 1)), o2, o3, none]) (fun _ _ _ _ _ => rfl) ?_ ?_ ⟨[.lst [], .lst [.ref h.length]], [], h.length, [], [], [], none, none, rfl, rfl, rfl, rfl, by simp, by simp, by simp, rfl, by simp, ?_, ?_⟩
  · rintro k a r env hh ⟨x, zi, p, S0, cur, dn, o2, o3, eps, esg, ecd, rfl, sl0, rfl, eo, ez, nd, ec, rfl⟩
    have pl : ps.length = dn.length + (r.length + 1) := by rw [eps]; simp
    have zl : zi.length = S0.length := by rw [← gidx_len (S := S0) (o := 0), ← ez, List.length_map]
    show wF (evSs _ _ _ [some (sld m ls ps), some (.ref (h.length + 1)), some (.int (dn.length : Int)), some (partD a), none] _) _ _
    refine w_cut (fun env hh => ∃ (x : Hh) (zi : List (Nat × List Int)) (p : Nat) (S0 : List (List Part)) (cur : List Part), segs ps = S0 ++ cutP (cur ++ [a]) r ∧ S0.flatten ++ cur = dn ∧ S0.length ≤ dn.length + 1 ∧
      hh = h ++ x ∧ hh[h.length + 1]? = some (.lst ((zi ++ [(p, seqI S0.flatten.length cur.length)]).map fun z => D.ref z.1)) ∧ zi.map (·.2) = gidx 0 S0 ∧ ((zi.map (·.1)) ++ [p]).Nodup ∧ (∀ z ∈ zi ++ [(p, seqI S0.flatten.length cur.length)], z.1 ≠ h.length + 1 ∧ h.length ≤ z.1 ∧ hh[z.1]? = some (.lst (z.2.map D.int))) ∧
      env = [some (sld m ls ps), some (.ref (h.length + 1)), some (.int (dn.length : Int)), some (partD a), none]) ?_ ?_
    · simp only [PY.wSs, PY.wSn, PY.w_if, PY.w_and2, PY.w_or2, PY.w_ite, PY.w_chain, PY.w_opt_s, PY.w_guard, PY.w_set_n0, PY.w_set_ns, PY.w_aug, PY.aug_add, PY.aug_sub, PY.idx_l0, PY.idx_l1, PY.idx_p0, PY.idx_p1, PY.idx_p2, PY.idx_p3, PY.idx_p4, PY.idx_p5, PY.w_mkLf, PY.w_mkLt, PY.es_star, PY.ks_cons, PY.ks_nil, PY.es_nil, PY.es_v, PY.es_c, PY.es_g, PY.es_bin, PY.es_un, PY.es_cmp, PY.es_chain, PY.es_and, PY.es_or, PY.es_ite, PY.es_tup, PY.es_lst, PY.es_idx, PY.es_slc, PY.es_rev, PY.es_call, PY.es_make, PY.es_bc, PY.es_bm, PY.es_meth, PY.es_attr, PY.es_isi, PY.es_comp, PY.es_frz, PY.e_attr, PY.e_make, PY.e_isi, PY.e_bm, PY.w_rev, PY.w_frz, PY.w_comp, PY.w_csn, PY.w_csc, PY.w_i_e, PY.w_i_range, PY.rng_1, PY.rng_2, PY.slc_str, PY.toI, PY.w_i_enum, PY.w_for, PY.itm_tup, PY.itm_list, PY.itm_scr, PY.itm_str, PY.itN_tup, PY.chk_none, PY.sq_tup, PY.sq_list, PY.bin_L, PY.bin_T, PY.bc_strI, PY.bc_strS, PY.bc_tupL, PY.bc_tupT, PY.bc_max2, PY.bc_min2, PY.e_v, PY.e_c, PY.e_bin, PY.e_un, PY.e_cmp, PY.e_idx, PY.e_bc, PY.e_call, PY.e_lst, PY.e_tup, PY.e_or, PY.e_and, PY.or1, PY.and1, PY.e_slc, PY.o_none, PY.o_some, PY.s_set, PY.s_ret, PY.s_expr, PY.getV_0, PY.getV_s, PY.bin_add, PY.bin_sub, PY.bin_mul, PY.bin_fdiv, PY.bin_mod, PY.bin_pow, PY.bin_cat, PY.cmp_lt, PY.cmp_le, PY.cmp_gt, PY.cmp_ge, PY.un_not, PY.un_neg, PY.idx_tup, PY.idx_list, PY.idx_scr, PY.bc_int, PY.bc_abs, PY.bc_divmod, PY.bc_lenS, PY.bc_lenT, PY.bc_lenL, PY.bc_lenC, PY.a_tup, PY.as_nil, PY.as_cons, PY.okE, PY.bindE, PY.flE, PY.rtE, PY.nxE, PY.opt_s, PY.bind_ok, PY.fl_ok, PY.cm_lt, PY.cm_le, PY.cm_gt, PY.cm_ge, PY.cm_is, PY.cm_isn, PY.cm_in, PY.cm_nin, PY.cm_eqI, PY.cm_neI, PY.cm_eqS, PY.cm_neS, PY.cm_eqL, PY.cm_neL, PY.cm_eqT, PY.cm_neT, PY.cmp_eqS, PY.cmp_neS, PY.cmp_eqI, PY.cmp_neI, PY.cmp_inT, PY.ifQ_t, PY.ifQ_f, PY.tr_b, PY.tr_i, PY.tr_s, PY.tr_n, PY.isi_ii, PY.isi_bi, PY.isi_ss, PY.isi_tt, Option.map_some, PY.atI_0, PY.atI_1, PY.atI_2, PY.atI_3, PY.atI_4, PY.atI_5, List.set_cons_zero, List.set_cons_succ, ifQ_d, rc_app eo]
      refine ⟨fun zc => ?_, fun zc => ?_⟩
      · have hc : a.click = true := decide_eq_true zc
        have hl : h.length + 1 < (h ++ x).length := (List.getElem?_eq_some_iff.mp eo).1
        have eo2 : (h ++ x ++ [O.lst []])[h.length + 1]? = some (.lst ((zi ++ [(p, seqI S0.flatten.length cur.length)]).map fun z => D.ref z.1)) := by rw [List.getElem?_append_left hl]; exact eo
        rw [w_app eo2]
        refine ⟨trivial, by simp [sl], by simp; omega, (x ++ [O.lst []]).set 1 (.lst (((zi ++ [(p, seqI S0.flatten.length cur.length)]).map fun z => D.ref z.1) ++ [.ref (h ++ x).length])), zi ++ [(p, seqI S0.flatten.length cur.length)], (h ++ x).length, S0 ++ [cur], [], ?_, by simp [ecd], by simp; omega, ?_, ?_, ?_, ?_, ?_, by first | rfl | trivial⟩
        · rw [esg, cutP, hc, if_pos rfl]
          simp
        · rw [List.append_assoc, List.set_append_right _ _ (by omega)]
          congr 2
          omega
        · rw [List.getElem?_set_self (by simp only [List.length_append] at hl ⊢; omega)]
          simp
        · rw [gidx_app, ← ez, List.map_append]
          simp [gidx]
        · have e1 : (zi ++ [(p, seqI S0.flatten.length cur.length)]).map (·.1) = zi.map (·.1) ++ [p] := by simp
          rw [e1, List.nodup_append]
          refine ⟨nd, by simp, fun u um v vm => ?_⟩
          have hv : v = (h ++ x).length := by simpa using vm
          rw [hv]
          intro z
          have : ∃ w ∈ zi ++ [(p, seqI S0.flatten.length cur.length)], w.1 = u := by
            rcases List.mem_append.mp um with q | q
            · obtain ⟨w, wm, rfl⟩ := List.mem_map.mp q
              exact ⟨w, List.mem_append_left _ wm, rfl⟩
            · have : u = p := by simpa using q
              exact ⟨(p, seqI S0.flatten.length cur.length), by simp, this.symm⟩
          obtain ⟨w, wm, rfl⟩ := this
          have := (List.getElem?_eq_some_iff.mp (ec w wm).2.2).1
          omega
        · intro z zm
          rcases List.mem_append.mp zm with q | q
          · obtain ⟨z1, z2, z3⟩ := ec z q
            refine ⟨z1, z2, ?_⟩
            rw [List.getElem?_set_ne (Ne.symm z1), List.getElem?_append_left (List.getElem?_eq_some_iff.mp z3).1]
            exact z3
          · have : z = ((h ++ x).length, []) := by simpa [seqI] using q
            rw [this]
            refine ⟨by show (h ++ x).length ≠ h.length + 1; omega, by show h.length ≤ (h ++ x).length; omega, ?_⟩
            show ((h ++ x ++ [O.lst []]).set (h.length + 1) _)[(h ++ x).length]? = _
            rw [List.getElem?_set_ne (by omega)]
            simp
      · have hc : a.click = false := decide_eq_false zc
        refine ⟨x, zi, p, S0, cur, ?_, ecd, by omega, rfl, eo, ez, nd, ec, by first | rfl | trivial⟩
        rw [esg, cutP, hc, if_neg Bool.false_ne_true]
    · rintro env hh ⟨x, zi, p, S0, cur, esg, ecd, sl0, rfl, eo, ez, nd, ec, rfl⟩
      obtain ⟨p1, p2, p3⟩ := ec (p, seqI S0.flatten.length cur.length) (by simp)
      have cl : cur.length ≤ dn.length := by rw [← ecd]; simp
      have el : L2.atI ((zi ++ [(p, seqI S0.flatten.length cur.length)]).map fun z => D.ref z.1) (-1) = some (.ref p) := by
        rw [List.map_append]
        exact atI_last
      simp only [PY.wSs, PY.wSn, PY.w_if, PY.w_and2, PY.w_or2, PY.w_ite, PY.w_chain, PY.w_opt_s, PY.w_guard, PY.w_set_n0, PY.w_set_ns, PY.w_aug, PY.aug_add, PY.aug_sub, PY.idx_l0, PY.idx_l1, PY.idx_p0, PY.idx_p1, PY.idx_p2, PY.idx_p3, PY.idx_p4, PY.idx_p5, PY.w_mkLf, PY.w_mkLt, PY.es_star, PY.ks_cons, PY.ks_nil, PY.es_nil, PY.es_v, PY.es_c, PY.es_g, PY.es_bin, PY.es_un, PY.es_cmp, PY.es_chain, PY.es_and, PY.es_or, PY.es_ite, PY.es_tup, PY.es_lst, PY.es_idx, PY.es_slc, PY.es_rev, PY.es_call, PY.es_make, PY.es_bc, PY.es_bm, PY.es_meth, PY.es_attr, PY.es_isi, PY.es_comp, PY.es_frz, PY.e_attr, PY.e_make, PY.e_isi, PY.e_bm, PY.w_rev, PY.w_frz, PY.w_comp, PY.w_csn, PY.w_csc, PY.w_i_e, PY.w_i_range, PY.rng_1, PY.rng_2, PY.slc_str, PY.toI, PY.w_i_enum, PY.w_for, PY.itm_tup, PY.itm_list, PY.itm_scr, PY.itm_str, PY.itN_tup, PY.chk_none, PY.sq_tup, PY.sq_list, PY.bin_L, PY.bin_T, PY.bc_strI, PY.bc_strS, PY.bc_tupL, PY.bc_tupT, PY.bc_max2, PY.bc_min2, PY.e_v, PY.e_c, PY.e_bin, PY.e_un, PY.e_cmp, PY.e_idx, PY.e_bc, PY.e_call, PY.e_lst, PY.e_tup, PY.e_or, PY.e_and, PY.or1, PY.and1, PY.e_slc, PY.o_none, PY.o_some, PY.s_set, PY.s_ret, PY.s_expr, PY.getV_0, PY.getV_s, PY.bin_add, PY.bin_sub, PY.bin_mul, PY.bin_fdiv, PY.bin_mod, PY.bin_pow, PY.bin_cat, PY.cmp_lt, PY.cmp_le, PY.cmp_gt, PY.cmp_ge, PY.un_not, PY.un_neg, PY.idx_tup, PY.idx_list, PY.idx_scr, PY.bc_int, PY.bc_abs, PY.bc_divmod, PY.bc_lenS, PY.bc_lenT, PY.bc_lenL, PY.bc_lenC, PY.a_tup, PY.as_nil, PY.as_cons, PY.okE, PY.bindE, PY.flE, PY.rtE, PY.nxE, PY.opt_s, PY.bind_ok, PY.fl_ok, PY.cm_lt, PY.cm_le, PY.cm_gt, PY.cm_ge, PY.cm_is, PY.cm_isn, PY.cm_in, PY.cm_nin, PY.cm_eqI, PY.cm_neI, PY.cm_eqS, PY.cm_neS, PY.cm_eqL, PY.cm_neL, PY.cm_eqT, PY.cm_neT, PY.cmp_eqS, PY.cmp_neS, PY.cmp_eqI, PY.cmp_neI, PY.cmp_inT, PY.ifQ_t, PY.ifQ_f, PY.tr_b, PY.tr_i, PY.tr_s, PY.tr_n, PY.isi_ii, PY.isi_bi, PY.isi_ss, PY.isi_tt, Option.map_some, PY.atI_0, PY.atI_1, PY.atI_2, PY.atI_3, PY.atI_4, PY.atI_5, List.set_cons_zero, List.set_cons_succ, idx_ref eo, el, rc_app p3, w_app p3]
      have e2 : dn.length = S0.flatten.length + cur.length := by rw [← ecd]; simp
      have en : seqI S0.flatten.length (cur ++ [a]).length = seqI S0.flatten.length cur.length ++ [(dn.length : Int)] := by
        rw [List.length_append, List.length_singleton, seqI_snoc, e2]
        simp
      refine ⟨trivial, by rw [List.length_map, seqI_len]; omega, x.set (p - h.length) (.lst ((seqI S0.flatten.length cur.length).map D.int ++ [.int (dn.length : Int)])), zi, p, S0, cur ++ [a], dn ++ [a], _, _, by rw [eps]; simp, esg, by rw [← List.append_assoc, ecd], by simp, by simp; omega, ?_, ?_, ez, nd, ?_, rfl⟩
      · show (h ++ x).set p _ = _
        rw [List.set_append_right _ _ p2]
      · show ((h ++ x).set p _)[h.length + 1]? = _
        rw [List.getElem?_set_ne p1, eo, List.map_append, List.map_append]
        rfl
      · intro z zm
        rcases List.mem_append.mp zm with q | q
        · obtain ⟨z1, z2, z3⟩ := ec z (List.mem_append_left _ q)
          refine ⟨z1, z2, ?_⟩
          rw [List.nodup_append] at nd
          have : p ≠ z.1 := fun e => nd.2.2 z.1 (List.mem_map_of_mem q) p (by simp) e.symm
          rw [List.getElem?_set_ne this]
          exact z3
        · have : z = (p, seqI S0.flatten.length (cur ++ [a]).length) := by simpa using q
          rw [this, en]
          refine ⟨p1, p2, ?_⟩
          show ((h ++ x).set p _)[p]? = _
          rw [List.getElem?_set_self (List.getElem?_eq_some_iff.mp p3).1, List.map_append]
          rfl
  · rintro k env hh ⟨x, zi, p, S0, cur, dn, o2, o3, eps, esg, ecd, rfl, sl0, rfl, eo, ez, nd, ec, rfl⟩
    have zl : zi.length = S0.length := by rw [← gidx_len (S := S0) (o := 0), ← ez, List.length_map]
    have dl : dn.length ≤ 8 := by rw [eps, List.append_nil] at l8; exact l8
    simp only [PY.wSs, PY.wSn, PY.w_if, PY.w_and2, PY.w_or2, PY.w_ite, PY.w_chain, PY.w_opt_s, PY.w_guard, PY.w_set_n0, PY.w_set_ns, PY.w_aug, PY.aug_add, PY.aug_sub, PY.idx_l0, PY.idx_l1, PY.idx_p0, PY.idx_p1, PY.idx_p2, PY.idx_p3, PY.idx_p4, PY.idx_p5, PY.w_mkLf, PY.w_mkLt, PY.es_star, PY.ks_cons, PY.ks_nil, PY.es_nil, PY.es_v, PY.es_c, PY.es_g, PY.es_bin, PY.es_un, PY.es_cmp, PY.es_chain, PY.es_and, PY.es_or, PY.es_ite, PY.es_tup, PY.es_lst, PY.es_idx, PY.es_slc, PY.es_rev, PY.es_call, PY.es_make, PY.es_bc, PY.es_bm, PY.es_meth, PY.es_attr, PY.es_isi, PY.es_comp, PY.es_frz, PY.e_attr, PY.e_make, PY.e_isi, PY.e_bm, PY.w_rev, PY.w_frz, PY.w_comp, PY.w_csn, PY.w_csc, PY.w_i_e, PY.w_i_range, PY.rng_1, PY.rng_2, PY.slc_str, PY.toI, PY.w_i_enum, PY.w_for, PY.itm_tup, PY.itm_list, PY.itm_scr, PY.itm_str, PY.itN_tup, PY.chk_none, PY.sq_tup, PY.sq_list, PY.bin_L, PY.bin_T, PY.bc_strI, PY.bc_strS, PY.bc_tupL, PY.bc_tupT, PY.bc_max2, PY.bc_min2, PY.e_v, PY.e_c, PY.e_bin, PY.e_un, PY.e_cmp, PY.e_idx, PY.e_bc, PY.e_call, PY.e_lst, PY.e_tup, PY.e_or, PY.e_and, PY.or1, PY.and1, PY.e_slc, PY.o_none, PY.o_some, PY.s_set, PY.s_ret, PY.s_expr, PY.getV_0, PY.getV_s, PY.bin_add, PY.bin_sub, PY.bin_mul, PY.bin_fdiv, PY.bin_mod, PY.bin_pow, PY.bin_cat, PY.cmp_lt, PY.cmp_le, PY.cmp_gt, PY.cmp_ge, PY.un_not, PY.un_neg, PY.idx_tup, PY.idx_list, PY.idx_scr, PY.bc_int, PY.bc_abs, PY.bc_divmod, PY.bc_lenS, PY.bc_lenT, PY.bc_lenL, PY.bc_lenC, PY.a_tup, PY.as_nil, PY.as_cons, PY.okE, PY.bindE, PY.flE, PY.rtE, PY.nxE, PY.opt_s, PY.bind_ok, PY.fl_ok, PY.cm_lt, PY.cm_le, PY.cm_gt, PY.cm_ge, PY.cm_is, PY.cm_isn, PY.cm_in, PY.cm_nin, PY.cm_eqI, PY.cm_neI, PY.cm_eqS, PY.cm_neS, PY.cm_eqL, PY.cm_neL, PY.cm_eqT, PY.cm_neT, PY.cmp_eqS, PY.cmp_neS, PY.cmp_eqI, PY.cmp_neI, PY.cmp_inT, PY.ifQ_t, PY.ifQ_f, PY.tr_b, PY.tr_i, PY.tr_s, PY.tr_n, PY.isi_ii, PY.isi_bi, PY.isi_ss, PY.isi_tt, Option.map_some, PY.atI_0, PY.atI_1, PY.atI_2, PY.atI_3, PY.atI_4, PY.atI_5, List.set_cons_zero, List.set_cons_succ, itm_ref eo]
    refine w_cmap (k := fun z => grD z.2) (fun z zm => ?_) ?_
    · rw [w_cB (env' := [some (sld m ls ps), some (.ref (h.length + 1)), o2, o3, some (.ref z.1)]) rfl]
      simp only [PY.wSs, PY.wSn, PY.w_if, PY.w_and2, PY.w_or2, PY.w_ite, PY.w_chain, PY.w_opt_s, PY.w_guard, PY.w_set_n0, PY.w_set_ns, PY.w_aug, PY.aug_add, PY.aug_sub, PY.idx_l0, PY.idx_l1, PY.idx_p0, PY.idx_p1, PY.idx_p2, PY.idx_p3, PY.idx_p4, PY.idx_p5, PY.w_mkLf, PY.w_mkLt, PY.es_star, PY.ks_cons, PY.ks_nil, PY.es_nil, PY.es_v, PY.es_c, PY.es_g, PY.es_bin, PY.es_un, PY.es_cmp, PY.es_chain, PY.es_and, PY.es_or, PY.es_ite, PY.es_tup, PY.es_lst, PY.es_idx, PY.es_slc, PY.es_rev, PY.es_call, PY.es_make, PY.es_bc, PY.es_bm, PY.es_meth, PY.es_attr, PY.es_isi, PY.es_comp, PY.es_frz, PY.e_attr, PY.e_make, PY.e_isi, PY.e_bm, PY.w_rev, PY.w_frz, PY.w_comp, PY.w_csn, PY.w_csc, PY.w_i_e, PY.w_i_range, PY.rng_1, PY.rng_2, PY.slc_str, PY.toI, PY.w_i_enum, PY.w_for, PY.itm_tup, PY.itm_list, PY.itm_scr, PY.itm_str, PY.itN_tup, PY.chk_none, PY.sq_tup, PY.sq_list, PY.bin_L, PY.bin_T, PY.bc_strI, PY.bc_strS, PY.bc_tupL, PY.bc_tupT, PY.bc_max2, PY.bc_min2, PY.e_v, PY.e_c, PY.e_bin, PY.e_un, PY.e_cmp, PY.e_idx, PY.e_bc, PY.e_call, PY.e_lst, PY.e_tup, PY.e_or, PY.e_and, PY.or1, PY.and1, PY.e_slc, PY.o_none, PY.o_some, PY.s_set, PY.s_ret, PY.s_expr, PY.getV_0, PY.getV_s, PY.bin_add, PY.bin_sub, PY.bin_mul, PY.bin_fdiv, PY.bin_mod, PY.bin_pow, PY.bin_cat, PY.cmp_lt, PY.cmp_le, PY.cmp_gt, PY.cmp_ge, PY.un_not, PY.un_neg, PY.idx_tup, PY.idx_list, PY.idx_scr, PY.bc_int, PY.bc_abs, PY.bc_divmod, PY.bc_lenS, PY.bc_lenT, PY.bc_lenL, PY.bc_lenC, PY.a_tup, PY.as_nil, PY.as_cons, PY.okE, PY.bindE, PY.flE, PY.rtE, PY.nxE, PY.opt_s, PY.bind_ok, PY.fl_ok, PY.cm_lt, PY.cm_le, PY.cm_gt, PY.cm_ge, PY.cm_is, PY.cm_isn, PY.cm_in, PY.cm_nin, PY.cm_eqI, PY.cm_neI, PY.cm_eqS, PY.cm_neS, PY.cm_eqL, PY.cm_neL, PY.cm_eqT, PY.cm_neT, PY.cmp_eqS, PY.cmp_neS, PY.cmp_eqI, PY.cmp_neI, PY.cmp_inT, PY.ifQ_t, PY.ifQ_f, PY.tr_b, PY.tr_i, PY.tr_s, PY.tr_n, PY.isi_ii, PY.isi_bi, PY.isi_ss, PY.isi_tt, Option.map_some, PY.atI_0, PY.atI_1, PY.atI_2, PY.atI_3, PY.atI_4, PY.atI_5, List.set_cons_zero, List.set_cons_succ, bc_tupR (ec z zm).2.2, chk_ref eo]
      simp [grD]
    · have e : (zi ++ [(p, seqI S0.flatten.length cur.length)]).map (fun z => grD z.2) = (gidx 0 (segs ps)).map grD := by
        rw [esg, cutP, gidx_app, ← ez]
        simp [gidx]
      rw [e]
      refine ⟨chk_ref eo, ?_, ?_⟩
      · rw [List.length_map, gidx_len, esg, cutP, List.length_append, List.length_singleton]
        omega
      · rw [tr_app (by simp only [D.lt]; exact grs_lt)]
        exact ⟨rfl, rfl⟩
  · intro z zm
    have : z = (h.length, []) := by simpa [seqI] using zm
    rw [this]
    simp
  · simp
end K12
end
section
set_option Elab.async false
set_option linter.all false
set_option maxRecDepth 100000
set_option maxHeartbeats 2000000
namespace K12
open PySem PyProof.Rows PY L12
theorem timing_of {n : Nat} {m : Str} {ls : List (Str × Int)} {ps : List Part} {h : Hh} (l8 : ps.length ≤ 8) : PY.run prg (n + 3) 17 [sld m ls ps] h = .ok (.tup ((tmw ps 0 0).map prI)) h := by
  refine okR_eq ?_
  have sl := sizeLine_eq
  rw [r_17]
  simp only [PY.wSs, PY.wSn, PY.w_if, PY.w_and2, PY.w_or2, PY.w_ite, PY.w_chain, PY.w_opt_s, PY.w_guard, PY.w_set_n0, PY.w_set_ns, PY.w_aug, PY.aug_add, PY.aug_sub, PY.idx_l0, PY.idx_l1, PY.idx_p0, PY.idx_p1, PY.idx_p2, PY.idx_p3, PY.idx_p4, PY.idx_p5, PY.w_mkLf, PY.w_mkLt, PY.es_star, PY.ks_cons, PY.ks_nil, PY.es_nil, PY.es_v, PY.es_c, PY.es_g, PY.es_bin, PY.es_un, PY.es_cmp, PY.es_chain, PY.es_and, PY.es_or, PY.es_ite, PY.es_tup, PY.es_lst, PY.es_idx, PY.es_slc, PY.es_rev, PY.es_call, PY.es_make, PY.es_bc, PY.es_bm, PY.es_meth, PY.es_attr, PY.es_isi, PY.es_comp, PY.es_frz, PY.e_attr, PY.e_make, PY.e_isi, PY.e_bm, PY.w_rev, PY.w_frz, PY.w_comp, PY.w_csn, PY.w_csc, PY.w_i_e, PY.w_i_range, PY.rng_1, PY.rng_2, PY.slc_str, PY.toI, PY.w_i_enum, PY.w_for, PY.itm_tup, PY.itm_list, PY.itm_scr, PY.itm_str, PY.itN_tup, PY.chk_none, PY.sq_tup, PY.sq_list, PY.bin_L, PY.bin_T, PY.bc_strI, PY.bc_strS, PY.bc_tupL, PY.bc_tupT, PY.bc_max2, PY.bc_min2, PY.e_v, PY.e_c, PY.e_bin, PY.e_un, PY.e_cmp, PY.e_idx, PY.e_bc, PY.e_call, PY.e_lst, PY.e_tup, PY.e_or, PY.e_and, PY.or1, PY.and1, PY.e_slc, PY.o_none, PY.o_some, PY.s_set, PY.s_ret, PY.s_expr, PY.getV_0, PY.getV_s, PY.bin_add, PY.bin_sub, PY.bin_mul, PY.bin_fdiv, PY.bin_mod, PY.bin_pow, PY.bin_cat, PY.cmp_lt, PY.cmp_le, PY.cmp_gt, PY.cmp_ge, PY.un_not, PY.un_neg, PY.idx_tup, PY.idx_list, PY.idx_scr, PY.bc_int, PY.bc_abs, PY.bc_divmod, PY.bc_lenS, PY.bc_lenT, PY.bc_lenL, PY.bc_lenC, PY.a_tup, PY.as_nil, PY.as_cons, PY.okE, PY.bindE, PY.flE, PY.rtE, PY.nxE, PY.opt_s, PY.bind_ok, PY.fl_ok, PY.cm_lt, PY.cm_le, PY.cm_gt, PY.cm_ge, PY.cm_is, PY.cm_isn, PY.cm_in, PY.cm_nin, PY.cm_eqI, PY.cm_neI, PY.cm_eqS, PY.cm_neS, PY.cm_eqL, PY.cm_neL, PY.cm_eqT, PY.cm_neT, PY.cmp_eqS, PY.cmp_neS, PY.cmp_eqI, PY.cmp_neI, PY.cmp_inT, PY.ifQ_t, PY.ifQ_f, PY.tr_b, PY.tr_i, PY.tr_s, PY.tr_n, PY.isi_ii, PY.isi_bi, PY.isi_ss, PY.isi_tt, Option.map_some, PY.atI_0, PY.atI_1, PY.atI_2, PY.atI_3, PY.atI_4, PY.atI_5, List.set_cons_zero, List.set_cons_succ, fn17, c_16, groups_of l8]
  refine ⟨by simp [sl], ?_⟩
  have sf := segs_flat (ps := ps)
  refine forM_map (enc := grD) (I := fun r env hh => ∃ (F : List (Int × Int)) (T0 T : List (List Part)) (o2 o3 o4 o5 o6 o7 o8 o9 oa ob oc od : Option D), segs ps = T0 ++ T ∧ PcR T ∧ r = gidx T0.flatten.length T ∧ F ++ tmw T.flatten 0 0 = tmw ps 0 0 ∧ hh = h ++ [.lst (F.map prI)] ∧
      env = [some (sld m ls ps), some (.ref h.length), o2, o3, o4, o5, o6, o7, o8, o9, oa, ob, oc, od]) (fun _ _ _ _ => rfl) ?_ ?_ ⟨[], [], segs ps, none, none, none, none, none, none, none, none, none, none, none, none, rfl, segs_pcs.r, rfl, by rw [sf]; rfl, rfl, rfl⟩
  · rintro g r env hh ⟨F, T0, T, o2, o3, o4, o5, o6, o7, o8, o9, oa, ob, oc, od, eT, pT, er, eF, rfl, rfl⟩
    cases T with
    | nil => cases er
    | cons s T =>
      rw [gidx] at er
      obtain ⟨rfl, rfl⟩ := List.cons.inj er
      have ep : ps = T0.flatten ++ (s ++ T.flatten) := by rw [← sf, eT]; simp
      show wF (evSs _ _ _ [some (sld m ls ps), some (.ref h.length), some (grD (seqI T0.flatten.length s.length)), o3, o4, o5, o6, o7, o8, o9, oa, ob, oc, od] _) _ _
      have it_gr : ∀ {g : List Int} {h : Hh}, itemsN h (grD g) = some (g.map D.int, none) := fun {g h} => rfl
      simp only [PY.wSs, PY.wSn, PY.w_if, PY.w_and2, PY.w_or2, PY.w_ite, PY.w_chain, PY.w_opt_s, PY.w_guard, PY.w_set_n0, PY.w_set_ns, PY.w_aug, PY.aug_add, PY.aug_sub, PY.idx_l0, PY.idx_l1, PY.idx_p0, PY.idx_p1, PY.idx_p2, PY.idx_p3, PY.idx_p4, PY.idx_p5, PY.w_mkLf, PY.w_mkLt, PY.es_star, PY.ks_cons, PY.ks_nil, PY.es_nil, PY.es_v, PY.es_c, PY.es_g, PY.es_bin, PY.es_un, PY.es_cmp, PY.es_chain, PY.es_and, PY.es_or, PY.es_ite, PY.es_tup, PY.es_lst, PY.es_idx, PY.es_slc, PY.es_rev, PY.es_call, PY.es_make, PY.es_bc, PY.es_bm, PY.es_meth, PY.es_attr, PY.es_isi, PY.es_comp, PY.es_frz, PY.e_attr, PY.e_make, PY.e_isi, PY.e_bm, PY.w_rev, PY.w_frz, PY.w_comp, PY.w_csn, PY.w_csc, PY.w_i_e, PY.w_i_range, PY.rng_1, PY.rng_2, PY.slc_str, PY.toI, PY.w_i_enum, PY.w_for, PY.itm_tup, PY.itm_list, PY.itm_scr, PY.itm_str, PY.itN_tup, PY.chk_none, PY.sq_tup, PY.sq_list, PY.bin_L, PY.bin_T, PY.bc_strI, PY.bc_strS, PY.bc_tupL, PY.bc_tupT, PY.bc_max2, PY.bc_min2, PY.e_v, PY.e_c, PY.e_bin, PY.e_un, PY.e_cmp, PY.e_idx, PY.e_bc, PY.e_call, PY.e_lst, PY.e_tup, PY.e_or, PY.e_and, PY.or1, PY.and1, PY.e_slc, PY.o_none, PY.o_some, PY.s_set, PY.s_ret, PY.s_expr, PY.getV_0, PY.getV_s, PY.bin_add, PY.bin_sub, PY.bin_mul, PY.bin_fdiv, PY.bin_mod, PY.bin_pow, PY.bin_cat, PY.cmp_lt, PY.cmp_le, PY.cmp_gt, PY.cmp_ge, PY.un_not, PY.un_neg, PY.idx_tup, PY.idx_list, PY.idx_scr, PY.bc_int, PY.bc_abs, PY.bc_divmod, PY.bc_lenS, PY.bc_lenT, PY.bc_lenL, PY.bc_lenC, PY.a_tup, PY.as_nil, PY.as_cons, PY.okE, PY.bindE, PY.flE, PY.rtE, PY.nxE, PY.opt_s, PY.bind_ok, PY.fl_ok, PY.cm_lt, PY.cm_le, PY.cm_gt, PY.cm_ge, PY.cm_is, PY.cm_isn, PY.cm_in, PY.cm_nin, PY.cm_eqI, PY.cm_neI, PY.cm_eqS, PY.cm_neS, PY.cm_eqL, PY.cm_neL, PY.cm_eqT, PY.cm_neT, PY.cmp_eqS, PY.cmp_neS, PY.cmp_eqI, PY.cmp_neI, PY.cmp_inT, PY.ifQ_t, PY.ifQ_f, PY.tr_b, PY.tr_i, PY.tr_s, PY.tr_n, PY.isi_ii, PY.isi_bi, PY.isi_ss, PY.isi_tt, Option.map_some, PY.atI_0, PY.atI_1, PY.atI_2, PY.atI_3, PY.atI_4, PY.atI_5, List.set_cons_zero, List.set_cons_succ, it_gr]
      refine ⟨by simp [sl], ?_⟩
      refine forM_enum (enc := D.int) (I := fun k r env hh => ∃ (F : List (Int × Int)) (dn rs : List Part) (an far : Int) (o5 o6 o7 o8 o9 oa ob oc od : Option D), s = dn ++ rs ∧ (dn.length : Int) = k ∧ r = seqI (T0.flatten.length + dn.length) rs.length ∧ F ++ tmw (rs ++ T.flatten) an far = tmw ps 0 0 ∧ (dn = [] → an = 0 ∧ far = 0) ∧ hh = h ++ [.lst (F.map prI)] ∧
        env = [some (sld m ls ps), some (.ref h.length), some (grD (seqI T0.flatten.length s.length)), some (.int an), some (.int far), o5, o6, o7, o8, o9, oa, ob, oc, od]) (fun _ _ _ _ _ => rfl) ?_ ?_ ⟨F, [], s, 0, 0, o5, o6, o7, o8, o9, oa, ob, oc, od, rfl, rfl, by simp, by rw [List.flatten_cons] at eF; exact eF, fun _ => ⟨rfl, rfl⟩, rfl, rfl⟩
      · rintro k i r env hh ⟨F, dn, rs, an, far, o5, o6, o7, o8, o9, oa, ob, oc, od, es, rfl, er, eF, e0, rfl, rfl⟩
        cases rs with
        | nil => cases er
        | cons a rs =>
          rw [List.length_cons, seqI] at er
          obtain ⟨rfl, rfl⟩ := List.cons.inj er
          show wF (evSs _ _ _ [some (sld m ls ps), some (.ref h.length), some (grD (seqI T0.flatten.length s.length)), some (.int an), some (.int far), some (.int (dn.length : Int)), some (.int (T0.flatten.length + dn.length : Int)), o7, o8, o9, oa, ob, oc, od] _) _ _
          have ea : L2.atI (ps.map partD) (T0.flatten.length + dn.length : Int) = some (partD a) := by
            have : ps.map partD = (T0.flatten ++ dn).map partD ++ partD a :: (rs ++ T.flatten).map partD := by rw [ep, es]; simp
            rw [this]
            exact atI_mid (by rw [List.length_map, List.length_append]; omega)
          have hcl : a.click = true → an = 0 ∧ far = 0 := fun c => by
            cases dn with
            | nil => exact e0 rfl
            | cons d dn =>
              have := pT.1 a (by rw [es]; simp)
              rw [this] at c
              cases c
          have fl : F.length + (rs.length + 1) ≤ 8 := by
            have := congrArg List.length eF
            rw [List.length_append, tmw_len, tmw_len, List.length_append, List.length_cons] at this
            omega
          refine w_cut (fun env hh => hh = h ++ [.lst (F.map prI)] ∧ env = [some (sld m ls ps), some (.ref h.length), some (grD (seqI T0.flatten.length s.length)), some (.int an), some (.int far), some (.int (dn.length : Int)), some (.int (T0.flatten.length + dn.length : Int)), o7, some (.str a.w), some (.str a.s), some (.int a.d), some (.int a.l), some (.int a.a), some (.int a.b)]) ?_ ?_
          · simp only [PY.wSs, PY.wSn, PY.w_if, PY.w_and2, PY.w_or2, PY.w_ite, PY.w_chain, PY.w_opt_s, PY.w_guard, PY.w_set_n0, PY.w_set_ns, PY.w_aug, PY.aug_add, PY.aug_sub, PY.idx_l0, PY.idx_l1, PY.idx_p0, PY.idx_p1, PY.idx_p2, PY.idx_p3, PY.idx_p4, PY.idx_p5, PY.w_mkLf, PY.w_mkLt, PY.es_star, PY.ks_cons, PY.ks_nil, PY.es_nil, PY.es_v, PY.es_c, PY.es_g, PY.es_bin, PY.es_un, PY.es_cmp, PY.es_chain, PY.es_and, PY.es_or, PY.es_ite, PY.es_tup, PY.es_lst, PY.es_idx, PY.es_slc, PY.es_rev, PY.es_call, PY.es_make, PY.es_bc, PY.es_bm, PY.es_meth, PY.es_attr, PY.es_isi, PY.es_comp, PY.es_frz, PY.e_attr, PY.e_make, PY.e_isi, PY.e_bm, PY.w_rev, PY.w_frz, PY.w_comp, PY.w_csn, PY.w_csc, PY.w_i_e, PY.w_i_range, PY.rng_1, PY.rng_2, PY.slc_str, PY.toI, PY.w_i_enum, PY.w_for, PY.itm_tup, PY.itm_list, PY.itm_scr, PY.itm_str, PY.itN_tup, PY.chk_none, PY.sq_tup, PY.sq_list, PY.bin_L, PY.bin_T, PY.bc_strI, PY.bc_strS, PY.bc_tupL, PY.bc_tupT, PY.bc_max2, PY.bc_min2, PY.e_v, PY.e_c, PY.e_bin, PY.e_un, PY.e_cmp, PY.e_idx, PY.e_bc, PY.e_call, PY.e_lst, PY.e_tup, PY.e_or, PY.e_and, PY.or1, PY.and1, PY.e_slc, PY.o_none, PY.o_some, PY.s_set, PY.s_ret, PY.s_expr, PY.getV_0, PY.getV_s, PY.bin_add, PY.bin_sub, PY.bin_mul, PY.bin_fdiv, PY.bin_mod, PY.bin_pow, PY.bin_cat, PY.cmp_lt, PY.cmp_le, PY.cmp_gt, PY.cmp_ge, PY.un_not, PY.un_neg, PY.idx_tup, PY.idx_list, PY.idx_scr, PY.bc_int, PY.bc_abs, PY.bc_divmod, PY.bc_lenS, PY.bc_lenT, PY.bc_lenL, PY.bc_lenC, PY.a_tup, PY.as_nil, PY.as_cons, PY.okE, PY.bindE, PY.flE, PY.rtE, PY.nxE, PY.opt_s, PY.bind_ok, PY.fl_ok, PY.cm_lt, PY.cm_le, PY.cm_gt, PY.cm_ge, PY.cm_is, PY.cm_isn, PY.cm_in, PY.cm_nin, PY.cm_eqI, PY.cm_neI, PY.cm_eqS, PY.cm_neS, PY.cm_eqL, PY.cm_neL, PY.cm_eqT, PY.cm_neT, PY.cmp_eqS, PY.cmp_neS, PY.cmp_eqI, PY.cmp_neI, PY.cmp_inT, PY.ifQ_t, PY.ifQ_f, PY.tr_b, PY.tr_i, PY.tr_s, PY.tr_n, PY.isi_ii, PY.isi_bi, PY.isi_ss, PY.isi_tt, Option.map_some, PY.atI_0, PY.atI_1, PY.atI_2, PY.atI_3, PY.atI_4, PY.atI_5, List.set_cons_zero, List.set_cons_succ, am_effects, q_effects, ea]
            unfold partD
            simp only [PY.wSs, PY.wSn, PY.w_if, PY.w_and2, PY.w_or2, PY.w_ite, PY.w_chain, PY.w_opt_s, PY.w_guard, PY.w_set_n0, PY.w_set_ns, PY.w_aug, PY.aug_add, PY.aug_sub, PY.idx_l0, PY.idx_l1, PY.idx_p0, PY.idx_p1, PY.idx_p2, PY.idx_p3, PY.idx_p4, PY.idx_p5, PY.w_mkLf, PY.w_mkLt, PY.es_star, PY.ks_cons, PY.ks_nil, PY.es_nil, PY.es_v, PY.es_c, PY.es_g, PY.es_bin, PY.es_un, PY.es_cmp, PY.es_chain, PY.es_and, PY.es_or, PY.es_ite, PY.es_tup, PY.es_lst, PY.es_idx, PY.es_slc, PY.es_rev, PY.es_call, PY.es_make, PY.es_bc, PY.es_bm, PY.es_meth, PY.es_attr, PY.es_isi, PY.es_comp, PY.es_frz, PY.e_attr, PY.e_make, PY.e_isi, PY.e_bm, PY.w_rev, PY.w_frz, PY.w_comp, PY.w_csn, PY.w_csc, PY.w_i_e, PY.w_i_range, PY.rng_1, PY.rng_2, PY.slc_str, PY.toI, PY.w_i_enum, PY.w_for, PY.itm_tup, PY.itm_list, PY.itm_scr, PY.itm_str, PY.itN_tup, PY.chk_none, PY.sq_tup, PY.sq_list, PY.bin_L, PY.bin_T, PY.bc_strI, PY.bc_strS, PY.bc_tupL, PY.bc_tupT, PY.bc_max2, PY.bc_min2, PY.e_v, PY.e_c, PY.e_bin, PY.e_un, PY.e_cmp, PY.e_idx, PY.e_bc, PY.e_call, PY.e_lst, PY.e_tup, PY.e_or, PY.e_and, PY.or1, PY.and1, PY.e_slc, PY.o_none, PY.o_some, PY.s_set, PY.s_ret, PY.s_expr, PY.getV_0, PY.getV_s, PY.bin_add, PY.bin_sub, PY.bin_mul, PY.bin_fdiv, PY.bin_mod, PY.bin_pow, PY.bin_cat, PY.cmp_lt, PY.cmp_le, PY.cmp_gt, PY.cmp_ge, PY.un_not, PY.un_neg, PY.idx_tup, PY.idx_list, PY.idx_scr, PY.bc_int, PY.bc_abs, PY.bc_divmod, PY.bc_lenS, PY.bc_lenT, PY.bc_lenL, PY.bc_lenC, PY.a_tup, PY.as_nil, PY.as_cons, PY.okE, PY.bindE, PY.flE, PY.rtE, PY.nxE, PY.opt_s, PY.bind_ok, PY.fl_ok, PY.cm_lt, PY.cm_le, PY.cm_gt, PY.cm_ge, PY.cm_is, PY.cm_isn, PY.cm_in, PY.cm_nin, PY.cm_eqI, PY.cm_neI, PY.cm_eqS, PY.cm_neS, PY.cm_eqL, PY.cm_neL, PY.cm_eqT, PY.cm_neT, PY.cmp_eqS, PY.cmp_neS, PY.cmp_eqI, PY.cmp_neI, PY.cmp_inT, PY.ifQ_t, PY.ifQ_f, PY.tr_b, PY.tr_i, PY.tr_s, PY.tr_n, PY.isi_ii, PY.isi_bi, PY.isi_ss, PY.isi_tt, Option.map_some, PY.atI_0, PY.atI_1, PY.atI_2, PY.atI_3, PY.atI_4, PY.atI_5, List.set_cons_zero, List.set_cons_succ]
            exact ⟨trivial, trivial⟩
          rintro env hh ⟨rfl, rfl⟩
          refine w_cut (fun env hh => hh = h ++ [.lst (F.map prI)] ∧ env = [some (sld m ls ps), some (.ref h.length), some (grD (seqI T0.flatten.length s.length)), some (.int (if a.s = "after" then far else an)), some (.int far), some (.int (dn.length : Int)), some (.int (T0.flatten.length + dn.length : Int)), o7, some (.str a.w), some (.str a.s), some (.int a.d), some (.int a.l), some (.int a.a), some (.int a.b)]) ?_ ?_
          · simp only [PY.wSs, PY.wSn, PY.w_if, PY.w_and2, PY.w_or2, PY.w_ite, PY.w_chain, PY.w_opt_s, PY.w_guard, PY.w_set_n0, PY.w_set_ns, PY.w_aug, PY.aug_add, PY.aug_sub, PY.idx_l0, PY.idx_l1, PY.idx_p0, PY.idx_p1, PY.idx_p2, PY.idx_p3, PY.idx_p4, PY.idx_p5, PY.w_mkLf, PY.w_mkLt, PY.es_star, PY.ks_cons, PY.ks_nil, PY.es_nil, PY.es_v, PY.es_c, PY.es_g, PY.es_bin, PY.es_un, PY.es_cmp, PY.es_chain, PY.es_and, PY.es_or, PY.es_ite, PY.es_tup, PY.es_lst, PY.es_idx, PY.es_slc, PY.es_rev, PY.es_call, PY.es_make, PY.es_bc, PY.es_bm, PY.es_meth, PY.es_attr, PY.es_isi, PY.es_comp, PY.es_frz, PY.e_attr, PY.e_make, PY.e_isi, PY.e_bm, PY.w_rev, PY.w_frz, PY.w_comp, PY.w_csn, PY.w_csc, PY.w_i_e, PY.w_i_range, PY.rng_1, PY.rng_2, PY.slc_str, PY.toI, PY.w_i_enum, PY.w_for, PY.itm_tup, PY.itm_list, PY.itm_scr, PY.itm_str, PY.itN_tup, PY.chk_none, PY.sq_tup, PY.sq_list, PY.bin_L, PY.bin_T, PY.bc_strI, PY.bc_strS, PY.bc_tupL, PY.bc_tupT, PY.bc_max2, PY.bc_min2, PY.e_v, PY.e_c, PY.e_bin, PY.e_un, PY.e_cmp, PY.e_idx, PY.e_bc, PY.e_call, PY.e_lst, PY.e_tup, PY.e_or, PY.e_and, PY.or1, PY.and1, PY.e_slc, PY.o_none, PY.o_some, PY.s_set, PY.s_ret, PY.s_expr, PY.getV_0, PY.getV_s, PY.bin_add, PY.bin_sub, PY.bin_mul, PY.bin_fdiv, PY.bin_mod, PY.bin_pow, PY.bin_cat, PY.cmp_lt, PY.cmp_le, PY.cmp_gt, PY.cmp_ge, PY.un_not, PY.un_neg, PY.idx_tup, PY.idx_list, PY.idx_scr, PY.bc_int, PY.bc_abs, PY.bc_divmod, PY.bc_lenS, PY.bc_lenT, PY.bc_lenL, PY.bc_lenC, PY.a_tup, PY.as_nil, PY.as_cons, PY.okE, PY.bindE, PY.flE, PY.rtE, PY.nxE, PY.opt_s, PY.bind_ok, PY.fl_ok, PY.cm_lt, PY.cm_le, PY.cm_gt, PY.cm_ge, PY.cm_is, PY.cm_isn, PY.cm_in, PY.cm_nin, PY.cm_eqI, PY.cm_neI, PY.cm_eqS, PY.cm_neS, PY.cm_eqL, PY.cm_neL, PY.cm_eqT, PY.cm_neT, PY.cmp_eqS, PY.cmp_neS, PY.cmp_eqI, PY.cmp_neI, PY.cmp_inT, PY.ifQ_t, PY.ifQ_f, PY.tr_b, PY.tr_i, PY.tr_s, PY.tr_n, PY.isi_ii, PY.isi_bi, PY.isi_ss, PY.isi_tt, Option.map_some, PY.atI_0, PY.atI_1, PY.atI_2, PY.atI_3, PY.atI_4, PY.atI_5, List.set_cons_zero, List.set_cons_succ, ifQ_d]
            refine ⟨fun z => ⟨fun z1 => ?_, fun z1 => ?_⟩, fun z => ?_⟩
            · simp [z]
            · have dz : dn = [] := by
                cases dn with
                | nil => rfl
                | cons d dn => exact absurd (show (0 : Int) < ((d :: dn).length : Int) by simp) z1
              obtain ⟨rfl, rfl⟩ := e0 dz
              simp [z]
            · simp [z]
          rintro env hh ⟨rfl, rfl⟩
          rw [List.cons_append, tmw_step hcl] at eF
          generalize (if a.s = Str.ofString "after" then far else an) = av at eF ⊢
          simp only [PY.wSs, PY.wSn, PY.w_if, PY.w_and2, PY.w_or2, PY.w_ite, PY.w_chain, PY.w_opt_s, PY.w_guard, PY.w_set_n0, PY.w_set_ns, PY.w_aug, PY.aug_add, PY.aug_sub, PY.idx_l0, PY.idx_l1, PY.idx_p0, PY.idx_p1, PY.idx_p2, PY.idx_p3, PY.idx_p4, PY.idx_p5, PY.w_mkLf, PY.w_mkLt, PY.es_star, PY.ks_cons, PY.ks_nil, PY.es_nil, PY.es_v, PY.es_c, PY.es_g, PY.es_bin, PY.es_un, PY.es_cmp, PY.es_chain, PY.es_and, PY.es_or, PY.es_ite, PY.es_tup, PY.es_lst, PY.es_idx, PY.es_slc, PY.es_rev, PY.es_call, PY.es_make, PY.es_bc, PY.es_bm, PY.es_meth, PY.es_attr, PY.es_isi, PY.es_comp, PY.es_frz, PY.e_attr, PY.e_make, PY.e_isi, PY.e_bm, PY.w_rev, PY.w_frz, PY.w_comp, PY.w_csn, PY.w_csc, PY.w_i_e, PY.w_i_range, PY.rng_1, PY.rng_2, PY.slc_str, PY.toI, PY.w_i_enum, PY.w_for, PY.itm_tup, PY.itm_list, PY.itm_scr, PY.itm_str, PY.itN_tup, PY.chk_none, PY.sq_tup, PY.sq_list, PY.bin_L, PY.bin_T, PY.bc_strI, PY.bc_strS, PY.bc_tupL, PY.bc_tupT, PY.bc_max2, PY.bc_min2, PY.e_v, PY.e_c, PY.e_bin, PY.e_un, PY.e_cmp, PY.e_idx, PY.e_bc, PY.e_call, PY.e_lst, PY.e_tup, PY.e_or, PY.e_and, PY.or1, PY.and1, PY.e_slc, PY.o_none, PY.o_some, PY.s_set, PY.s_ret, PY.s_expr, PY.getV_0, PY.getV_s, PY.bin_add, PY.bin_sub, PY.bin_mul, PY.bin_fdiv, PY.bin_mod, PY.bin_pow, PY.bin_cat, PY.cmp_lt, PY.cmp_le, PY.cmp_gt, PY.cmp_ge, PY.un_not, PY.un_neg, PY.idx_tup, PY.idx_list, PY.idx_scr, PY.bc_int, PY.bc_abs, PY.bc_divmod, PY.bc_lenS, PY.bc_lenT, PY.bc_lenL, PY.bc_lenC, PY.a_tup, PY.as_nil, PY.as_cons, PY.okE, PY.bindE, PY.flE, PY.rtE, PY.nxE, PY.opt_s, PY.bind_ok, PY.fl_ok, PY.cm_lt, PY.cm_le, PY.cm_gt, PY.cm_ge, PY.cm_is, PY.cm_isn, PY.cm_in, PY.cm_nin, PY.cm_eqI, PY.cm_neI, PY.cm_eqS, PY.cm_neS, PY.cm_eqL, PY.cm_neL, PY.cm_eqT, PY.cm_neT, PY.cmp_eqS, PY.cmp_neS, PY.cmp_eqI, PY.cmp_neI, PY.cmp_inT, PY.ifQ_t, PY.ifQ_f, PY.tr_b, PY.tr_i, PY.tr_s, PY.tr_n, PY.isi_ii, PY.isi_bi, PY.isi_ss, PY.isi_tt, Option.map_some, PY.atI_0, PY.atI_1, PY.atI_2, PY.atI_3, PY.atI_4, PY.atI_5, List.set_cons_zero, List.set_cons_succ, rc_app (last_get rfl), w_app (last_get rfl), last_set rfl]
          refine ⟨trivial, by simp [sl], by rw [List.length_map]; omega, F ++ [(av + a.d, av + a.d + a.l)], dn ++ [a], rs, av, max far (av + a.d + a.l), some (.int (dn.length : Int)), some (.int (T0.flatten.length + dn.length : Int)), some (.int (av + a.d)), some (.str a.w), some (.str a.s), some (.int a.d), some (.int a.l), some (.int a.a), some (.int a.b), by rw [es]; simp, by simp, ?_, by rw [← eF, List.append_assoc]; rfl, fun z => by simp at z, ?_, ?_⟩
          · congr 1
            simp
            omega
          · rw [List.map_append]
            rfl
          · have emx : (if av + a.d + a.l > far then av + a.d + a.l else far) = max far (av + a.d + a.l) := by
              generalize av + a.d + a.l = z
              split <;> omega
            rw [emx]
      · rintro k env hh ⟨F, dn, rs, an, far, o5, o6, o7, o8, o9, oa, ob, oc, od, es, rfl, er, eF, e0, rfl, rfl⟩
        have rz : rs = [] := by
          have := congrArg List.length er
          rw [seqI_len] at this
          exact List.eq_nil_of_length_eq_zero this.symm
        subst rz
        refine ⟨F, T0 ++ [s], T, _, _, _, _, _, _, _, _, _, _, _, _, by rw [eT]; simp, pT.next, by simp, ?_, rfl, rfl⟩
        rw [← eF, List.nil_append, tmw_any (a := an) (f := far) pT.2]
  · rintro env hh ⟨F, T0, T, o2, o3, o4, o5, o6, o7, o8, o9, oa, ob, oc, od, eT, pT, er, eF, rfl, rfl⟩
    have Tz : T = [] := by
      have := congrArg List.length er
      rw [gidx_len] at this
      exact List.eq_nil_of_length_eq_zero this.symm
    subst Tz
    have : F = tmw ps 0 0 := by rw [← eF]; simp [tmw]
    subst this
    simp only [PY.wSs, PY.wSn, PY.w_if, PY.w_and2, PY.w_or2, PY.w_ite, PY.w_chain, PY.w_opt_s, PY.w_guard, PY.w_set_n0, PY.w_set_ns, PY.w_aug, PY.aug_add, PY.aug_sub, PY.idx_l0, PY.idx_l1, PY.idx_p0, PY.idx_p1, PY.idx_p2, PY.idx_p3, PY.idx_p4, PY.idx_p5, PY.w_mkLf, PY.w_mkLt, PY.es_star, PY.ks_cons, PY.ks_nil, PY.es_nil, PY.es_v, PY.es_c, PY.es_g, PY.es_bin, PY.es_un, PY.es_cmp, PY.es_chain, PY.es_and, PY.es_or, PY.es_ite, PY.es_tup, PY.es_lst, PY.es_idx, PY.es_slc, PY.es_rev, PY.es_call, PY.es_make, PY.es_bc, PY.es_bm, PY.es_meth, PY.es_attr, PY.es_isi, PY.es_comp, PY.es_frz, PY.e_attr, PY.e_make, PY.e_isi, PY.e_bm, PY.w_rev, PY.w_frz, PY.w_comp, PY.w_csn, PY.w_csc, PY.w_i_e, PY.w_i_range, PY.rng_1, PY.rng_2, PY.slc_str, PY.toI, PY.w_i_enum, PY.w_for, PY.itm_tup, PY.itm_list, PY.itm_scr, PY.itm_str, PY.itN_tup, PY.chk_none, PY.sq_tup, PY.sq_list, PY.bin_L, PY.bin_T, PY.bc_strI, PY.bc_strS, PY.bc_tupL, PY.bc_tupT, PY.bc_max2, PY.bc_min2, PY.e_v, PY.e_c, PY.e_bin, PY.e_un, PY.e_cmp, PY.e_idx, PY.e_bc, PY.e_call, PY.e_lst, PY.e_tup, PY.e_or, PY.e_and, PY.or1, PY.and1, PY.e_slc, PY.o_none, PY.o_some, PY.s_set, PY.s_ret, PY.s_expr, PY.getV_0, PY.getV_s, PY.bin_add, PY.bin_sub, PY.bin_mul, PY.bin_fdiv, PY.bin_mod, PY.bin_pow, PY.bin_cat, PY.cmp_lt, PY.cmp_le, PY.cmp_gt, PY.cmp_ge, PY.un_not, PY.un_neg, PY.idx_tup, PY.idx_list, PY.idx_scr, PY.bc_int, PY.bc_abs, PY.bc_divmod, PY.bc_lenS, PY.bc_lenT, PY.bc_lenL, PY.bc_lenC, PY.a_tup, PY.as_nil, PY.as_cons, PY.okE, PY.bindE, PY.flE, PY.rtE, PY.nxE, PY.opt_s, PY.bind_ok, PY.fl_ok, PY.cm_lt, PY.cm_le, PY.cm_gt, PY.cm_ge, PY.cm_is, PY.cm_isn, PY.cm_in, PY.cm_nin, PY.cm_eqI, PY.cm_neI, PY.cm_eqS, PY.cm_neS, PY.cm_eqL, PY.cm_neL, PY.cm_eqT, PY.cm_neT, PY.cmp_eqS, PY.cmp_neS, PY.cmp_eqI, PY.cmp_neI, PY.cmp_inT, PY.ifQ_t, PY.ifQ_f, PY.tr_b, PY.tr_i, PY.tr_s, PY.tr_n, PY.isi_ii, PY.isi_bi, PY.isi_ss, PY.isi_tt, Option.map_some, PY.atI_0, PY.atI_1, PY.atI_2, PY.atI_3, PY.atI_4, PY.atI_5, List.set_cons_zero, List.set_cons_succ, bc_tupR (last_get rfl)]
    rw [tr_app (by simp only [D.lt]; exact prs_lt)]
    exact ⟨rfl, rfl⟩
end K12
end
section
set_option Elab.async false
set_option linter.all false
set_option maxRecDepth 100000
set_option maxHeartbeats 2000000
namespace K12
open PySem PyProof.Rows PY L12
theorem hours {n : Nat} {ps : List Part} {h : Hh} (l8 : ps.length ≤ 8) : PY.run prg (n + 1) 31 [.tup (ps.map partD)] h = .ok (.list ((hrs ps 0 0 0).map hrD)) h := by
  refine okR_eq ?_
  have sl := sizeLine_eq
  rw [r_31]
  simp only [PY.wSs, PY.wSn, PY.w_if, PY.w_and2, PY.w_or2, PY.w_ite, PY.w_chain, PY.w_opt_s, PY.w_guard, PY.w_set_n0, PY.w_set_ns, PY.w_aug, PY.aug_add, PY.aug_sub, PY.idx_l0, PY.idx_l1, PY.idx_p0, PY.idx_p1, PY.idx_p2, PY.idx_p3, PY.idx_p4, PY.idx_p5, PY.w_mkLf, PY.w_mkLt, PY.es_star, PY.ks_cons, PY.ks_nil, PY.es_nil, PY.es_v, PY.es_c, PY.es_g, PY.es_bin, PY.es_un, PY.es_cmp, PY.es_chain, PY.es_and, PY.es_or, PY.es_ite, PY.es_tup, PY.es_lst, PY.es_idx, PY.es_slc, PY.es_rev, PY.es_call, PY.es_make, PY.es_bc, PY.es_bm, PY.es_meth, PY.es_attr, PY.es_isi, PY.es_comp, PY.es_frz, PY.e_attr, PY.e_make, PY.e_isi, PY.e_bm, PY.w_rev, PY.w_frz, PY.w_comp, PY.w_csn, PY.w_csc, PY.w_i_e, PY.w_i_range, PY.rng_1, PY.rng_2, PY.slc_str, PY.toI, PY.w_i_enum, PY.w_for, PY.itm_tup, PY.itm_list, PY.itm_scr, PY.itm_str, PY.itN_tup, PY.chk_none, PY.sq_tup, PY.sq_list, PY.bin_L, PY.bin_T, PY.bc_strI, PY.bc_strS, PY.bc_tupL, PY.bc_tupT, PY.bc_max2, PY.bc_min2, PY.e_v, PY.e_c, PY.e_bin, PY.e_un, PY.e_cmp, PY.e_idx, PY.e_bc, PY.e_call, PY.e_lst, PY.e_tup, PY.e_or, PY.e_and, PY.or1, PY.and1, PY.e_slc, PY.o_none, PY.o_some, PY.s_set, PY.s_ret, PY.s_expr, PY.getV_0, PY.getV_s, PY.bin_add, PY.bin_sub, PY.bin_mul, PY.bin_fdiv, PY.bin_mod, PY.bin_pow, PY.bin_cat, PY.cmp_lt, PY.cmp_le, PY.cmp_gt, PY.cmp_ge, PY.un_not, PY.un_neg, PY.idx_tup, PY.idx_list, PY.idx_scr, PY.bc_int, PY.bc_abs, PY.bc_divmod, PY.bc_lenS, PY.bc_lenT, PY.bc_lenL, PY.bc_lenC, PY.a_tup, PY.as_nil, PY.as_cons, PY.okE, PY.bindE, PY.flE, PY.rtE, PY.nxE, PY.opt_s, PY.bind_ok, PY.fl_ok, PY.cm_lt, PY.cm_le, PY.cm_gt, PY.cm_ge, PY.cm_is, PY.cm_isn, PY.cm_in, PY.cm_nin, PY.cm_eqI, PY.cm_neI, PY.cm_eqS, PY.cm_neS, PY.cm_eqL, PY.cm_neL, PY.cm_eqT, PY.cm_neT, PY.cmp_eqS, PY.cmp_neS, PY.cmp_eqI, PY.cmp_neI, PY.cmp_inT, PY.ifQ_t, PY.ifQ_f, PY.tr_b, PY.tr_i, PY.tr_s, PY.tr_n, PY.isi_ii, PY.isi_bi, PY.isi_ss, PY.isi_tt, Option.map_some, PY.atI_0, PY.atI_1, PY.atI_2, PY.atI_3, PY.atI_4, PY.atI_5, List.set_cons_zero, List.set_cons_succ, fn31]
  refine ⟨by simp [sl], by simp [sl], ?_⟩
  refine forM_map (enc := partD) (I := fun r env hh => ∃ (F : List (Int × Int × Int)) (k an far : Int) (o5 o6 : Option D), F ++ hrs r k an far = hrs ps 0 0 0 ∧ hh = h ++ [.lst (F.map hrD)] ∧
      env = [some (.tup (ps.map partD)), some (.ref h.length), some (.int k), some (.int an), some (.int far), o5, o6]) (fun _ _ _ _ => rfl) ?_ ?_ ⟨[], 0, 0, 0, none, none, rfl, rfl, rfl⟩
  · rintro a r env hh ⟨F, k, an, far, o5, o6, eF, rfl, rfl⟩
    show wF (evSs _ _ _ [some (.tup (ps.map partD)), some (.ref h.length), some (.int k), some (.int an), some (.int far), some (partD a), o6] _) _ _
    have fl : F.length + (r.length + 1) ≤ 8 := by
      have := congrArg List.length eF
      rw [List.length_append, hrs_len, hrs_len, List.length_cons] at this
      omega
    refine w_cut (fun env hh => hh = h ++ [.lst (F.map hrD)] ∧ env = [some (.tup (ps.map partD)), some (.ref h.length), some (.int (if a.click then k + 1 else k)), some (.int (if a.click then 0 else an)), some (.int (if a.click then 0 else far)), some (partD a), o6]) ?_ ?_
    · simp only [PY.wSs, PY.wSn, PY.w_if, PY.w_and2, PY.w_or2, PY.w_ite, PY.w_chain, PY.w_opt_s, PY.w_guard, PY.w_set_n0, PY.w_set_ns, PY.w_aug, PY.aug_add, PY.aug_sub, PY.idx_l0, PY.idx_l1, PY.idx_p0, PY.idx_p1, PY.idx_p2, PY.idx_p3, PY.idx_p4, PY.idx_p5, PY.w_mkLf, PY.w_mkLt, PY.es_star, PY.ks_cons, PY.ks_nil, PY.es_nil, PY.es_v, PY.es_c, PY.es_g, PY.es_bin, PY.es_un, PY.es_cmp, PY.es_chain, PY.es_and, PY.es_or, PY.es_ite, PY.es_tup, PY.es_lst, PY.es_idx, PY.es_slc, PY.es_rev, PY.es_call, PY.es_make, PY.es_bc, PY.es_bm, PY.es_meth, PY.es_attr, PY.es_isi, PY.es_comp, PY.es_frz, PY.e_attr, PY.e_make, PY.e_isi, PY.e_bm, PY.w_rev, PY.w_frz, PY.w_comp, PY.w_csn, PY.w_csc, PY.w_i_e, PY.w_i_range, PY.rng_1, PY.rng_2, PY.slc_str, PY.toI, PY.w_i_enum, PY.w_for, PY.itm_tup, PY.itm_list, PY.itm_scr, PY.itm_str, PY.itN_tup, PY.chk_none, PY.sq_tup, PY.sq_list, PY.bin_L, PY.bin_T, PY.bc_strI, PY.bc_strS, PY.bc_tupL, PY.bc_tupT, PY.bc_max2, PY.bc_min2, PY.e_v, PY.e_c, PY.e_bin, PY.e_un, PY.e_cmp, PY.e_idx, PY.e_bc, PY.e_call, PY.e_lst, PY.e_tup, PY.e_or, PY.e_and, PY.or1, PY.and1, PY.e_slc, PY.o_none, PY.o_some, PY.s_set, PY.s_ret, PY.s_expr, PY.getV_0, PY.getV_s, PY.bin_add, PY.bin_sub, PY.bin_mul, PY.bin_fdiv, PY.bin_mod, PY.bin_pow, PY.bin_cat, PY.cmp_lt, PY.cmp_le, PY.cmp_gt, PY.cmp_ge, PY.un_not, PY.un_neg, PY.idx_tup, PY.idx_list, PY.idx_scr, PY.bc_int, PY.bc_abs, PY.bc_divmod, PY.bc_lenS, PY.bc_lenT, PY.bc_lenL, PY.bc_lenC, PY.a_tup, PY.as_nil, PY.as_cons, PY.okE, PY.bindE, PY.flE, PY.rtE, PY.nxE, PY.opt_s, PY.bind_ok, PY.fl_ok, PY.cm_lt, PY.cm_le, PY.cm_gt, PY.cm_ge, PY.cm_is, PY.cm_isn, PY.cm_in, PY.cm_nin, PY.cm_eqI, PY.cm_neI, PY.cm_eqS, PY.cm_neS, PY.cm_eqL, PY.cm_neL, PY.cm_eqT, PY.cm_neT, PY.cmp_eqS, PY.cmp_neS, PY.cmp_eqI, PY.cmp_neI, PY.cmp_inT, PY.ifQ_t, PY.ifQ_f, PY.tr_b, PY.tr_i, PY.tr_s, PY.tr_n, PY.isi_ii, PY.isi_bi, PY.isi_ss, PY.isi_tt, Option.map_some, PY.atI_0, PY.atI_1, PY.atI_2, PY.atI_3, PY.atI_4, PY.atI_5, List.set_cons_zero, List.set_cons_succ, ifQ_d]
      refine ⟨fun z => ?_, fun z => ?_⟩
      · have hc : a.click = true := decide_eq_true z
        simp [hc, sl]
      · have hc : a.click = false := decide_eq_false z
        simp [hc]
    rintro env hh ⟨rfl, rfl⟩
    refine w_cut (fun env hh => hh = h ++ [.lst (F.map hrD)] ∧ env = [some (.tup (ps.map partD)), some (.ref h.length), some (.int (if a.click then k + 1 else k)), some (.int (if a.s = "after" then (if a.click then 0 else far) else (if a.click then 0 else an))), some (.int (if a.click then 0 else far)), some (partD a), o6]) ?_ ?_
    · simp only [PY.wSs, PY.wSn, PY.w_if, PY.w_and2, PY.w_or2, PY.w_ite, PY.w_chain, PY.w_opt_s, PY.w_guard, PY.w_set_n0, PY.w_set_ns, PY.w_aug, PY.aug_add, PY.aug_sub, PY.idx_l0, PY.idx_l1, PY.idx_p0, PY.idx_p1, PY.idx_p2, PY.idx_p3, PY.idx_p4, PY.idx_p5, PY.w_mkLf, PY.w_mkLt, PY.es_star, PY.ks_cons, PY.ks_nil, PY.es_nil, PY.es_v, PY.es_c, PY.es_g, PY.es_bin, PY.es_un, PY.es_cmp, PY.es_chain, PY.es_and, PY.es_or, PY.es_ite, PY.es_tup, PY.es_lst, PY.es_idx, PY.es_slc, PY.es_rev, PY.es_call, PY.es_make, PY.es_bc, PY.es_bm, PY.es_meth, PY.es_attr, PY.es_isi, PY.es_comp, PY.es_frz, PY.e_attr, PY.e_make, PY.e_isi, PY.e_bm, PY.w_rev, PY.w_frz, PY.w_comp, PY.w_csn, PY.w_csc, PY.w_i_e, PY.w_i_range, PY.rng_1, PY.rng_2, PY.slc_str, PY.toI, PY.w_i_enum, PY.w_for, PY.itm_tup, PY.itm_list, PY.itm_scr, PY.itm_str, PY.itN_tup, PY.chk_none, PY.sq_tup, PY.sq_list, PY.bin_L, PY.bin_T, PY.bc_strI, PY.bc_strS, PY.bc_tupL, PY.bc_tupT, PY.bc_max2, PY.bc_min2, PY.e_v, PY.e_c, PY.e_bin, PY.e_un, PY.e_cmp, PY.e_idx, PY.e_bc, PY.e_call, PY.e_lst, PY.e_tup, PY.e_or, PY.e_and, PY.or1, PY.and1, PY.e_slc, PY.o_none, PY.o_some, PY.s_set, PY.s_ret, PY.s_expr, PY.getV_0, PY.getV_s, PY.bin_add, PY.bin_sub, PY.bin_mul, PY.bin_fdiv, PY.bin_mod, PY.bin_pow, PY.bin_cat, PY.cmp_lt, PY.cmp_le, PY.cmp_gt, PY.cmp_ge, PY.un_not, PY.un_neg, PY.idx_tup, PY.idx_list, PY.idx_scr, PY.bc_int, PY.bc_abs, PY.bc_divmod, PY.bc_lenS, PY.bc_lenT, PY.bc_lenL, PY.bc_lenC, PY.a_tup, PY.as_nil, PY.as_cons, PY.okE, PY.bindE, PY.flE, PY.rtE, PY.nxE, PY.opt_s, PY.bind_ok, PY.fl_ok, PY.cm_lt, PY.cm_le, PY.cm_gt, PY.cm_ge, PY.cm_is, PY.cm_isn, PY.cm_in, PY.cm_nin, PY.cm_eqI, PY.cm_neI, PY.cm_eqS, PY.cm_neS, PY.cm_eqL, PY.cm_neL, PY.cm_eqT, PY.cm_neT, PY.cmp_eqS, PY.cmp_neS, PY.cmp_eqI, PY.cmp_neI, PY.cmp_inT, PY.ifQ_t, PY.ifQ_f, PY.tr_b, PY.tr_i, PY.tr_s, PY.tr_n, PY.isi_ii, PY.isi_bi, PY.isi_ss, PY.isi_tt, Option.map_some, PY.atI_0, PY.atI_1, PY.atI_2, PY.atI_3, PY.atI_4, PY.atI_5, List.set_cons_zero, List.set_cons_succ, ifQ_d]
      refine ⟨fun z => ?_, fun z => ?_⟩ <;> simp [z]
    rintro env hh ⟨rfl, rfl⟩
    rw [hrs] at eF
    generalize (if a.s = Str.ofString "after" then (if a.click then (0 : Int) else far) else (if a.click then 0 else an)) = av at eF ⊢
    generalize (if a.click then k + 1 else k) = kv at eF ⊢
    generalize (if a.click then (0 : Int) else far) = fv at eF ⊢
    simp only [PY.wSs, PY.wSn, PY.w_if, PY.w_and2, PY.w_or2, PY.w_ite, PY.w_chain, PY.w_opt_s, PY.w_guard, PY.w_set_n0, PY.w_set_ns, PY.w_aug, PY.aug_add, PY.aug_sub, PY.idx_l0, PY.idx_l1, PY.idx_p0, PY.idx_p1, PY.idx_p2, PY.idx_p3, PY.idx_p4, PY.idx_p5, PY.w_mkLf, PY.w_mkLt, PY.es_star, PY.ks_cons, PY.ks_nil, PY.es_nil, PY.es_v, PY.es_c, PY.es_g, PY.es_bin, PY.es_un, PY.es_cmp, PY.es_chain, PY.es_and, PY.es_or, PY.es_ite, PY.es_tup, PY.es_lst, PY.es_idx, PY.es_slc, PY.es_rev, PY.es_call, PY.es_make, PY.es_bc, PY.es_bm, PY.es_meth, PY.es_attr, PY.es_isi, PY.es_comp, PY.es_frz, PY.e_attr, PY.e_make, PY.e_isi, PY.e_bm, PY.w_rev, PY.w_frz, PY.w_comp, PY.w_csn, PY.w_csc, PY.w_i_e, PY.w_i_range, PY.rng_1, PY.rng_2, PY.slc_str, PY.toI, PY.w_i_enum, PY.w_for, PY.itm_tup, PY.itm_list, PY.itm_scr, PY.itm_str, PY.itN_tup, PY.chk_none, PY.sq_tup, PY.sq_list, PY.bin_L, PY.bin_T, PY.bc_strI, PY.bc_strS, PY.bc_tupL, PY.bc_tupT, PY.bc_max2, PY.bc_min2, PY.e_v, PY.e_c, PY.e_bin, PY.e_un, PY.e_cmp, PY.e_idx, PY.e_bc, PY.e_call, PY.e_lst, PY.e_tup, PY.e_or, PY.e_and, PY.or1, PY.and1, PY.e_slc, PY.o_none, PY.o_some, PY.s_set, PY.s_ret, PY.s_expr, PY.getV_0, PY.getV_s, PY.bin_add, PY.bin_sub, PY.bin_mul, PY.bin_fdiv, PY.bin_mod, PY.bin_pow, PY.bin_cat, PY.cmp_lt, PY.cmp_le, PY.cmp_gt, PY.cmp_ge, PY.un_not, PY.un_neg, PY.idx_tup, PY.idx_list, PY.idx_scr, PY.bc_int, PY.bc_abs, PY.bc_divmod, PY.bc_lenS, PY.bc_lenT, PY.bc_lenL, PY.bc_lenC, PY.a_tup, PY.as_nil, PY.as_cons, PY.okE, PY.bindE, PY.flE, PY.rtE, PY.nxE, PY.opt_s, PY.bind_ok, PY.fl_ok, PY.cm_lt, PY.cm_le, PY.cm_gt, PY.cm_ge, PY.cm_is, PY.cm_isn, PY.cm_in, PY.cm_nin, PY.cm_eqI, PY.cm_neI, PY.cm_eqS, PY.cm_neS, PY.cm_eqL, PY.cm_neL, PY.cm_eqT, PY.cm_neT, PY.cmp_eqS, PY.cmp_neS, PY.cmp_eqI, PY.cmp_neI, PY.cmp_inT, PY.ifQ_t, PY.ifQ_f, PY.tr_b, PY.tr_i, PY.tr_s, PY.tr_n, PY.isi_ii, PY.isi_bi, PY.isi_ss, PY.isi_tt, Option.map_some, PY.atI_0, PY.atI_1, PY.atI_2, PY.atI_3, PY.atI_4, PY.atI_5, List.set_cons_zero, List.set_cons_succ, rc_app (last_get rfl), w_app (last_get rfl), last_set rfl]
    refine ⟨trivial, by simp [sl], by rw [List.length_map]; omega, F ++ [(kv, av + a.d, av + a.d + a.l)], kv, av, max fv (av + a.d + a.l), some (partD a), some (.int (av + a.d)), by rw [← eF, List.append_assoc]; rfl, ?_, ?_⟩
    · rw [List.map_append]
      rfl
    · have emx : (if av + a.d + a.l > fv then av + a.d + a.l else fv) = max fv (av + a.d + a.l) := by
        generalize av + a.d + a.l = z
        split <;> omega
      rw [emx]
  · rintro env hh ⟨F, k, an, far, o5, o6, eF, rfl, rfl⟩
    have : F = hrs ps 0 0 0 := by rw [← eF]; simp [hrs]
    subst this
    simp only [PY.wSs, PY.wSn, PY.w_if, PY.w_and2, PY.w_or2, PY.w_ite, PY.w_chain, PY.w_opt_s, PY.w_guard, PY.w_set_n0, PY.w_set_ns, PY.w_aug, PY.aug_add, PY.aug_sub, PY.idx_l0, PY.idx_l1, PY.idx_p0, PY.idx_p1, PY.idx_p2, PY.idx_p3, PY.idx_p4, PY.idx_p5, PY.w_mkLf, PY.w_mkLt, PY.es_star, PY.ks_cons, PY.ks_nil, PY.es_nil, PY.es_v, PY.es_c, PY.es_g, PY.es_bin, PY.es_un, PY.es_cmp, PY.es_chain, PY.es_and, PY.es_or, PY.es_ite, PY.es_tup, PY.es_lst, PY.es_idx, PY.es_slc, PY.es_rev, PY.es_call, PY.es_make, PY.es_bc, PY.es_bm, PY.es_meth, PY.es_attr, PY.es_isi, PY.es_comp, PY.es_frz, PY.e_attr, PY.e_make, PY.e_isi, PY.e_bm, PY.w_rev, PY.w_frz, PY.w_comp, PY.w_csn, PY.w_csc, PY.w_i_e, PY.w_i_range, PY.rng_1, PY.rng_2, PY.slc_str, PY.toI, PY.w_i_enum, PY.w_for, PY.itm_tup, PY.itm_list, PY.itm_scr, PY.itm_str, PY.itN_tup, PY.chk_none, PY.sq_tup, PY.sq_list, PY.bin_L, PY.bin_T, PY.bc_strI, PY.bc_strS, PY.bc_tupL, PY.bc_tupT, PY.bc_max2, PY.bc_min2, PY.e_v, PY.e_c, PY.e_bin, PY.e_un, PY.e_cmp, PY.e_idx, PY.e_bc, PY.e_call, PY.e_lst, PY.e_tup, PY.e_or, PY.e_and, PY.or1, PY.and1, PY.e_slc, PY.o_none, PY.o_some, PY.s_set, PY.s_ret, PY.s_expr, PY.getV_0, PY.getV_s, PY.bin_add, PY.bin_sub, PY.bin_mul, PY.bin_fdiv, PY.bin_mod, PY.bin_pow, PY.bin_cat, PY.cmp_lt, PY.cmp_le, PY.cmp_gt, PY.cmp_ge, PY.un_not, PY.un_neg, PY.idx_tup, PY.idx_list, PY.idx_scr, PY.bc_int, PY.bc_abs, PY.bc_divmod, PY.bc_lenS, PY.bc_lenT, PY.bc_lenL, PY.bc_lenC, PY.a_tup, PY.as_nil, PY.as_cons, PY.okE, PY.bindE, PY.flE, PY.rtE, PY.nxE, PY.opt_s, PY.bind_ok, PY.fl_ok, PY.cm_lt, PY.cm_le, PY.cm_gt, PY.cm_ge, PY.cm_is, PY.cm_isn, PY.cm_in, PY.cm_nin, PY.cm_eqI, PY.cm_neI, PY.cm_eqS, PY.cm_neS, PY.cm_eqL, PY.cm_neL, PY.cm_eqT, PY.cm_neT, PY.cmp_eqS, PY.cmp_neS, PY.cmp_eqI, PY.cmp_neI, PY.cmp_inT, PY.ifQ_t, PY.ifQ_f, PY.tr_b, PY.tr_i, PY.tr_s, PY.tr_n, PY.isi_ii, PY.isi_bi, PY.isi_ss, PY.isi_tt, Option.map_some, PY.atI_0, PY.atI_1, PY.atI_2, PY.atI_3, PY.atI_4, PY.atI_5, List.set_cons_zero, List.set_cons_succ, last_get rfl, last_set rfl]
    rw [tr_app (by simp only [D.lt]; exact hrs_lt)]
    exact ⟨rfl, rfl⟩
end K12
end
section
set_option Elab.async false
set_option linter.all false
set_option maxRecDepth 100000
set_option maxHeartbeats 2000000
namespace K12
open PySem PyProof.Rows PY L12
theorem idx_r0 {p : Int × Int} {h : Hh} : idxD (prI p) (.int 0) h = .ok (.int p.1) h := by rw [prI, idx_tup, atI_0, opt_s]
theorem idx_r1 {p : Int × Int} {h : Hh} : idxD (pairI p) (.int 1) h = .ok (.int p.2) h := by rw [pairI, idx_tup, atI_1, opt_s]
theorem latest {n : Nat} {ps : List Part} {own is : List Int} {i : Int} {h : Hh} (eo : own = i :: is) (b : ∀ j ∈ own, 0 ≤ j ∧ j < ps.length) (ol : own.length ≤ 8) :
    PY.run prg (n + 1) 18 [.list (own.map D.int), .tup ((tmw ps 0 0).map prI)] h = .ok (.int (maxP (kyAt ps i) (is.map (kyAt ps))).2) h := by
  refine okR_eq ?_
  have sl := sizeLine_eq
  rw [r_18]
  simp only [PY.wSs, PY.wSn, PY.w_if, PY.w_and2, PY.w_or2, PY.w_ite, PY.w_chain, PY.w_opt_s, PY.w_guard, PY.w_set_n0, PY.w_set_ns, PY.w_aug, PY.aug_add, PY.aug_sub, PY.idx_l0, PY.idx_l1, PY.idx_p0, PY.idx_p1, PY.idx_p2, PY.idx_p3, PY.idx_p4, PY.idx_p5, PY.w_mkLf, PY.w_mkLt, PY.es_star, PY.ks_cons, PY.ks_nil, PY.es_nil, PY.es_v, PY.es_c, PY.es_g, PY.es_bin, PY.es_un, PY.es_cmp, PY.es_chain, PY.es_and, PY.es_or, PY.es_ite, PY.es_tup, PY.es_lst, PY.es_idx, PY.es_slc, PY.es_rev, PY.es_call, PY.es_make, PY.es_bc, PY.es_bm, PY.es_meth, PY.es_attr, PY.es_isi, PY.es_comp, PY.es_frz, PY.e_attr, PY.e_make, PY.e_isi, PY.e_bm, PY.w_rev, PY.w_frz, PY.w_comp, PY.w_csn, PY.w_csc, PY.w_i_e, PY.w_i_range, PY.rng_1, PY.rng_2, PY.slc_str, PY.toI, PY.w_i_enum, PY.w_for, PY.itm_tup, PY.itm_list, PY.itm_scr, PY.itm_str, PY.itN_tup, PY.chk_none, PY.sq_tup, PY.sq_list, PY.bin_L, PY.bin_T, PY.bc_strI, PY.bc_strS, PY.bc_tupL, PY.bc_tupT, PY.bc_max2, PY.bc_min2, PY.e_v, PY.e_c, PY.e_bin, PY.e_un, PY.e_cmp, PY.e_idx, PY.e_bc, PY.e_call, PY.e_lst, PY.e_tup, PY.e_or, PY.e_and, PY.or1, PY.and1, PY.e_slc, PY.o_none, PY.o_some, PY.s_set, PY.s_ret, PY.s_expr, PY.getV_0, PY.getV_s, PY.bin_add, PY.bin_sub, PY.bin_mul, PY.bin_fdiv, PY.bin_mod, PY.bin_pow, PY.bin_cat, PY.cmp_lt, PY.cmp_le, PY.cmp_gt, PY.cmp_ge, PY.un_not, PY.un_neg, PY.idx_tup, PY.idx_list, PY.idx_scr, PY.bc_int, PY.bc_abs, PY.bc_divmod, PY.bc_lenS, PY.bc_lenT, PY.bc_lenL, PY.bc_lenC, PY.a_tup, PY.as_nil, PY.as_cons, PY.okE, PY.bindE, PY.flE, PY.rtE, PY.nxE, PY.opt_s, PY.bind_ok, PY.fl_ok, PY.cm_lt, PY.cm_le, PY.cm_gt, PY.cm_ge, PY.cm_is, PY.cm_isn, PY.cm_in, PY.cm_nin, PY.cm_eqI, PY.cm_neI, PY.cm_eqS, PY.cm_neS, PY.cm_eqL, PY.cm_neL, PY.cm_eqT, PY.cm_neT, PY.cmp_eqS, PY.cmp_neS, PY.cmp_eqI, PY.cmp_neI, PY.cmp_inT, PY.ifQ_t, PY.ifQ_f, PY.tr_b, PY.tr_i, PY.tr_s, PY.tr_n, PY.isi_ii, PY.isi_bi, PY.isi_ss, PY.isi_tt, Option.map_some, PY.atI_0, PY.atI_1, PY.atI_2, PY.atI_3, PY.atI_4, PY.atI_5, List.set_cons_zero, List.set_cons_succ, fn18]
  refine w_cmap (k := fun j => pairI (kyAt ps j)) (fun j mj => ?_) ?_
  · rw [w_cB (env' := [some (.list (own.map D.int)), some (.tup ((tmw ps 0 0).map prI)), some (.int j)]) rfl]
    obtain ⟨e, ej⟩ := atI_tm (b j mj).1 (b j mj).2
    simp only [PY.wSs, PY.wSn, PY.w_if, PY.w_and2, PY.w_or2, PY.w_ite, PY.w_chain, PY.w_opt_s, PY.w_guard, PY.w_set_n0, PY.w_set_ns, PY.w_aug, PY.aug_add, PY.aug_sub, PY.idx_l0, PY.idx_l1, PY.idx_p0, PY.idx_p1, PY.idx_p2, PY.idx_p3, PY.idx_p4, PY.idx_p5, PY.w_mkLf, PY.w_mkLt, PY.es_star, PY.ks_cons, PY.ks_nil, PY.es_nil, PY.es_v, PY.es_c, PY.es_g, PY.es_bin, PY.es_un, PY.es_cmp, PY.es_chain, PY.es_and, PY.es_or, PY.es_ite, PY.es_tup, PY.es_lst, PY.es_idx, PY.es_slc, PY.es_rev, PY.es_call, PY.es_make, PY.es_bc, PY.es_bm, PY.es_meth, PY.es_attr, PY.es_isi, PY.es_comp, PY.es_frz, PY.e_attr, PY.e_make, PY.e_isi, PY.e_bm, PY.w_rev, PY.w_frz, PY.w_comp, PY.w_csn, PY.w_csc, PY.w_i_e, PY.w_i_range, PY.rng_1, PY.rng_2, PY.slc_str, PY.toI, PY.w_i_enum, PY.w_for, PY.itm_tup, PY.itm_list, PY.itm_scr, PY.itm_str, PY.itN_tup, PY.chk_none, PY.sq_tup, PY.sq_list, PY.bin_L, PY.bin_T, PY.bc_strI, PY.bc_strS, PY.bc_tupL, PY.bc_tupT, PY.bc_max2, PY.bc_min2, PY.e_v, PY.e_c, PY.e_bin, PY.e_un, PY.e_cmp, PY.e_idx, PY.e_bc, PY.e_call, PY.e_lst, PY.e_tup, PY.e_or, PY.e_and, PY.or1, PY.and1, PY.e_slc, PY.o_none, PY.o_some, PY.s_set, PY.s_ret, PY.s_expr, PY.getV_0, PY.getV_s, PY.bin_add, PY.bin_sub, PY.bin_mul, PY.bin_fdiv, PY.bin_mod, PY.bin_pow, PY.bin_cat, PY.cmp_lt, PY.cmp_le, PY.cmp_gt, PY.cmp_ge, PY.un_not, PY.un_neg, PY.idx_tup, PY.idx_list, PY.idx_scr, PY.bc_int, PY.bc_abs, PY.bc_divmod, PY.bc_lenS, PY.bc_lenT, PY.bc_lenL, PY.bc_lenC, PY.a_tup, PY.as_nil, PY.as_cons, PY.okE, PY.bindE, PY.flE, PY.rtE, PY.nxE, PY.opt_s, PY.bind_ok, PY.fl_ok, PY.cm_lt, PY.cm_le, PY.cm_gt, PY.cm_ge, PY.cm_is, PY.cm_isn, PY.cm_in, PY.cm_nin, PY.cm_eqI, PY.cm_neI, PY.cm_eqS, PY.cm_neS, PY.cm_eqL, PY.cm_neL, PY.cm_eqT, PY.cm_neT, PY.cmp_eqS, PY.cmp_neS, PY.cmp_eqI, PY.cmp_neI, PY.cmp_inT, PY.ifQ_t, PY.ifQ_f, PY.tr_b, PY.tr_i, PY.tr_s, PY.tr_n, PY.isi_ii, PY.isi_bi, PY.isi_ss, PY.isi_tt, Option.map_some, PY.atI_0, PY.atI_1, PY.atI_2, PY.atI_3, PY.atI_4, PY.atI_5, List.set_cons_zero, List.set_cons_succ, ej, idx_r0]
    simp [sl, pairI, kyAt]
  · have e1 : own.map (fun j => pairI (kyAt ps j)) = pairI (kyAt ps i) :: (is.map (kyAt ps)).map pairI := by rw [eo, List.map_map]; rfl
    have e2 : (own.map (fun j => pairI (kyAt ps j))).length = own.length := List.length_map _
    refine ⟨by first | rfl | trivial, ?_⟩
    rw [e1] at e2 ⊢
    simp only [PY.wSs, PY.wSn, PY.w_if, PY.w_and2, PY.w_or2, PY.w_ite, PY.w_chain, PY.w_opt_s, PY.w_guard, PY.w_set_n0, PY.w_set_ns, PY.w_aug, PY.aug_add, PY.aug_sub, PY.idx_l0, PY.idx_l1, PY.idx_p0, PY.idx_p1, PY.idx_p2, PY.idx_p3, PY.idx_p4, PY.idx_p5, PY.w_mkLf, PY.w_mkLt, PY.es_star, PY.ks_cons, PY.ks_nil, PY.es_nil, PY.es_v, PY.es_c, PY.es_g, PY.es_bin, PY.es_un, PY.es_cmp, PY.es_chain, PY.es_and, PY.es_or, PY.es_ite, PY.es_tup, PY.es_lst, PY.es_idx, PY.es_slc, PY.es_rev, PY.es_call, PY.es_make, PY.es_bc, PY.es_bm, PY.es_meth, PY.es_attr, PY.es_isi, PY.es_comp, PY.es_frz, PY.e_attr, PY.e_make, PY.e_isi, PY.e_bm, PY.w_rev, PY.w_frz, PY.w_comp, PY.w_csn, PY.w_csc, PY.w_i_e, PY.w_i_range, PY.rng_1, PY.rng_2, PY.slc_str, PY.toI, PY.w_i_enum, PY.w_for, PY.itm_tup, PY.itm_list, PY.itm_scr, PY.itm_str, PY.itN_tup, PY.chk_none, PY.sq_tup, PY.sq_list, PY.bin_L, PY.bin_T, PY.bc_strI, PY.bc_strS, PY.bc_tupL, PY.bc_tupT, PY.bc_max2, PY.bc_min2, PY.e_v, PY.e_c, PY.e_bin, PY.e_un, PY.e_cmp, PY.e_idx, PY.e_bc, PY.e_call, PY.e_lst, PY.e_tup, PY.e_or, PY.e_and, PY.or1, PY.and1, PY.e_slc, PY.o_none, PY.o_some, PY.s_set, PY.s_ret, PY.s_expr, PY.getV_0, PY.getV_s, PY.bin_add, PY.bin_sub, PY.bin_mul, PY.bin_fdiv, PY.bin_mod, PY.bin_pow, PY.bin_cat, PY.cmp_lt, PY.cmp_le, PY.cmp_gt, PY.cmp_ge, PY.un_not, PY.un_neg, PY.idx_tup, PY.idx_list, PY.idx_scr, PY.bc_int, PY.bc_abs, PY.bc_divmod, PY.bc_lenS, PY.bc_lenT, PY.bc_lenL, PY.bc_lenC, PY.a_tup, PY.as_nil, PY.as_cons, PY.okE, PY.bindE, PY.flE, PY.rtE, PY.nxE, PY.opt_s, PY.bind_ok, PY.fl_ok, PY.cm_lt, PY.cm_le, PY.cm_gt, PY.cm_ge, PY.cm_is, PY.cm_isn, PY.cm_in, PY.cm_nin, PY.cm_eqI, PY.cm_neI, PY.cm_eqS, PY.cm_neS, PY.cm_eqL, PY.cm_neL, PY.cm_eqT, PY.cm_neT, PY.cmp_eqS, PY.cmp_neS, PY.cmp_eqI, PY.cmp_neI, PY.cmp_inT, PY.ifQ_t, PY.ifQ_f, PY.tr_b, PY.tr_i, PY.tr_s, PY.tr_n, PY.isi_ii, PY.isi_bi, PY.isi_ss, PY.isi_tt, Option.map_some, PY.atI_0, PY.atI_1, PY.atI_2, PY.atI_3, PY.atI_4, PY.atI_5, List.set_cons_zero, List.set_cons_succ, bc_maxP, idx_r1]
    refine ⟨by omega, ?_⟩
    exact ⟨by first | rfl | trivial, by first | rfl | trivial⟩
theorem rest_of {n : Nat} {m : Str} {ls : List (Str × Int)} {ps : List Part} {h : Hh} {k : Nat} (l8 : ps.length ≤ 8) (l3 : ls.length ≤ 3) :
    PY.run prg (n + 4) 19 [sld m ls ps, .int k] h = .ok (.tup ((restL ls ps ((gidx 0 (segs ps)).take (k + 1))).map D.int)) h := by
  refine okR_eq ?_
  have sl := sizeLine_eq
  rw [r_19]
  simp only [PY.wSs, PY.wSn, PY.w_if, PY.w_and2, PY.w_or2, PY.w_ite, PY.w_chain, PY.w_opt_s, PY.w_guard, PY.w_set_n0, PY.w_set_ns, PY.w_aug, PY.aug_add, PY.aug_sub, PY.idx_l0, PY.idx_l1, PY.idx_p0, PY.idx_p1, PY.idx_p2, PY.idx_p3, PY.idx_p4, PY.idx_p5, PY.w_mkLf, PY.w_mkLt, PY.es_star, PY.ks_cons, PY.ks_nil, PY.es_nil, PY.es_v, PY.es_c, PY.es_g, PY.es_bin, PY.es_un, PY.es_cmp, PY.es_chain, PY.es_and, PY.es_or, PY.es_ite, PY.es_tup, PY.es_lst, PY.es_idx, PY.es_slc, PY.es_rev, PY.es_call, PY.es_make, PY.es_bc, PY.es_bm, PY.es_meth, PY.es_attr, PY.es_isi, PY.es_comp, PY.es_frz, PY.e_attr, PY.e_make, PY.e_isi, PY.e_bm, PY.w_rev, PY.w_frz, PY.w_comp, PY.w_csn, PY.w_csc, PY.w_i_e, PY.w_i_range, PY.rng_1, PY.rng_2, PY.slc_str, PY.toI, PY.w_i_enum, PY.w_for, PY.itm_tup, PY.itm_list, PY.itm_scr, PY.itm_str, PY.itN_tup, PY.chk_none, PY.sq_tup, PY.sq_list, PY.bin_L, PY.bin_T, PY.bc_strI, PY.bc_strS, PY.bc_tupL, PY.bc_tupT, PY.bc_max2, PY.bc_min2, PY.e_v, PY.e_c, PY.e_bin, PY.e_un, PY.e_cmp, PY.e_idx, PY.e_bc, PY.e_call, PY.e_lst, PY.e_tup, PY.e_or, PY.e_and, PY.or1, PY.and1, PY.e_slc, PY.o_none, PY.o_some, PY.s_set, PY.s_ret, PY.s_expr, PY.getV_0, PY.getV_s, PY.bin_add, PY.bin_sub, PY.bin_mul, PY.bin_fdiv, PY.bin_mod, PY.bin_pow, PY.bin_cat, PY.cmp_lt, PY.cmp_le, PY.cmp_gt, PY.cmp_ge, PY.un_not, PY.un_neg, PY.idx_tup, PY.idx_list, PY.idx_scr, PY.bc_int, PY.bc_abs, PY.bc_divmod, PY.bc_lenS, PY.bc_lenT, PY.bc_lenL, PY.bc_lenC, PY.a_tup, PY.as_nil, PY.as_cons, PY.okE, PY.bindE, PY.flE, PY.rtE, PY.nxE, PY.opt_s, PY.bind_ok, PY.fl_ok, PY.cm_lt, PY.cm_le, PY.cm_gt, PY.cm_ge, PY.cm_is, PY.cm_isn, PY.cm_in, PY.cm_nin, PY.cm_eqI, PY.cm_neI, PY.cm_eqS, PY.cm_neS, PY.cm_eqL, PY.cm_neL, PY.cm_eqT, PY.cm_neT, PY.cmp_eqS, PY.cmp_neS, PY.cmp_eqI, PY.cmp_neI, PY.cmp_inT, PY.ifQ_t, PY.ifQ_f, PY.tr_b, PY.tr_i, PY.tr_s, PY.tr_n, PY.isi_ii, PY.isi_bi, PY.isi_ss, PY.isi_tt, Option.map_some, PY.atI_0, PY.atI_1, PY.atI_2, PY.atI_3, PY.atI_4, PY.atI_5, List.set_cons_zero, List.set_cons_succ, fn19, c_17, timing_of l8, am_channels, q_channels]
  refine ⟨by simp [sl], ?_⟩
  obtain ⟨tm, etm⟩ : ∃ tm, tm = D.tup ((tmw ps 0 0).map prI) := ⟨_, rfl⟩
  rw [← etm]
  obtain ⟨gs, egs⟩ : ∃ gs, gs = (gidx 0 (segs ps)).take (k + 1) := ⟨_, rfl⟩
  have gm : ∀ g ∈ gs, g ∈ gidx 0 (segs ps) := fun g m => by rw [egs] at m; exact List.mem_of_mem_take m
  rw [← egs]
  refine forM_map (enc := laneD) (I := fun r env hh => ∃ (dn : List (Str × Int)) (o4 o5 o6 o7 o8 : Option D), ls = dn ++ r ∧ hh = h ++ [.lst ((restL dn ps gs).map D.int)] ∧
      env = [some (sld m ls ps), some (.int k), some tm, some (.ref h.length), o4, o5, o6, o7, o8]) (fun _ _ _ _ => rfl) ?_ ?_ ⟨[], none, none, none, none, none, rfl, rfl, rfl⟩
  · rintro a r env hh ⟨dn, o4, o5, o6, o7, o8, els, rfl, rfl⟩
    show wF (evSs _ _ _ [some (sld m ls ps), some (.int k), some tm, some (.ref h.length), some (.str a.1), some (.int a.2), o6, o7, o8] _) _ _
    have dl : dn.length + 1 ≤ 3 := by
      rw [els, List.length_append, List.length_cons] at l3
      omega
    refine w_cut (fun env hh => ∃ (o6 o7 o8 : Option D), hh = h ++ [.lst ((restL dn ps gs).map D.int)] ∧ env = [some (sld m ls ps), some (.int k), some tm, some (.ref h.length), some (.str a.1), some (.int (restV ps gs a.1 a.2)), o6, o7, o8]) ?_ ?_
    · simp only [PY.wSs, PY.wSn, PY.w_if, PY.w_and2, PY.w_or2, PY.w_ite, PY.w_chain, PY.w_opt_s, PY.w_guard, PY.w_set_n0, PY.w_set_ns, PY.w_aug, PY.aug_add, PY.aug_sub, PY.idx_l0, PY.idx_l1, PY.idx_p0, PY.idx_p1, PY.idx_p2, PY.idx_p3, PY.idx_p4, PY.idx_p5, PY.w_mkLf, PY.w_mkLt, PY.es_star, PY.ks_cons, PY.ks_nil, PY.es_nil, PY.es_v, PY.es_c, PY.es_g, PY.es_bin, PY.es_un, PY.es_cmp, PY.es_chain, PY.es_and, PY.es_or, PY.es_ite, PY.es_tup, PY.es_lst, PY.es_idx, PY.es_slc, PY.es_rev, PY.es_call, PY.es_make, PY.es_bc, PY.es_bm, PY.es_meth, PY.es_attr, PY.es_isi, PY.es_comp, PY.es_frz, PY.e_attr, PY.e_make, PY.e_isi, PY.e_bm, PY.w_rev, PY.w_frz, PY.w_comp, PY.w_csn, PY.w_csc, PY.w_i_e, PY.w_i_range, PY.rng_1, PY.rng_2, PY.slc_str, PY.toI, PY.w_i_enum, PY.w_for, PY.itm_tup, PY.itm_list, PY.itm_scr, PY.itm_str, PY.itN_tup, PY.chk_none, PY.sq_tup, PY.sq_list, PY.bin_L, PY.bin_T, PY.bc_strI, PY.bc_strS, PY.bc_tupL, PY.bc_tupT, PY.bc_max2, PY.bc_min2, PY.e_v, PY.e_c, PY.e_bin, PY.e_un, PY.e_cmp, PY.e_idx, PY.e_bc, PY.e_call, PY.e_lst, PY.e_tup, PY.e_or, PY.e_and, PY.or1, PY.and1, PY.e_slc, PY.o_none, PY.o_some, PY.s_set, PY.s_ret, PY.s_expr, PY.getV_0, PY.getV_s, PY.bin_add, PY.bin_sub, PY.bin_mul, PY.bin_fdiv, PY.bin_mod, PY.bin_pow, PY.bin_cat, PY.cmp_lt, PY.cmp_le, PY.cmp_gt, PY.cmp_ge, PY.un_not, PY.un_neg, PY.idx_tup, PY.idx_list, PY.idx_scr, PY.bc_int, PY.bc_abs, PY.bc_divmod, PY.bc_lenS, PY.bc_lenT, PY.bc_lenL, PY.bc_lenC, PY.a_tup, PY.as_nil, PY.as_cons, PY.okE, PY.bindE, PY.flE, PY.rtE, PY.nxE, PY.opt_s, PY.bind_ok, PY.fl_ok, PY.cm_lt, PY.cm_le, PY.cm_gt, PY.cm_ge, PY.cm_is, PY.cm_isn, PY.cm_in, PY.cm_nin, PY.cm_eqI, PY.cm_neI, PY.cm_eqS, PY.cm_neS, PY.cm_eqL, PY.cm_neL, PY.cm_eqT, PY.cm_neT, PY.cmp_eqS, PY.cmp_neS, PY.cmp_eqI, PY.cmp_neI, PY.cmp_inT, PY.ifQ_t, PY.ifQ_f, PY.tr_b, PY.tr_i, PY.tr_s, PY.tr_n, PY.isi_ii, PY.isi_bi, PY.isi_ss, PY.isi_tt, Option.map_some, PY.atI_0, PY.atI_1, PY.atI_2, PY.atI_3, PY.atI_4, PY.atI_5, List.set_cons_zero, List.set_cons_succ, c_16, groups_of l8, slc_tup]
      have ec : cutD ((gidx 0 (segs ps)).map grD) none (some ((k : Int) + 1)) = gs.map grD := by
        have : (k : Int) + 1 = ((k + 1 : Nat) : Int) := by omega
        rw [this, cut_upto, ← List.map_take, egs]
      rw [ec]
      refine forM_map (enc := grD) (I := fun r env hh => ∃ (dg : List (List Int)) (o6 o7 o8 : Option D), gs = dg ++ r ∧ hh = h ++ [.lst ((restL dn ps gs).map D.int)] ∧
        env = [some (sld m ls ps), some (.int k), some tm, some (.ref h.length), some (.str a.1), some (.int (restV ps dg a.1 a.2)), o6, o7, o8]) (fun _ _ _ _ => rfl) ?_ ?_ ⟨[], o6, o7, o8, rfl, rfl, rfl⟩
      · rintro g r2 env hh ⟨dg, o6, o7, o8, eg, rfl, rfl⟩
        show wF (evSs _ _ _ [some (sld m ls ps), some (.int k), some tm, some (.ref h.length), some (.str a.1), some (.int (restV ps dg a.1 a.2)), some (grD g), o7, o8] _) _ _
        have gmem : g ∈ gidx 0 (segs ps) := gm g (by rw [eg]; simp)
        have gb := segs_in gmem
        have gl := segs_len gmem
        obtain ⟨own, eown⟩ : ∃ own, own = g.filter fun i => decide ((ptAt ps i).w = a.1) := ⟨_, rfl⟩
        have ol : own.length ≤ 8 := by
          have := List.length_filter_le (fun i => decide ((ptAt ps i).w = a.1)) g
          rw [eown]; omega
        have ob : ∀ j ∈ own, 0 ≤ j ∧ j < ps.length := fun j jm => gb j (by rw [eown] at jm; exact (List.mem_filter.mp jm).1)
        have est : restV ps (dg ++ [g]) a.1 a.2 = restG ps a.1 (restV ps dg a.1 a.2) g := by simp [restV, List.foldl_append]
        refine w_cut (fun env hh => hh = h ++ [.lst ((restL dn ps gs).map D.int)] ∧ env = [some (sld m ls ps), some (.int k), some tm, some (.ref h.length), some (.str a.1), some (.int (restV ps dg a.1 a.2)), some (grD g), some (.list (own.map D.int)), o8]) ?_ ?_
        · have it_gr : ∀ {h : Hh}, itemsOf h (grD g) = some (g.map D.int, none) := fun {h} => rfl
          simp only [PY.wSs, PY.wSn, PY.w_if, PY.w_and2, PY.w_or2, PY.w_ite, PY.w_chain, PY.w_opt_s, PY.w_guard, PY.w_set_n0, PY.w_set_ns, PY.w_aug, PY.aug_add, PY.aug_sub, PY.idx_l0, PY.idx_l1, PY.idx_p0, PY.idx_p1, PY.idx_p2, PY.idx_p3, PY.idx_p4, PY.idx_p5, PY.w_mkLf, PY.w_mkLt, PY.es_star, PY.ks_cons, PY.ks_nil, PY.es_nil, PY.es_v, PY.es_c, PY.es_g, PY.es_bin, PY.es_un, PY.es_cmp, PY.es_chain, PY.es_and, PY.es_or, PY.es_ite, PY.es_tup, PY.es_lst, PY.es_idx, PY.es_slc, PY.es_rev, PY.es_call, PY.es_make, PY.es_bc, PY.es_bm, PY.es_meth, PY.es_attr, PY.es_isi, PY.es_comp, PY.es_frz, PY.e_attr, PY.e_make, PY.e_isi, PY.e_bm, PY.w_rev, PY.w_frz, PY.w_comp, PY.w_csn, PY.w_csc, PY.w_i_e, PY.w_i_range, PY.rng_1, PY.rng_2, PY.slc_str, PY.toI, PY.w_i_enum, PY.w_for, PY.itm_tup, PY.itm_list, PY.itm_scr, PY.itm_str, PY.itN_tup, PY.chk_none, PY.sq_tup, PY.sq_list, PY.bin_L, PY.bin_T, PY.bc_strI, PY.bc_strS, PY.bc_tupL, PY.bc_tupT, PY.bc_max2, PY.bc_min2, PY.e_v, PY.e_c, PY.e_bin, PY.e_un, PY.e_cmp, PY.e_idx, PY.e_bc, PY.e_call, PY.e_lst, PY.e_tup, PY.e_or, PY.e_and, PY.or1, PY.and1, PY.e_slc, PY.o_none, PY.o_some, PY.s_set, PY.s_ret, PY.s_expr, PY.getV_0, PY.getV_s, PY.bin_add, PY.bin_sub, PY.bin_mul, PY.bin_fdiv, PY.bin_mod, PY.bin_pow, PY.bin_cat, PY.cmp_lt, PY.cmp_le, PY.cmp_gt, PY.cmp_ge, PY.un_not, PY.un_neg, PY.idx_tup, PY.idx_list, PY.idx_scr, PY.bc_int, PY.bc_abs, PY.bc_divmod, PY.bc_lenS, PY.bc_lenT, PY.bc_lenL, PY.bc_lenC, PY.a_tup, PY.as_nil, PY.as_cons, PY.okE, PY.bindE, PY.flE, PY.rtE, PY.nxE, PY.opt_s, PY.bind_ok, PY.fl_ok, PY.cm_lt, PY.cm_le, PY.cm_gt, PY.cm_ge, PY.cm_is, PY.cm_isn, PY.cm_in, PY.cm_nin, PY.cm_eqI, PY.cm_neI, PY.cm_eqS, PY.cm_neS, PY.cm_eqL, PY.cm_neL, PY.cm_eqT, PY.cm_neT, PY.cmp_eqS, PY.cmp_neS, PY.cmp_eqI, PY.cmp_neI, PY.cmp_inT, PY.ifQ_t, PY.ifQ_f, PY.tr_b, PY.tr_i, PY.tr_s, PY.tr_n, PY.isi_ii, PY.isi_bi, PY.isi_ss, PY.isi_tt, Option.map_some, PY.atI_0, PY.atI_1, PY.atI_2, PY.atI_3, PY.atI_4, PY.atI_5, List.set_cons_zero, List.set_cons_succ, it_gr]
          refine w_cfil (p := fun i => decide ((ptAt ps i).w = a.1)) (k := D.int) (fun j mj => ?_) ?_
          · rw [w_cB (env' := [some (sld m ls ps), some (.int k), some tm, some (.ref h.length), some (.str a.1), some (.int (restV ps dg a.1 a.2)), some (grD g), o7, some (.int j)]) rfl]
            simp only [PY.wSs, PY.wSn, PY.w_if, PY.w_and2, PY.w_or2, PY.w_ite, PY.w_chain, PY.w_opt_s, PY.w_guard, PY.w_set_n0, PY.w_set_ns, PY.w_aug, PY.aug_add, PY.aug_sub, PY.idx_l0, PY.idx_l1, PY.idx_p0, PY.idx_p1, PY.idx_p2, PY.idx_p3, PY.idx_p4, PY.idx_p5, PY.w_mkLf, PY.w_mkLt, PY.es_star, PY.ks_cons, PY.ks_nil, PY.es_nil, PY.es_v, PY.es_c, PY.es_g, PY.es_bin, PY.es_un, PY.es_cmp, PY.es_chain, PY.es_and, PY.es_or, PY.es_ite, PY.es_tup, PY.es_lst, PY.es_idx, PY.es_slc, PY.es_rev, PY.es_call, PY.es_make, PY.es_bc, PY.es_bm, PY.es_meth, PY.es_attr, PY.es_isi, PY.es_comp, PY.es_frz, PY.e_attr, PY.e_make, PY.e_isi, PY.e_bm, PY.w_rev, PY.w_frz, PY.w_comp, PY.w_csn, PY.w_csc, PY.w_i_e, PY.w_i_range, PY.rng_1, PY.rng_2, PY.slc_str, PY.toI, PY.w_i_enum, PY.w_for, PY.itm_tup, PY.itm_list, PY.itm_scr, PY.itm_str, PY.itN_tup, PY.chk_none, PY.sq_tup, PY.sq_list, PY.bin_L, PY.bin_T, PY.bc_strI, PY.bc_strS, PY.bc_tupL, PY.bc_tupT, PY.bc_max2, PY.bc_min2, PY.e_v, PY.e_c, PY.e_bin, PY.e_un, PY.e_cmp, PY.e_idx, PY.e_bc, PY.e_call, PY.e_lst, PY.e_tup, PY.e_or, PY.e_and, PY.or1, PY.and1, PY.e_slc, PY.o_none, PY.o_some, PY.s_set, PY.s_ret, PY.s_expr, PY.getV_0, PY.getV_s, PY.bin_add, PY.bin_sub, PY.bin_mul, PY.bin_fdiv, PY.bin_mod, PY.bin_pow, PY.bin_cat, PY.cmp_lt, PY.cmp_le, PY.cmp_gt, PY.cmp_ge, PY.un_not, PY.un_neg, PY.idx_tup, PY.idx_list, PY.idx_scr, PY.bc_int, PY.bc_abs, PY.bc_divmod, PY.bc_lenS, PY.bc_lenT, PY.bc_lenL, PY.bc_lenC, PY.a_tup, PY.as_nil, PY.as_cons, PY.okE, PY.bindE, PY.flE, PY.rtE, PY.nxE, PY.opt_s, PY.bind_ok, PY.fl_ok, PY.cm_lt, PY.cm_le, PY.cm_gt, PY.cm_ge, PY.cm_is, PY.cm_isn, PY.cm_in, PY.cm_nin, PY.cm_eqI, PY.cm_neI, PY.cm_eqS, PY.cm_neS, PY.cm_eqL, PY.cm_neL, PY.cm_eqT, PY.cm_neT, PY.cmp_eqS, PY.cmp_neS, PY.cmp_eqI, PY.cmp_neI, PY.cmp_inT, PY.ifQ_t, PY.ifQ_f, PY.tr_b, PY.tr_i, PY.tr_s, PY.tr_n, PY.isi_ii, PY.isi_bi, PY.isi_ss, PY.isi_tt, Option.map_some, PY.atI_0, PY.atI_1, PY.atI_2, PY.atI_3, PY.atI_4, PY.atI_5, List.set_cons_zero, List.set_cons_succ, am_effects, q_effects, atI_pt (gb j mj).1 (gb j mj).2, ifQ_d]
            refine ⟨trivial, fun z => ?_, fun z => ?_⟩ <;> simp [z]
          · rw [← eown]
            simp only [PY.wSs, PY.wSn, PY.w_if, PY.w_and2, PY.w_or2, PY.w_ite, PY.w_chain, PY.w_opt_s, PY.w_guard, PY.w_set_n0, PY.w_set_ns, PY.w_aug, PY.aug_add, PY.aug_sub, PY.idx_l0, PY.idx_l1, PY.idx_p0, PY.idx_p1, PY.idx_p2, PY.idx_p3, PY.idx_p4, PY.idx_p5, PY.w_mkLf, PY.w_mkLt, PY.es_star, PY.ks_cons, PY.ks_nil, PY.es_nil, PY.es_v, PY.es_c, PY.es_g, PY.es_bin, PY.es_un, PY.es_cmp, PY.es_chain, PY.es_and, PY.es_or, PY.es_ite, PY.es_tup, PY.es_lst, PY.es_idx, PY.es_slc, PY.es_rev, PY.es_call, PY.es_make, PY.es_bc, PY.es_bm, PY.es_meth, PY.es_attr, PY.es_isi, PY.es_comp, PY.es_frz, PY.e_attr, PY.e_make, PY.e_isi, PY.e_bm, PY.w_rev, PY.w_frz, PY.w_comp, PY.w_csn, PY.w_csc, PY.w_i_e, PY.w_i_range, PY.rng_1, PY.rng_2, PY.slc_str, PY.toI, PY.w_i_enum, PY.w_for, PY.itm_tup, PY.itm_list, PY.itm_scr, PY.itm_str, PY.itN_tup, PY.chk_none, PY.sq_tup, PY.sq_list, PY.bin_L, PY.bin_T, PY.bc_strI, PY.bc_strS, PY.bc_tupL, PY.bc_tupT, PY.bc_max2, PY.bc_min2, PY.e_v, PY.e_c, PY.e_bin, PY.e_un, PY.e_cmp, PY.e_idx, PY.e_bc, PY.e_call, PY.e_lst, PY.e_tup, PY.e_or, PY.e_and, PY.or1, PY.and1, PY.e_slc, PY.o_none, PY.o_some, PY.s_set, PY.s_ret, PY.s_expr, PY.getV_0, PY.getV_s, PY.bin_add, PY.bin_sub, PY.bin_mul, PY.bin_fdiv, PY.bin_mod, PY.bin_pow, PY.bin_cat, PY.cmp_lt, PY.cmp_le, PY.cmp_gt, PY.cmp_ge, PY.un_not, PY.un_neg, PY.idx_tup, PY.idx_list, PY.idx_scr, PY.bc_int, PY.bc_abs, PY.bc_divmod, PY.bc_lenS, PY.bc_lenT, PY.bc_lenL, PY.bc_lenC, PY.a_tup, PY.as_nil, PY.as_cons, PY.okE, PY.bindE, PY.flE, PY.rtE, PY.nxE, PY.opt_s, PY.bind_ok, PY.fl_ok, PY.cm_lt, PY.cm_le, PY.cm_gt, PY.cm_ge, PY.cm_is, PY.cm_isn, PY.cm_in, PY.cm_nin, PY.cm_eqI, PY.cm_neI, PY.cm_eqS, PY.cm_neS, PY.cm_eqL, PY.cm_neL, PY.cm_eqT, PY.cm_neT, PY.cmp_eqS, PY.cmp_neS, PY.cmp_eqI, PY.cmp_neI, PY.cmp_inT, PY.ifQ_t, PY.ifQ_f, PY.tr_b, PY.tr_i, PY.tr_s, PY.tr_n, PY.isi_ii, PY.isi_bi, PY.isi_ss, PY.isi_tt, Option.map_some, PY.atI_0, PY.atI_1, PY.atI_2, PY.atI_3, PY.atI_4, PY.atI_5, List.set_cons_zero, List.set_cons_succ]
            exact ⟨by first | rfl | trivial, by rw [List.length_map]; omega, by first | rfl | trivial, by first | rfl | trivial⟩
        rintro env hh ⟨rfl, rfl⟩
        obtain ⟨N, hN⟩ : ∃ N : Int, N = (own.length : Int) := ⟨_, rfl⟩
        have eL : ∀ {T : Tab} {m : Bool} {h : Hh}, bcM prg T m .len [.list (own.map D.int)] h = .ok (.int N) h := fun {T m h} => by
          rw [bc_lenL, List.length_map, hN]
        simp only [PY.wSs, PY.wSn, PY.w_if, PY.w_and2, PY.w_or2, PY.w_ite, PY.w_chain, PY.w_opt_s, PY.w_guard, PY.w_set_n0, PY.w_set_ns, PY.w_aug, PY.aug_add, PY.aug_sub, PY.idx_l0, PY.idx_l1, PY.idx_p0, PY.idx_p1, PY.idx_p2, PY.idx_p3, PY.idx_p4, PY.idx_p5, PY.w_mkLf, PY.w_mkLt, PY.es_star, PY.ks_cons, PY.ks_nil, PY.es_nil, PY.es_v, PY.es_c, PY.es_g, PY.es_bin, PY.es_un, PY.es_cmp, PY.es_chain, PY.es_and, PY.es_or, PY.es_ite, PY.es_tup, PY.es_lst, PY.es_idx, PY.es_slc, PY.es_rev, PY.es_call, PY.es_make, PY.es_bc, PY.es_bm, PY.es_meth, PY.es_attr, PY.es_isi, PY.es_comp, PY.es_frz, PY.e_attr, PY.e_make, PY.e_isi, PY.e_bm, PY.w_rev, PY.w_frz, PY.w_comp, PY.w_csn, PY.w_csc, PY.w_i_e, PY.w_i_range, PY.rng_1, PY.rng_2, PY.slc_str, PY.toI, PY.w_i_enum, PY.w_for, PY.itm_tup, PY.itm_list, PY.itm_scr, PY.itm_str, PY.itN_tup, PY.chk_none, PY.sq_tup, PY.sq_list, PY.bin_L, PY.bin_T, PY.bc_strI, PY.bc_strS, PY.bc_tupL, PY.bc_tupT, PY.bc_max2, PY.bc_min2, PY.e_v, PY.e_c, PY.e_bin, PY.e_un, PY.e_cmp, PY.e_idx, PY.e_bc, PY.e_call, PY.e_lst, PY.e_tup, PY.e_or, PY.e_and, PY.or1, PY.and1, PY.e_slc, PY.o_none, PY.o_some, PY.s_set, PY.s_ret, PY.s_expr, PY.getV_0, PY.getV_s, PY.bin_add, PY.bin_sub, PY.bin_mul, PY.bin_fdiv, PY.bin_mod, PY.bin_pow, PY.bin_cat, PY.cmp_lt, PY.cmp_le, PY.cmp_gt, PY.cmp_ge, PY.un_not, PY.un_neg, PY.idx_tup, PY.idx_list, PY.idx_scr, PY.bc_int, PY.bc_abs, PY.bc_divmod, PY.bc_lenS, PY.bc_lenT, PY.bc_lenC, PY.a_tup, PY.as_nil, PY.as_cons, PY.okE, PY.bindE, PY.flE, PY.rtE, PY.nxE, PY.opt_s, PY.bind_ok, PY.fl_ok, PY.cm_lt, PY.cm_le, PY.cm_gt, PY.cm_ge, PY.cm_is, PY.cm_isn, PY.cm_in, PY.cm_nin, PY.cm_eqI, PY.cm_neI, PY.cm_eqS, PY.cm_neS, PY.cm_eqL, PY.cm_neL, PY.cm_eqT, PY.cm_neT, PY.cmp_eqS, PY.cmp_neS, PY.cmp_eqI, PY.cmp_neI, PY.cmp_inT, PY.ifQ_t, PY.ifQ_f, PY.tr_b, PY.tr_i, PY.tr_s, PY.tr_n, PY.isi_ii, PY.isi_bi, PY.isi_ss, PY.isi_tt, Option.map_some, PY.atI_0, PY.atI_1, PY.atI_2, PY.atI_3, PY.atI_4, PY.atI_5, List.set_cons_zero, List.set_cons_succ, eL, ifQ_d]
        refine ⟨fun z => ?_, fun z => ?_⟩
        · cases hown : own with
          | nil => rw [hown] at hN; simp at hN; omega
          | cons i is =>
            rw [← hown]
            have mi := ob _ (by rw [hown]; exact maxP_in (ps := ps) (i := i) (is := is))
            subst etm
            simp only [PY.wSs, PY.wSn, PY.w_if, PY.w_and2, PY.w_or2, PY.w_ite, PY.w_chain, PY.w_opt_s, PY.w_guard, PY.w_set_n0, PY.w_set_ns, PY.w_aug, PY.aug_add, PY.aug_sub, PY.idx_l0, PY.idx_l1, PY.idx_p0, PY.idx_p1, PY.idx_p2, PY.idx_p3, PY.idx_p4, PY.idx_p5, PY.w_mkLf, PY.w_mkLt, PY.es_star, PY.ks_cons, PY.ks_nil, PY.es_nil, PY.es_v, PY.es_c, PY.es_g, PY.es_bin, PY.es_un, PY.es_cmp, PY.es_chain, PY.es_and, PY.es_or, PY.es_ite, PY.es_tup, PY.es_lst, PY.es_idx, PY.es_slc, PY.es_rev, PY.es_call, PY.es_make, PY.es_bc, PY.es_bm, PY.es_meth, PY.es_attr, PY.es_isi, PY.es_comp, PY.es_frz, PY.e_attr, PY.e_make, PY.e_isi, PY.e_bm, PY.w_rev, PY.w_frz, PY.w_comp, PY.w_csn, PY.w_csc, PY.w_i_e, PY.w_i_range, PY.rng_1, PY.rng_2, PY.slc_str, PY.toI, PY.w_i_enum, PY.w_for, PY.itm_tup, PY.itm_list, PY.itm_scr, PY.itm_str, PY.itN_tup, PY.chk_none, PY.sq_tup, PY.sq_list, PY.bin_L, PY.bin_T, PY.bc_strI, PY.bc_strS, PY.bc_tupL, PY.bc_tupT, PY.bc_max2, PY.bc_min2, PY.e_v, PY.e_c, PY.e_bin, PY.e_un, PY.e_cmp, PY.e_idx, PY.e_bc, PY.e_call, PY.e_lst, PY.e_tup, PY.e_or, PY.e_and, PY.or1, PY.and1, PY.e_slc, PY.o_none, PY.o_some, PY.s_set, PY.s_ret, PY.s_expr, PY.getV_0, PY.getV_s, PY.bin_add, PY.bin_sub, PY.bin_mul, PY.bin_fdiv, PY.bin_mod, PY.bin_pow, PY.bin_cat, PY.cmp_lt, PY.cmp_le, PY.cmp_gt, PY.cmp_ge, PY.un_not, PY.un_neg, PY.idx_tup, PY.idx_list, PY.idx_scr, PY.bc_int, PY.bc_abs, PY.bc_divmod, PY.bc_lenS, PY.bc_lenT, PY.bc_lenL, PY.bc_lenC, PY.a_tup, PY.as_nil, PY.as_cons, PY.okE, PY.bindE, PY.flE, PY.rtE, PY.nxE, PY.opt_s, PY.bind_ok, PY.fl_ok, PY.cm_lt, PY.cm_le, PY.cm_gt, PY.cm_ge, PY.cm_is, PY.cm_isn, PY.cm_in, PY.cm_nin, PY.cm_eqI, PY.cm_neI, PY.cm_eqS, PY.cm_neS, PY.cm_eqL, PY.cm_neL, PY.cm_eqT, PY.cm_neT, PY.cmp_eqS, PY.cmp_neS, PY.cmp_eqI, PY.cmp_neI, PY.cmp_inT, PY.ifQ_t, PY.ifQ_f, PY.tr_b, PY.tr_i, PY.tr_s, PY.tr_n, PY.isi_ii, PY.isi_bi, PY.isi_ss, PY.isi_tt, Option.map_some, PY.atI_0, PY.atI_1, PY.atI_2, PY.atI_3, PY.atI_4, PY.atI_5, List.set_cons_zero, List.set_cons_succ, am_effects, q_effects, c_18, latest hown ob ol, atI_pt mi.1 mi.2]
            refine ⟨dg ++ [g], some (grD g), some (.list (own.map D.int)), o8, by rw [eg]; simp, by first | rfl | trivial, ?_⟩
            rw [est, restG, ← eown, hown]
        · have hown : own = [] := List.eq_nil_of_length_eq_zero (by omega)
          refine ⟨dg ++ [g], some (grD g), some (.list (own.map D.int)), o8, by rw [eg]; simp, by first | rfl | trivial, ?_⟩
          rw [est, restG, ← eown, hown]
      · rintro env hh ⟨dg, o6, o7, o8, eg, rfl, rfl⟩
        rw [List.append_nil] at eg
        subst eg
        exact ⟨o6, o7, o8, rfl, rfl⟩
    rintro env hh ⟨o6, o7, o8, rfl, rfl⟩
    simp only [PY.wSs, PY.wSn, PY.w_if, PY.w_and2, PY.w_or2, PY.w_ite, PY.w_chain, PY.w_opt_s, PY.w_guard, PY.w_set_n0, PY.w_set_ns, PY.w_aug, PY.aug_add, PY.aug_sub, PY.idx_l0, PY.idx_l1, PY.idx_p0, PY.idx_p1, PY.idx_p2, PY.idx_p3, PY.idx_p4, PY.idx_p5, PY.w_mkLf, PY.w_mkLt, PY.es_star, PY.ks_cons, PY.ks_nil, PY.es_nil, PY.es_v, PY.es_c, PY.es_g, PY.es_bin, PY.es_un, PY.es_cmp, PY.es_chain, PY.es_and, PY.es_or, PY.es_ite, PY.es_tup, PY.es_lst, PY.es_idx, PY.es_slc, PY.es_rev, PY.es_call, PY.es_make, PY.es_bc, PY.es_bm, PY.es_meth, PY.es_attr, PY.es_isi, PY.es_comp, PY.es_frz, PY.e_attr, PY.e_make, PY.e_isi, PY.e_bm, PY.w_rev, PY.w_frz, PY.w_comp, PY.w_csn, PY.w_csc, PY.w_i_e, PY.w_i_range, PY.rng_1, PY.rng_2, PY.slc_str, PY.toI, PY.w_i_enum, PY.w_for, PY.itm_tup, PY.itm_list, PY.itm_scr, PY.itm_str, PY.itN_tup, PY.chk_none, PY.sq_tup, PY.sq_list, PY.bin_L, PY.bin_T, PY.bc_strI, PY.bc_strS, PY.bc_tupL, PY.bc_tupT, PY.bc_max2, PY.bc_min2, PY.e_v, PY.e_c, PY.e_bin, PY.e_un, PY.e_cmp, PY.e_idx, PY.e_bc, PY.e_call, PY.e_lst, PY.e_tup, PY.e_or, PY.e_and, PY.or1, PY.and1, PY.e_slc, PY.o_none, PY.o_some, PY.s_set, PY.s_ret, PY.s_expr, PY.getV_0, PY.getV_s, PY.bin_add, PY.bin_sub, PY.bin_mul, PY.bin_fdiv, PY.bin_mod, PY.bin_pow, PY.bin_cat, PY.cmp_lt, PY.cmp_le, PY.cmp_gt, PY.cmp_ge, PY.un_not, PY.un_neg, PY.idx_tup, PY.idx_list, PY.idx_scr, PY.bc_int, PY.bc_abs, PY.bc_divmod, PY.bc_lenS, PY.bc_lenT, PY.bc_lenL, PY.bc_lenC, PY.a_tup, PY.as_nil, PY.as_cons, PY.okE, PY.bindE, PY.flE, PY.rtE, PY.nxE, PY.opt_s, PY.bind_ok, PY.fl_ok, PY.cm_lt, PY.cm_le, PY.cm_gt, PY.cm_ge, PY.cm_is, PY.cm_isn, PY.cm_in, PY.cm_nin, PY.cm_eqI, PY.cm_neI, PY.cm_eqS, PY.cm_neS, PY.cm_eqL, PY.cm_neL, PY.cm_eqT, PY.cm_neT, PY.cmp_eqS, PY.cmp_neS, PY.cmp_eqI, PY.cmp_neI, PY.cmp_inT, PY.ifQ_t, PY.ifQ_f, PY.tr_b, PY.tr_i, PY.tr_s, PY.tr_n, PY.isi_ii, PY.isi_bi, PY.isi_ss, PY.isi_tt, Option.map_some, PY.atI_0, PY.atI_1, PY.atI_2, PY.atI_3, PY.atI_4, PY.atI_5, List.set_cons_zero, List.set_cons_succ, rc_app (last_get rfl), w_app (last_get rfl), last_set rfl]
    refine ⟨trivial, ?_, dn ++ [a], _, _, _, _, _, by rw [els]; simp, ?_, by first | rfl | trivial⟩
    · simp only [restL, List.length_map]; omega
    · simp [restL]
  · rintro env hh ⟨dn, o4, o5, o6, o7, o8, els, rfl, rfl⟩
    rw [List.append_nil] at els
    subst els
    simp only [PY.wSs, PY.wSn, PY.w_if, PY.w_and2, PY.w_or2, PY.w_ite, PY.w_chain, PY.w_opt_s, PY.w_guard, PY.w_set_n0, PY.w_set_ns, PY.w_aug, PY.aug_add, PY.aug_sub, PY.idx_l0, PY.idx_l1, PY.idx_p0, PY.idx_p1, PY.idx_p2, PY.idx_p3, PY.idx_p4, PY.idx_p5, PY.w_mkLf, PY.w_mkLt, PY.es_star, PY.ks_cons, PY.ks_nil, PY.es_nil, PY.es_v, PY.es_c, PY.es_g, PY.es_bin, PY.es_un, PY.es_cmp, PY.es_chain, PY.es_and, PY.es_or, PY.es_ite, PY.es_tup, PY.es_lst, PY.es_idx, PY.es_slc, PY.es_rev, PY.es_call, PY.es_make, PY.es_bc, PY.es_bm, PY.es_meth, PY.es_attr, PY.es_isi, PY.es_comp, PY.es_frz, PY.e_attr, PY.e_make, PY.e_isi, PY.e_bm, PY.w_rev, PY.w_frz, PY.w_comp, PY.w_csn, PY.w_csc, PY.w_i_e, PY.w_i_range, PY.rng_1, PY.rng_2, PY.slc_str, PY.toI, PY.w_i_enum, PY.w_for, PY.itm_tup, PY.itm_list, PY.itm_scr, PY.itm_str, PY.itN_tup, PY.chk_none, PY.sq_tup, PY.sq_list, PY.bin_L, PY.bin_T, PY.bc_strI, PY.bc_strS, PY.bc_tupL, PY.bc_tupT, PY.bc_max2, PY.bc_min2, PY.e_v, PY.e_c, PY.e_bin, PY.e_un, PY.e_cmp, PY.e_idx, PY.e_bc, PY.e_call, PY.e_lst, PY.e_tup, PY.e_or, PY.e_and, PY.or1, PY.and1, PY.e_slc, PY.o_none, PY.o_some, PY.s_set, PY.s_ret, PY.s_expr, PY.getV_0, PY.getV_s, PY.bin_add, PY.bin_sub, PY.bin_mul, PY.bin_fdiv, PY.bin_mod, PY.bin_pow, PY.bin_cat, PY.cmp_lt, PY.cmp_le, PY.cmp_gt, PY.cmp_ge, PY.un_not, PY.un_neg, PY.idx_tup, PY.idx_list, PY.idx_scr, PY.bc_int, PY.bc_abs, PY.bc_divmod, PY.bc_lenS, PY.bc_lenT, PY.bc_lenL, PY.bc_lenC, PY.a_tup, PY.as_nil, PY.as_cons, PY.okE, PY.bindE, PY.flE, PY.rtE, PY.nxE, PY.opt_s, PY.bind_ok, PY.fl_ok, PY.cm_lt, PY.cm_le, PY.cm_gt, PY.cm_ge, PY.cm_is, PY.cm_isn, PY.cm_in, PY.cm_nin, PY.cm_eqI, PY.cm_neI, PY.cm_eqS, PY.cm_neS, PY.cm_eqL, PY.cm_neL, PY.cm_eqT, PY.cm_neT, PY.cmp_eqS, PY.cmp_neS, PY.cmp_eqI, PY.cmp_neI, PY.cmp_inT, PY.ifQ_t, PY.ifQ_f, PY.tr_b, PY.tr_i, PY.tr_s, PY.tr_n, PY.isi_ii, PY.isi_bi, PY.isi_ss, PY.isi_tt, Option.map_some, PY.atI_0, PY.atI_1, PY.atI_2, PY.atI_3, PY.atI_4, PY.atI_5, List.set_cons_zero, List.set_cons_succ, bc_tupR (last_get rfl)]
    rw [tr_app (by simp only [D.lt]; exact ints_lt)]
    exact ⟨rfl, rfl⟩
theorem rest {n : Nat} {m : Str} {ls : List (Str × Int)} {ps : List Part} {h : Hh} {k : Nat} (l8 : ps.length ≤ 8) (l3 : ls.length ≤ 3) (kc : k ≤ (ps.filter Part.click).length) :
    PY.run prg (n + 5) 20 [sld m ls ps, .int k] h = .ok (.tup ((restL ls ps ((gidx 0 (segs ps)).take (k + 1))).map D.int)) h := by
  refine okR_eq ?_
  rw [r_20]
  have e : decide ((0 : Int) ≤ (k : Int) ∧ (k : Int) ≤ ((ps.filter Part.click).length : Int)) = true := decide_eq_true ⟨by omega, by omega⟩
  simp only [PY.wSs, PY.wSn, PY.w_if, PY.w_and2, PY.w_or2, PY.w_ite, PY.w_chain, PY.w_opt_s, PY.w_guard, PY.w_set_n0, PY.w_set_ns, PY.w_aug, PY.aug_add, PY.aug_sub, PY.idx_l0, PY.idx_l1, PY.idx_p0, PY.idx_p1, PY.idx_p2, PY.idx_p3, PY.idx_p4, PY.idx_p5, PY.w_mkLf, PY.w_mkLt, PY.es_star, PY.ks_cons, PY.ks_nil, PY.es_nil, PY.es_v, PY.es_c, PY.es_g, PY.es_bin, PY.es_un, PY.es_cmp, PY.es_chain, PY.es_and, PY.es_or, PY.es_ite, PY.es_tup, PY.es_lst, PY.es_idx, PY.es_slc, PY.es_rev, PY.es_call, PY.es_make, PY.es_bc, PY.es_bm, PY.es_meth, PY.es_attr, PY.es_isi, PY.es_comp, PY.es_frz, PY.e_attr, PY.e_make, PY.e_isi, PY.e_bm, PY.w_rev, PY.w_frz, PY.w_comp, PY.w_csn, PY.w_csc, PY.w_i_e, PY.w_i_range, PY.rng_1, PY.rng_2, PY.slc_str, PY.toI, PY.w_i_enum, PY.w_for, PY.itm_tup, PY.itm_list, PY.itm_scr, PY.itm_str, PY.itN_tup, PY.chk_none, PY.sq_tup, PY.sq_list, PY.bin_L, PY.bin_T, PY.bc_strI, PY.bc_strS, PY.bc_tupL, PY.bc_tupT, PY.bc_max2, PY.bc_min2, PY.e_v, PY.e_c, PY.e_bin, PY.e_un, PY.e_cmp, PY.e_idx, PY.e_bc, PY.e_call, PY.e_lst, PY.e_tup, PY.e_or, PY.e_and, PY.or1, PY.and1, PY.e_slc, PY.o_none, PY.o_some, PY.s_set, PY.s_ret, PY.s_expr, PY.getV_0, PY.getV_s, PY.bin_add, PY.bin_sub, PY.bin_mul, PY.bin_fdiv, PY.bin_mod, PY.bin_pow, PY.bin_cat, PY.cmp_lt, PY.cmp_le, PY.cmp_gt, PY.cmp_ge, PY.un_not, PY.un_neg, PY.idx_tup, PY.idx_list, PY.idx_scr, PY.bc_int, PY.bc_abs, PY.bc_divmod, PY.bc_lenS, PY.bc_lenT, PY.bc_lenL, PY.bc_lenC, PY.a_tup, PY.as_nil, PY.as_cons, PY.okE, PY.bindE, PY.flE, PY.rtE, PY.nxE, PY.opt_s, PY.bind_ok, PY.fl_ok, PY.cm_lt, PY.cm_le, PY.cm_gt, PY.cm_ge, PY.cm_is, PY.cm_isn, PY.cm_in, PY.cm_nin, PY.cm_eqI, PY.cm_neI, PY.cm_eqS, PY.cm_neS, PY.cm_eqL, PY.cm_neL, PY.cm_eqT, PY.cm_neT, PY.cmp_eqS, PY.cmp_neS, PY.cmp_eqI, PY.cmp_neI, PY.cmp_inT, PY.ifQ_t, PY.ifQ_f, PY.tr_b, PY.tr_i, PY.tr_s, PY.tr_n, PY.isi_ii, PY.isi_bi, PY.isi_ss, PY.isi_tt, Option.map_some, PY.atI_0, PY.atI_1, PY.atI_2, PY.atI_3, PY.atI_4, PY.atI_5, List.set_cons_zero, List.set_cons_succ, fn20, c_15, check_slide, c_1, am_clicks, q_clicks l8, integer, c_19, rest_of l8 l3, e, Bool.not_true]
  rw [tr_same (by simp only [D.lt]; exact ints_lt)]
  exact ⟨rfl, rfl⟩
end K12
end
section
set_option Elab.async false
set_option linter.all false
set_option maxRecDepth 100000
set_option maxHeartbeats 2000000
namespace K12
open PySem PyProof.Rows PY L12
theorem bc_listT {P : Prg} {T : Tab} {m : Bool} {xs : List D} {h : Hh} : bcM P T m .list [.tup xs] h = mkL m xs h := rfl
theorem fold_names {ps : List Part} : ∀ {dn : List (Int × Int)} {ls : List (Str × Int)}, (dn.foldl (fun ls r => setV (ptAt ps r.2).w (ptAt ps r.2).b ls) ls).map (·.1) = ls.map (·.1)
  | [], _ => rfl
  | a :: dn, ls => by rw [List.foldl_cons, fold_names, setV_names]
theorem gs_names {ps : List Part} : ∀ {gs : List (List Int)} {ls : List (Str × Int)}, (gs.foldl (doG ps) ls).map (·.1) = ls.map (·.1)
  | [], _ => rfl
  | g :: gs, ls => by rw [List.foldl_cons, gs_names, doG, fold_names]
theorem manyB {n : Nat} {m : Str} {ls : List (Str × Int)} {ps : List Part} {h : Hh} (l8 : ps.length ≤ 8) : PY.run prg (n + 1) 33 [pie m ls ps] h = .ok (.int (ps.filter Part.click).length) h := by
  refine okR_eq ?_
  rw [r_33]
  have sl := sizeLine_eq
  simp only [PY.wSs, PY.wSn, PY.w_if, PY.w_and2, PY.w_or2, PY.w_ite, PY.w_chain, PY.w_opt_s, PY.w_guard, PY.w_set_n0, PY.w_set_ns, PY.w_aug, PY.aug_add, PY.aug_sub, PY.idx_l0, PY.idx_l1, PY.idx_p0, PY.idx_p1, PY.idx_p2, PY.idx_p3, PY.idx_p4, PY.idx_p5, PY.w_mkLf, PY.w_mkLt, PY.es_star, PY.ks_cons, PY.ks_nil, PY.es_nil, PY.es_v, PY.es_c, PY.es_g, PY.es_bin, PY.es_un, PY.es_cmp, PY.es_chain, PY.es_and, PY.es_or, PY.es_ite, PY.es_tup, PY.es_lst, PY.es_idx, PY.es_slc, PY.es_rev, PY.es_call, PY.es_make, PY.es_bc, PY.es_bm, PY.es_meth, PY.es_attr, PY.es_isi, PY.es_comp, PY.es_frz, PY.e_attr, PY.e_make, PY.e_isi, PY.e_bm, PY.w_rev, PY.w_frz, PY.w_comp, PY.w_csn, PY.w_csc, PY.w_i_e, PY.w_i_range, PY.rng_1, PY.rng_2, PY.slc_str, PY.toI, PY.w_i_enum, PY.w_for, PY.itm_tup, PY.itm_list, PY.itm_scr, PY.itm_str, PY.itN_tup, PY.chk_none, PY.sq_tup, PY.sq_list, PY.bin_L, PY.bin_T, PY.bc_strI, PY.bc_strS, PY.bc_tupL, PY.bc_tupT, PY.bc_max2, PY.bc_min2, PY.e_v, PY.e_c, PY.e_bin, PY.e_un, PY.e_cmp, PY.e_idx, PY.e_bc, PY.e_call, PY.e_lst, PY.e_tup, PY.e_or, PY.e_and, PY.or1, PY.and1, PY.e_slc, PY.o_none, PY.o_some, PY.s_set, PY.s_ret, PY.s_expr, PY.getV_0, PY.getV_s, PY.bin_add, PY.bin_sub, PY.bin_mul, PY.bin_fdiv, PY.bin_mod, PY.bin_pow, PY.bin_cat, PY.cmp_lt, PY.cmp_le, PY.cmp_gt, PY.cmp_ge, PY.un_not, PY.un_neg, PY.idx_tup, PY.idx_list, PY.idx_scr, PY.bc_int, PY.bc_abs, PY.bc_divmod, PY.bc_lenS, PY.bc_lenT, PY.bc_lenL, PY.bc_lenC, PY.a_tup, PY.as_nil, PY.as_cons, PY.okE, PY.bindE, PY.flE, PY.rtE, PY.nxE, PY.opt_s, PY.bind_ok, PY.fl_ok, PY.cm_lt, PY.cm_le, PY.cm_gt, PY.cm_ge, PY.cm_is, PY.cm_isn, PY.cm_in, PY.cm_nin, PY.cm_eqI, PY.cm_neI, PY.cm_eqS, PY.cm_neS, PY.cm_eqL, PY.cm_neL, PY.cm_eqT, PY.cm_neT, PY.cmp_eqS, PY.cmp_neS, PY.cmp_eqI, PY.cmp_neI, PY.cmp_inT, PY.ifQ_t, PY.ifQ_f, PY.tr_b, PY.tr_i, PY.tr_s, PY.tr_n, PY.isi_ii, PY.isi_bi, PY.isi_ss, PY.isi_tt, Option.map_some, PY.atI_0, PY.atI_1, PY.atI_2, PY.atI_3, PY.atI_4, PY.atI_5, List.set_cons_zero, List.set_cons_succ, fn33, idx_pie2]
  refine w_cfil (p := Part.click) (k := partD) (fun a ma => ?_) ?_
  · rw [w_cB (env' := [some (pie m ls ps), some (partD a)]) rfl]
    simp only [PY.wSs, PY.wSn, PY.w_if, PY.w_and2, PY.w_or2, PY.w_ite, PY.w_chain, PY.w_opt_s, PY.w_guard, PY.w_set_n0, PY.w_set_ns, PY.w_aug, PY.aug_add, PY.aug_sub, PY.idx_l0, PY.idx_l1, PY.idx_p0, PY.idx_p1, PY.idx_p2, PY.idx_p3, PY.idx_p4, PY.idx_p5, PY.w_mkLf, PY.w_mkLt, PY.es_star, PY.ks_cons, PY.ks_nil, PY.es_nil, PY.es_v, PY.es_c, PY.es_g, PY.es_bin, PY.es_un, PY.es_cmp, PY.es_chain, PY.es_and, PY.es_or, PY.es_ite, PY.es_tup, PY.es_lst, PY.es_idx, PY.es_slc, PY.es_rev, PY.es_call, PY.es_make, PY.es_bc, PY.es_bm, PY.es_meth, PY.es_attr, PY.es_isi, PY.es_comp, PY.es_frz, PY.e_attr, PY.e_make, PY.e_isi, PY.e_bm, PY.w_rev, PY.w_frz, PY.w_comp, PY.w_csn, PY.w_csc, PY.w_i_e, PY.w_i_range, PY.rng_1, PY.rng_2, PY.slc_str, PY.toI, PY.w_i_enum, PY.w_for, PY.itm_tup, PY.itm_list, PY.itm_scr, PY.itm_str, PY.itN_tup, PY.chk_none, PY.sq_tup, PY.sq_list, PY.bin_L, PY.bin_T, PY.bc_strI, PY.bc_strS, PY.bc_tupL, PY.bc_tupT, PY.bc_max2, PY.bc_min2, PY.e_v, PY.e_c, PY.e_bin, PY.e_un, PY.e_cmp, PY.e_idx, PY.e_bc, PY.e_call, PY.e_lst, PY.e_tup, PY.e_or, PY.e_and, PY.or1, PY.and1, PY.e_slc, PY.o_none, PY.o_some, PY.s_set, PY.s_ret, PY.s_expr, PY.getV_0, PY.getV_s, PY.bin_add, PY.bin_sub, PY.bin_mul, PY.bin_fdiv, PY.bin_mod, PY.bin_pow, PY.bin_cat, PY.cmp_lt, PY.cmp_le, PY.cmp_gt, PY.cmp_ge, PY.un_not, PY.un_neg, PY.idx_tup, PY.idx_list, PY.idx_scr, PY.bc_int, PY.bc_abs, PY.bc_divmod, PY.bc_lenS, PY.bc_lenT, PY.bc_lenL, PY.bc_lenC, PY.a_tup, PY.as_nil, PY.as_cons, PY.okE, PY.bindE, PY.flE, PY.rtE, PY.nxE, PY.opt_s, PY.bind_ok, PY.fl_ok, PY.cm_lt, PY.cm_le, PY.cm_gt, PY.cm_ge, PY.cm_is, PY.cm_isn, PY.cm_in, PY.cm_nin, PY.cm_eqI, PY.cm_neI, PY.cm_eqS, PY.cm_neS, PY.cm_eqL, PY.cm_neL, PY.cm_eqT, PY.cm_neT, PY.cmp_eqS, PY.cmp_neS, PY.cmp_eqI, PY.cmp_neI, PY.cmp_inT, PY.ifQ_t, PY.ifQ_f, PY.tr_b, PY.tr_i, PY.tr_s, PY.tr_n, PY.isi_ii, PY.isi_bi, PY.isi_ss, PY.isi_tt, Option.map_some, PY.atI_0, PY.atI_1, PY.atI_2, PY.atI_3, PY.atI_4, PY.atI_5, List.set_cons_zero, List.set_cons_succ, ifQ_d]
    refine ⟨trivial, fun z => ?_, fun z => ?_⟩
    · have : a.click = true := decide_eq_true z
      simp [this]
    · have : a.click = false := decide_eq_false z
      simp [this]
  · have := List.length_filter_le Part.click ps
    refine ⟨trivial, by rw [List.length_map]; omega, by rw [List.length_map, tr_i]; simp⟩
theorem behind2 {n : Nat} {m : Str} {ls : List (Str × Int)} {ps : List Part} {h : Hh} {k : Nat} {K : Int} {hd : D} (hK : K = (k : Int)) (l8 : ps.length ≤ 8) (l3 : ls.length ≤ 3) (nd : (ls.map (·.1)).Nodup) (kc : k ≤ (ps.filter Part.click).length) (ehd : hd = D.list ((hrs ps 0 0 0).map hrD)) :
    wF (evSs prg (PY.run prg (n + 1)) (fn32.body.drop 1) [some (pie m ls ps), some (.int K), some hd, some (.ref h.length), none, none, none, none, none] (h ++ [.dct (encT ls)])) (fun _ _ => False)
      (fun d hb => okR (trim false h (.ok d hb)) fun b h' => b = .tup ((restL ls ps ((gidx 0 (segs ps)).take (k + 1))).map D.int) ∧ h' = h) := by
  have sl := sizeLine_eq
  have cl := List.length_filter_le Part.click ps
  have sgl : (gidx 0 (segs ps)).length = (ps.filter Part.click).length + 1 := by
    have := (segs_pcs (ps := ps)).clicks
    rw [segs_flat] at this
    rw [gidx_len]; omega
  simp only [fn32, List.drop]
  obtain ⟨LE, eLE⟩ : ∃ LE : List (Str × Int), LE = ((gidx 0 (segs ps)).take (k + 1)).foldl (doG ps) ls := ⟨_, rfl⟩
  refine w_cut (fun env hh => ∃ (o4 o5 o6 o7 o8 : Option D), hh = h ++ [.dct (encT LE)] ∧ env = [some (pie m ls ps), some (.int K), some hd, some (.ref h.length), o4, o5, o6, o7, o8]) ?_ ?_
  · simp only [PY.wSs, PY.wSn, PY.w_if, PY.w_and2, PY.w_or2, PY.w_ite, PY.w_chain, PY.w_opt_s, PY.w_guard, PY.w_set_n0, PY.w_set_ns, PY.w_aug, PY.aug_add, PY.aug_sub, PY.idx_l0, PY.idx_l1, PY.idx_p0, PY.idx_p1, PY.idx_p2, PY.idx_p3, PY.idx_p4, PY.idx_p5, PY.w_mkLf, PY.w_mkLt, PY.es_star, PY.ks_cons, PY.ks_nil, PY.es_nil, PY.es_v, PY.es_c, PY.es_g, PY.es_bin, PY.es_un, PY.es_cmp, PY.es_chain, PY.es_and, PY.es_or, PY.es_ite, PY.es_tup, PY.es_lst, PY.es_idx, PY.es_slc, PY.es_rev, PY.es_call, PY.es_make, PY.es_bc, PY.es_bm, PY.es_meth, PY.es_attr, PY.es_isi, PY.es_comp, PY.es_frz, PY.e_attr, PY.e_make, PY.e_isi, PY.e_bm, PY.w_rev, PY.w_frz, PY.w_comp, PY.w_csn, PY.w_csc, PY.w_i_e, PY.w_i_range, PY.rng_1, PY.rng_2, PY.slc_str, PY.toI, PY.w_i_enum, PY.w_for, PY.itm_tup, PY.itm_list, PY.itm_scr, PY.itm_str, PY.itN_tup, PY.chk_none, PY.sq_tup, PY.sq_list, PY.bin_L, PY.bin_T, PY.bc_strI, PY.bc_strS, PY.bc_tupL, PY.bc_tupT, PY.bc_max2, PY.bc_min2, PY.e_v, PY.e_c, PY.e_bin, PY.e_un, PY.e_cmp, PY.e_idx, PY.e_bc, PY.e_call, PY.e_lst, PY.e_tup, PY.e_or, PY.e_and, PY.or1, PY.and1, PY.e_slc, PY.o_none, PY.o_some, PY.s_set, PY.s_ret, PY.s_expr, PY.getV_0, PY.getV_s, PY.bin_add, PY.bin_sub, PY.bin_mul, PY.bin_fdiv, PY.bin_mod, PY.bin_pow, PY.bin_cat, PY.cmp_lt, PY.cmp_le, PY.cmp_gt, PY.cmp_ge, PY.un_not, PY.un_neg, PY.idx_tup, PY.idx_list, PY.idx_scr, PY.bc_int, PY.bc_abs, PY.bc_divmod, PY.bc_lenS, PY.bc_lenT, PY.bc_lenL, PY.bc_lenC, PY.a_tup, PY.as_nil, PY.as_cons, PY.okE, PY.bindE, PY.flE, PY.rtE, PY.nxE, PY.opt_s, PY.bind_ok, PY.fl_ok, PY.cm_lt, PY.cm_le, PY.cm_gt, PY.cm_ge, PY.cm_is, PY.cm_isn, PY.cm_in, PY.cm_nin, PY.cm_eqI, PY.cm_neI, PY.cm_eqS, PY.cm_neS, PY.cm_eqL, PY.cm_neL, PY.cm_eqT, PY.cm_neT, PY.cmp_eqS, PY.cmp_neS, PY.cmp_eqI, PY.cmp_neI, PY.cmp_inT, PY.ifQ_t, PY.ifQ_f, PY.tr_b, PY.tr_i, PY.tr_s, PY.tr_n, PY.isi_ii, PY.isi_bi, PY.isi_ss, PY.isi_tt, Option.map_some, PY.atI_0, PY.atI_1, PY.atI_2, PY.atI_3, PY.atI_4, PY.atI_5, List.set_cons_zero, List.set_cons_succ]
    refine ⟨inR_ok (by omega) (by omega), ?_⟩
    refine forM_upto (I := fun j cnt env hh => ∃ (jn : Nat) (o4 o5 o6 o7 o8 : Option D), j = (jn : Int) ∧ jn + cnt = k + 1 ∧ hh = h ++ [.dct (encT (((gidx 0 (segs ps)).take jn).foldl (doG ps) ls))] ∧
      env = [some (pie m ls ps), some (.int K), some hd, some (.ref h.length), o4, o5, o6, o7, o8]) (fun _ _ _ _ _ => rfl) ?_ ?_ ⟨0, none, none, none, none, none, rfl, by omega, rfl, rfl⟩
    · rintro j cnt env hh ⟨jn, o4, o5, o6, o7, o8, rfl, ej, rfl, rfl⟩
      have jl : jn < (gidx 0 (segs ps)).length := by omega
      obtain ⟨g, eg⟩ : ∃ g, g = (gidx 0 (segs ps))[jn] := ⟨_, rfl⟩
      have gmem : g ∈ gidx 0 (segs ps) := by rw [eg]; exact List.getElem_mem jl
      have gb := segs_in gmem
      have gl := segs_len gmem
      have fg : flt 0 (jn : Int) (plw ps 0) = g := by
        have := flt_all (segs_pcs (ps := ps)) (j := jn) (by rw [← gidx_len (S := segs ps) (o := 0)]; exact jl)
        rw [segs_flat] at this
        rw [this, eg]
      have etk : (gidx 0 (segs ps)).take (jn + 1) = (gidx 0 (segs ps)).take jn ++ [g] := by rw [List.take_succ, List.getElem?_eq_getElem jl, eg]; rfl
      obtain ⟨L0, eL0⟩ : ∃ L0, L0 = ((gidx 0 (segs ps)).take jn).foldl (doG ps) ls := ⟨_, rfl⟩
      have nL0 : L0.map (·.1) = ls.map (·.1) := by rw [eL0, gs_names]
      have estp : ((gidx 0 (segs ps)).take (jn + 1)).foldl (doG ps) ls = doG ps L0 g := by rw [etk, List.foldl_append, eL0]; rfl
      rw [← eL0]
      show wF (evSs _ _ _ [some (pie m ls ps), some (.int K), some hd, some (.ref h.length), some (.int (jn : Int)), o5, o6, o7, o8] _) _ _
      have pl : (plw ps 0).length = ps.length := plw_len
      obtain ⟨M, hM⟩ : ∃ M : Int, M = (ps.length : Int) := ⟨_, rfl⟩
      refine w_cut (fun env hh => hh = h ++ [.dct (encT L0)] ∧ env = [some (pie m ls ps), some (.int K), some hd, some (.ref h.length), some (.int (jn : Int)), some (.list ((sortP (g.map (kyAt ps))).map pairI)), o6, o7, o8]) ?_ ?_
      · subst ehd
        have eL : ∀ {T : Tab} {m : Bool} {h : Hh}, bcM prg T m .len [.list ((hrs ps 0 0 0).map hrD)] h = .ok (.int M) h := fun {T m h} => by
          rw [bc_lenL, List.length_map, hrs_len, hM]
        simp only [PY.wSs, PY.wSn, PY.w_if, PY.w_and2, PY.w_or2, PY.w_ite, PY.w_chain, PY.w_opt_s, PY.w_guard, PY.w_set_n0, PY.w_set_ns, PY.w_aug, PY.aug_add, PY.aug_sub, PY.idx_l0, PY.idx_l1, PY.idx_p0, PY.idx_p1, PY.idx_p2, PY.idx_p3, PY.idx_p4, PY.idx_p5, PY.w_mkLf, PY.w_mkLt, PY.es_star, PY.ks_cons, PY.ks_nil, PY.es_nil, PY.es_v, PY.es_c, PY.es_g, PY.es_bin, PY.es_un, PY.es_cmp, PY.es_chain, PY.es_and, PY.es_or, PY.es_ite, PY.es_tup, PY.es_lst, PY.es_idx, PY.es_slc, PY.es_rev, PY.es_call, PY.es_make, PY.es_bc, PY.es_bm, PY.es_meth, PY.es_attr, PY.es_isi, PY.es_comp, PY.es_frz, PY.e_attr, PY.e_make, PY.e_isi, PY.e_bm, PY.w_rev, PY.w_frz, PY.w_comp, PY.w_csn, PY.w_csc, PY.w_i_e, PY.w_i_range, PY.rng_1, PY.rng_2, PY.slc_str, PY.toI, PY.w_i_enum, PY.w_for, PY.itm_tup, PY.itm_list, PY.itm_scr, PY.itm_str, PY.itN_tup, PY.chk_none, PY.sq_tup, PY.sq_list, PY.bin_L, PY.bin_T, PY.bc_strI, PY.bc_strS, PY.bc_tupL, PY.bc_tupT, PY.bc_max2, PY.bc_min2, PY.e_v, PY.e_c, PY.e_bin, PY.e_un, PY.e_cmp, PY.e_idx, PY.e_bc, PY.e_call, PY.e_lst, PY.e_tup, PY.e_or, PY.e_and, PY.or1, PY.and1, PY.e_slc, PY.o_none, PY.o_some, PY.s_set, PY.s_ret, PY.s_expr, PY.getV_0, PY.getV_s, PY.bin_add, PY.bin_sub, PY.bin_mul, PY.bin_fdiv, PY.bin_mod, PY.bin_pow, PY.bin_cat, PY.cmp_lt, PY.cmp_le, PY.cmp_gt, PY.cmp_ge, PY.un_not, PY.un_neg, PY.idx_tup, PY.idx_list, PY.idx_scr, PY.bc_int, PY.bc_abs, PY.bc_divmod, PY.bc_lenS, PY.bc_lenT, PY.bc_lenC, PY.a_tup, PY.as_nil, PY.as_cons, PY.okE, PY.bindE, PY.flE, PY.rtE, PY.nxE, PY.opt_s, PY.bind_ok, PY.fl_ok, PY.cm_lt, PY.cm_le, PY.cm_gt, PY.cm_ge, PY.cm_is, PY.cm_isn, PY.cm_in, PY.cm_nin, PY.cm_eqI, PY.cm_neI, PY.cm_eqS, PY.cm_neS, PY.cm_eqL, PY.cm_neL, PY.cm_eqT, PY.cm_neT, PY.cmp_eqS, PY.cmp_neS, PY.cmp_eqI, PY.cmp_neI, PY.cmp_inT, PY.ifQ_t, PY.ifQ_f, PY.tr_b, PY.tr_i, PY.tr_s, PY.tr_n, PY.isi_ii, PY.isi_bi, PY.isi_ss, PY.isi_tt, Option.map_some, PY.atI_0, PY.atI_1, PY.atI_2, PY.atI_3, PY.atI_4, PY.atI_5, List.set_cons_zero, List.set_cons_succ, eL]
        have e6 : M.toNat = ps.length := by omega
        rw [upto_seq, e6]
        refine ⟨inR_ok (by omega) (by omega), ?_⟩
        refine w_cfil (p := fun a => decide ((plw ps 0)[(a - 0).toNat]? = some (jn : Int))) (k := fun a => pairI (kyAt ps a)) (fun a ma => ?_) ?_
        · rw [w_cB (env' := [some (pie m ls ps), some (.int K), some (.list ((hrs ps 0 0 0).map hrD)), some (.ref h.length), some (.int (jn : Int)), o5, o6, some (.int a), o8]) rfl]
          rw [seqI_mem] at ma
          obtain ⟨x, ex, x1, x2⟩ := atI_hr (ps := ps) (i := a) ma.1 (by omega)
          have h0 : ∀ {h : Hh}, idxD (hrD x) (.int 0) h = .ok (.int x.1) h := fun {h} => by rw [hrD, idx_tup, atI_0, opt_s]
          have h1 : ∀ {h : Hh}, idxD (hrD x) (.int 1) h = .ok (.int x.2.1) h := fun {h} => by rw [hrD, idx_tup, atI_1, opt_s]
          simp only [PY.wSs, PY.wSn, PY.w_if, PY.w_and2, PY.w_or2, PY.w_ite, PY.w_chain, PY.w_opt_s, PY.w_guard, PY.w_set_n0, PY.w_set_ns, PY.w_aug, PY.aug_add, PY.aug_sub, PY.idx_l0, PY.idx_l1, PY.idx_p0, PY.idx_p1, PY.idx_p2, PY.idx_p3, PY.idx_p4, PY.idx_p5, PY.w_mkLf, PY.w_mkLt, PY.es_star, PY.ks_cons, PY.ks_nil, PY.es_nil, PY.es_v, PY.es_c, PY.es_g, PY.es_bin, PY.es_un, PY.es_cmp, PY.es_chain, PY.es_and, PY.es_or, PY.es_ite, PY.es_tup, PY.es_lst, PY.es_idx, PY.es_slc, PY.es_rev, PY.es_call, PY.es_make, PY.es_bc, PY.es_bm, PY.es_meth, PY.es_attr, PY.es_isi, PY.es_comp, PY.es_frz, PY.e_attr, PY.e_make, PY.e_isi, PY.e_bm, PY.w_rev, PY.w_frz, PY.w_comp, PY.w_csn, PY.w_csc, PY.w_i_e, PY.w_i_range, PY.rng_1, PY.rng_2, PY.slc_str, PY.toI, PY.w_i_enum, PY.w_for, PY.itm_tup, PY.itm_list, PY.itm_scr, PY.itm_str, PY.itN_tup, PY.chk_none, PY.sq_tup, PY.sq_list, PY.bin_L, PY.bin_T, PY.bc_strI, PY.bc_strS, PY.bc_tupL, PY.bc_tupT, PY.bc_max2, PY.bc_min2, PY.e_v, PY.e_c, PY.e_bin, PY.e_un, PY.e_cmp, PY.e_idx, PY.e_bc, PY.e_call, PY.e_lst, PY.e_tup, PY.e_or, PY.e_and, PY.or1, PY.and1, PY.e_slc, PY.o_none, PY.o_some, PY.s_set, PY.s_ret, PY.s_expr, PY.getV_0, PY.getV_s, PY.bin_add, PY.bin_sub, PY.bin_mul, PY.bin_fdiv, PY.bin_mod, PY.bin_pow, PY.bin_cat, PY.cmp_lt, PY.cmp_le, PY.cmp_gt, PY.cmp_ge, PY.un_not, PY.un_neg, PY.idx_tup, PY.idx_list, PY.idx_scr, PY.bc_int, PY.bc_abs, PY.bc_divmod, PY.bc_lenS, PY.bc_lenT, PY.bc_lenL, PY.bc_lenC, PY.a_tup, PY.as_nil, PY.as_cons, PY.okE, PY.bindE, PY.flE, PY.rtE, PY.nxE, PY.opt_s, PY.bind_ok, PY.fl_ok, PY.cm_lt, PY.cm_le, PY.cm_gt, PY.cm_ge, PY.cm_is, PY.cm_isn, PY.cm_in, PY.cm_nin, PY.cm_eqI, PY.cm_neI, PY.cm_eqS, PY.cm_neS, PY.cm_eqL, PY.cm_neL, PY.cm_eqT, PY.cm_neT, PY.cmp_eqS, PY.cmp_neS, PY.cmp_eqI, PY.cmp_neI, PY.cmp_inT, PY.ifQ_t, PY.ifQ_f, PY.tr_b, PY.tr_i, PY.tr_s, PY.tr_n, PY.isi_ii, PY.isi_bi, PY.isi_ss, PY.isi_tt, Option.map_some, PY.atI_0, PY.atI_1, PY.atI_2, PY.atI_3, PY.atI_4, PY.atI_5, List.set_cons_zero, List.set_cons_succ, ex, h0, h1, ifQ_d, x2]
          refine ⟨trivial, fun z => ?_, fun z => ?_⟩
          · simp [z, sl, pairI, kyAt, x1]
          · simp [z]
        · have ef : (seqI 0 ps.length).filter (fun a => decide ((plw ps 0)[(a - 0).toNat]? = some (jn : Int))) = g := by rw [← pl, flt_filter, fg]
          rw [ef]
          have em : g.map (fun a => pairI (kyAt ps a)) = (g.map (kyAt ps)).map pairI := by rw [List.map_map]; rfl
          rw [em]
          refine ⟨by first | rfl | trivial, by rw [List.length_map, List.length_map]; omega, ?_⟩
          rw [bc_sortP]
          refine ⟨by rw [(sortP_perm _).length_eq, List.length_map]; omega, by first | rfl | trivial, by first | rfl | trivial⟩
      rintro env hh ⟨rfl, rfl⟩
      simp only [PY.wSs, PY.wSn, PY.w_if, PY.w_and2, PY.w_or2, PY.w_ite, PY.w_chain, PY.w_opt_s, PY.w_guard, PY.w_set_n0, PY.w_set_ns, PY.w_aug, PY.aug_add, PY.aug_sub, PY.idx_l0, PY.idx_l1, PY.idx_p0, PY.idx_p1, PY.idx_p2, PY.idx_p3, PY.idx_p4, PY.idx_p5, PY.w_mkLf, PY.w_mkLt, PY.es_star, PY.ks_cons, PY.ks_nil, PY.es_nil, PY.es_v, PY.es_c, PY.es_g, PY.es_bin, PY.es_un, PY.es_cmp, PY.es_chain, PY.es_and, PY.es_or, PY.es_ite, PY.es_tup, PY.es_lst, PY.es_idx, PY.es_slc, PY.es_rev, PY.es_call, PY.es_make, PY.es_bc, PY.es_bm, PY.es_meth, PY.es_attr, PY.es_isi, PY.es_comp, PY.es_frz, PY.e_attr, PY.e_make, PY.e_isi, PY.e_bm, PY.w_rev, PY.w_frz, PY.w_comp, PY.w_csn, PY.w_csc, PY.w_i_e, PY.w_i_range, PY.rng_1, PY.rng_2, PY.slc_str, PY.toI, PY.w_i_enum, PY.w_for, PY.itm_tup, PY.itm_list, PY.itm_scr, PY.itm_str, PY.itN_tup, PY.chk_none, PY.sq_tup, PY.sq_list, PY.bin_L, PY.bin_T, PY.bc_strI, PY.bc_strS, PY.bc_tupL, PY.bc_tupT, PY.bc_max2, PY.bc_min2, PY.e_v, PY.e_c, PY.e_bin, PY.e_un, PY.e_cmp, PY.e_idx, PY.e_bc, PY.e_call, PY.e_lst, PY.e_tup, PY.e_or, PY.e_and, PY.or1, PY.and1, PY.e_slc, PY.o_none, PY.o_some, PY.s_set, PY.s_ret, PY.s_expr, PY.getV_0, PY.getV_s, PY.bin_add, PY.bin_sub, PY.bin_mul, PY.bin_fdiv, PY.bin_mod, PY.bin_pow, PY.bin_cat, PY.cmp_lt, PY.cmp_le, PY.cmp_gt, PY.cmp_ge, PY.un_not, PY.un_neg, PY.idx_tup, PY.idx_list, PY.idx_scr, PY.bc_int, PY.bc_abs, PY.bc_divmod, PY.bc_lenS, PY.bc_lenT, PY.bc_lenL, PY.bc_lenC, PY.a_tup, PY.as_nil, PY.as_cons, PY.okE, PY.bindE, PY.flE, PY.rtE, PY.nxE, PY.opt_s, PY.bind_ok, PY.fl_ok, PY.cm_lt, PY.cm_le, PY.cm_gt, PY.cm_ge, PY.cm_is, PY.cm_isn, PY.cm_in, PY.cm_nin, PY.cm_eqI, PY.cm_neI, PY.cm_eqS, PY.cm_neS, PY.cm_eqL, PY.cm_neL, PY.cm_eqT, PY.cm_neT, PY.cmp_eqS, PY.cmp_neS, PY.cmp_eqI, PY.cmp_neI, PY.cmp_inT, PY.ifQ_t, PY.ifQ_f, PY.tr_b, PY.tr_i, PY.tr_s, PY.tr_n, PY.isi_ii, PY.isi_bi, PY.isi_ss, PY.isi_tt, Option.map_some, PY.atI_0, PY.atI_1, PY.atI_2, PY.atI_3, PY.atI_4, PY.atI_5, List.set_cons_zero, List.set_cons_succ]
      refine forM_map (enc := pairI) (I := fun r env hh => ∃ (dn : List (Int × Int)) (o6 o7 : Option D), sortP (g.map (kyAt ps)) = dn ++ r ∧ hh = h ++ [.dct (encT (dn.foldl (fun ls r => setV (ptAt ps r.2).w (ptAt ps r.2).b ls) L0))] ∧
        env = [some (pie m ls ps), some (.int K), some hd, some (.ref h.length), some (.int (jn : Int)), some (.list ((sortP (g.map (kyAt ps))).map pairI)), o6, o7, o8]) (fun _ _ _ _ => rfl) ?_ ?_ ⟨[], o6, o7, rfl, rfl, rfl⟩
      · rintro a r env hh ⟨dn, o6, o7, ea, rfl, rfl⟩
        obtain ⟨L1, eL1⟩ : ∃ L1, L1 = dn.foldl (fun ls r => setV (ptAt ps r.2).w (ptAt ps r.2).b ls) L0 := ⟨_, rfl⟩
        have nL1 : L1.map (·.1) = ls.map (·.1) := by rw [eL1, fold_names, nL0]
        have est : (dn ++ [a]).foldl (fun ls r => setV (ptAt ps r.2).w (ptAt ps r.2).b ls) L0 = setV (ptAt ps a.2).w (ptAt ps a.2).b L1 := by rw [List.foldl_append, eL1]; rfl
        rw [← eL1]
        show wF (evSs _ _ _ [some (pie m ls ps), some (.int K), some hd, some (.ref h.length), some (.int (jn : Int)), some (.list ((sortP (g.map (kyAt ps))).map pairI)), some (.int a.1), some (.int a.2), o8] _) _ _
        have ag : a.2 ∈ g := by
          have : a ∈ g.map (kyAt ps) := (sortP_perm _).subset (by rw [ea]; simp)
          obtain ⟨j, jm, rfl⟩ := List.mem_map.mp this
          exact jm
        have ea2 := atI_pt (gb _ ag).1 (gb _ ag).2
        have eb : ∀ {T : Tab} {h' : Hh}, evE prg T (.idx (.idx (.idx (.v 0) (.c (.int 2))) (.v 7)) (.c (.int 0))) [some (pie m ls ps), some (.int K), some hd, some (.ref h.length), some (.int (jn : Int)), some (.list ((sortP (g.map (kyAt ps))).map pairI)), some (.int a.1), some (.int a.2), o8] h' = .ok (.str (ptAt ps a.2).w) h' := fun {T h'} => by
          simp only [e_idx, e_v, e_c, getV_0, getV_s, opt_s, bind_ok, idx_pie2, idx_tup, ea2, idx_p0]
        have e3 : ∀ {T : Tab} {h' : Hh}, evE prg T (.v 3) [some (pie m ls ps), some (.int K), some hd, some (.ref h.length), some (.int (jn : Int)), some (.list ((sortP (g.map (kyAt ps))).map pairI)), some (.int a.1), some (.int a.2), o8] h' = .ok (.ref h.length) h' := fun {T h'} => by
          simp only [e_v, getV_0, getV_s, opt_s]
        simp only [PY.wSs, PY.wSn, PY.w_if, PY.w_and2, PY.w_or2, PY.w_ite, PY.w_chain, PY.w_opt_s, PY.w_guard, PY.w_set_n0, PY.w_set_ns, PY.w_aug, PY.aug_add, PY.aug_sub, PY.idx_l0, PY.idx_l1, PY.idx_p0, PY.idx_p1, PY.idx_p2, PY.idx_p3, PY.idx_p4, PY.idx_p5, PY.w_mkLf, PY.w_mkLt, PY.es_star, PY.ks_cons, PY.ks_nil, PY.es_nil, PY.es_v, PY.es_c, PY.es_g, PY.es_bin, PY.es_un, PY.es_cmp, PY.es_chain, PY.es_and, PY.es_or, PY.es_ite, PY.es_tup, PY.es_lst, PY.es_idx, PY.es_slc, PY.es_rev, PY.es_call, PY.es_make, PY.es_bc, PY.es_bm, PY.es_meth, PY.es_attr, PY.es_isi, PY.es_comp, PY.es_frz, PY.e_attr, PY.e_make, PY.e_isi, PY.e_bm, PY.w_rev, PY.w_frz, PY.w_comp, PY.w_csn, PY.w_csc, PY.w_i_e, PY.w_i_range, PY.rng_1, PY.rng_2, PY.slc_str, PY.toI, PY.w_i_enum, PY.w_for, PY.itm_tup, PY.itm_list, PY.itm_scr, PY.itm_str, PY.itN_tup, PY.chk_none, PY.sq_tup, PY.sq_list, PY.bin_L, PY.bin_T, PY.bc_strI, PY.bc_strS, PY.bc_tupL, PY.bc_tupT, PY.bc_max2, PY.bc_min2, PY.e_v, PY.e_c, PY.e_bin, PY.e_un, PY.e_cmp, PY.e_idx, PY.e_bc, PY.e_call, PY.e_lst, PY.e_tup, PY.e_or, PY.e_and, PY.or1, PY.and1, PY.e_slc, PY.o_none, PY.o_some, PY.s_set, PY.s_ret, PY.s_expr, PY.getV_0, PY.getV_s, PY.bin_add, PY.bin_sub, PY.bin_mul, PY.bin_fdiv, PY.bin_mod, PY.bin_pow, PY.bin_cat, PY.cmp_lt, PY.cmp_le, PY.cmp_gt, PY.cmp_ge, PY.un_not, PY.un_neg, PY.idx_tup, PY.idx_list, PY.idx_scr, PY.bc_int, PY.bc_abs, PY.bc_divmod, PY.bc_lenS, PY.bc_lenT, PY.bc_lenL, PY.bc_lenC, PY.a_tup, PY.as_nil, PY.as_cons, PY.okE, PY.bindE, PY.flE, PY.rtE, PY.nxE, PY.opt_s, PY.bind_ok, PY.fl_ok, PY.cm_lt, PY.cm_le, PY.cm_gt, PY.cm_ge, PY.cm_is, PY.cm_isn, PY.cm_in, PY.cm_nin, PY.cm_eqI, PY.cm_neI, PY.cm_eqS, PY.cm_neS, PY.cm_eqL, PY.cm_neL, PY.cm_eqT, PY.cm_neT, PY.cmp_eqS, PY.cmp_neS, PY.cmp_eqI, PY.cmp_neI, PY.cmp_inT, PY.ifQ_t, PY.ifQ_f, PY.tr_b, PY.tr_i, PY.tr_s, PY.tr_n, PY.isi_ii, PY.isi_bi, PY.isi_ss, PY.isi_tt, Option.map_some, PY.atI_0, PY.atI_1, PY.atI_2, PY.atI_3, PY.atI_4, PY.atI_5, List.set_cons_zero, List.set_cons_succ, idx_pie2, ea2, cmp_inD (last_get rfl), ifQ_d]
        refine ⟨fun z => ?_, fun z => ?_⟩
        · rw [a_dct e3 eb (last_get rfl) (by rw [encT, List.length_map]; have := congrArg List.length nL1; simp only [List.length_map] at this; omega), okE, last_set rfl, encT_put z]
          exact ⟨dn ++ [a], _, _, by rw [ea]; simp, by rw [est], rfl⟩
        · refine ⟨dn ++ [a], _, _, by rw [ea]; simp, ?_, rfl⟩
          rw [est, setV_none z]
      · rintro env hh ⟨dn, o6, o7, ea, rfl, rfl⟩
        rw [List.append_nil] at ea
        refine ⟨jn + 1, _, _, _, _, _, by omega, by omega, ?_, rfl⟩
        rw [estp, doG, ea]
    · rintro j env hh ⟨jn, o4, o5, o6, o7, o8, rfl, ej, rfl, rfl⟩
      have : jn = k + 1 := by omega
      subst this
      exact ⟨o4, o5, o6, o7, o8, by rw [eLE], rfl⟩
  rintro env hh ⟨o4, o5, o6, o7, o8, rfl, rfl⟩
  simp only [PY.wSs, PY.wSn, PY.w_if, PY.w_and2, PY.w_or2, PY.w_ite, PY.w_chain, PY.w_opt_s, PY.w_guard, PY.w_set_n0, PY.w_set_ns, PY.w_aug, PY.aug_add, PY.aug_sub, PY.idx_l0, PY.idx_l1, PY.idx_p0, PY.idx_p1, PY.idx_p2, PY.idx_p3, PY.idx_p4, PY.idx_p5, PY.w_mkLf, PY.w_mkLt, PY.es_star, PY.ks_cons, PY.ks_nil, PY.es_nil, PY.es_v, PY.es_c, PY.es_g, PY.es_bin, PY.es_un, PY.es_cmp, PY.es_chain, PY.es_and, PY.es_or, PY.es_ite, PY.es_tup, PY.es_lst, PY.es_idx, PY.es_slc, PY.es_rev, PY.es_call, PY.es_make, PY.es_bc, PY.es_bm, PY.es_meth, PY.es_attr, PY.es_isi, PY.es_comp, PY.es_frz, PY.e_attr, PY.e_make, PY.e_isi, PY.e_bm, PY.w_rev, PY.w_frz, PY.w_comp, PY.w_csn, PY.w_csc, PY.w_i_e, PY.w_i_range, PY.rng_1, PY.rng_2, PY.slc_str, PY.toI, PY.w_i_enum, PY.w_for, PY.itm_tup, PY.itm_list, PY.itm_scr, PY.itm_str, PY.itN_tup, PY.chk_none, PY.sq_tup, PY.sq_list, PY.bin_L, PY.bin_T, PY.bc_strI, PY.bc_strS, PY.bc_tupL, PY.bc_tupT, PY.bc_max2, PY.bc_min2, PY.e_v, PY.e_c, PY.e_bin, PY.e_un, PY.e_cmp, PY.e_idx, PY.e_bc, PY.e_call, PY.e_lst, PY.e_tup, PY.e_or, PY.e_and, PY.or1, PY.and1, PY.e_slc, PY.o_none, PY.o_some, PY.s_set, PY.s_ret, PY.s_expr, PY.getV_0, PY.getV_s, PY.bin_add, PY.bin_sub, PY.bin_mul, PY.bin_fdiv, PY.bin_mod, PY.bin_pow, PY.bin_cat, PY.cmp_lt, PY.cmp_le, PY.cmp_gt, PY.cmp_ge, PY.un_not, PY.un_neg, PY.idx_tup, PY.idx_list, PY.idx_scr, PY.bc_int, PY.bc_abs, PY.bc_divmod, PY.bc_lenS, PY.bc_lenT, PY.bc_lenL, PY.bc_lenC, PY.a_tup, PY.as_nil, PY.as_cons, PY.okE, PY.bindE, PY.flE, PY.rtE, PY.nxE, PY.opt_s, PY.bind_ok, PY.fl_ok, PY.cm_lt, PY.cm_le, PY.cm_gt, PY.cm_ge, PY.cm_is, PY.cm_isn, PY.cm_in, PY.cm_nin, PY.cm_eqI, PY.cm_neI, PY.cm_eqS, PY.cm_neS, PY.cm_eqL, PY.cm_neL, PY.cm_eqT, PY.cm_neT, PY.cmp_eqS, PY.cmp_neS, PY.cmp_eqI, PY.cmp_neI, PY.cmp_inT, PY.ifQ_t, PY.ifQ_f, PY.tr_b, PY.tr_i, PY.tr_s, PY.tr_n, PY.isi_ii, PY.isi_bi, PY.isi_ss, PY.isi_tt, Option.map_some, PY.atI_0, PY.atI_1, PY.atI_2, PY.atI_3, PY.atI_4, PY.atI_5, List.set_cons_zero, List.set_cons_succ, idx_pie1]
  rw [eLE, doG_all]
  refine w_cmap (k := fun p => D.int (restV ps ((gidx 0 (segs ps)).take (k + 1)) p.1 p.2)) (fun a ma => ?_) ?_
  · rw [w_cB (env' := [some (pie m ls ps), some (.int K), some hd, some (.ref h.length), o4, o5, o6, o7, some (laneD a)]) rfl]
    simp only [PY.wSs, PY.wSn, PY.w_if, PY.w_and2, PY.w_or2, PY.w_ite, PY.w_chain, PY.w_opt_s, PY.w_guard, PY.w_set_n0, PY.w_set_ns, PY.w_aug, PY.aug_add, PY.aug_sub, PY.idx_l0, PY.idx_l1, PY.idx_p0, PY.idx_p1, PY.idx_p2, PY.idx_p3, PY.idx_p4, PY.idx_p5, PY.w_mkLf, PY.w_mkLt, PY.es_star, PY.ks_cons, PY.ks_nil, PY.es_nil, PY.es_v, PY.es_c, PY.es_g, PY.es_bin, PY.es_un, PY.es_cmp, PY.es_chain, PY.es_and, PY.es_or, PY.es_ite, PY.es_tup, PY.es_lst, PY.es_idx, PY.es_slc, PY.es_rev, PY.es_call, PY.es_make, PY.es_bc, PY.es_bm, PY.es_meth, PY.es_attr, PY.es_isi, PY.es_comp, PY.es_frz, PY.e_attr, PY.e_make, PY.e_isi, PY.e_bm, PY.w_rev, PY.w_frz, PY.w_comp, PY.w_csn, PY.w_csc, PY.w_i_e, PY.w_i_range, PY.rng_1, PY.rng_2, PY.slc_str, PY.toI, PY.w_i_enum, PY.w_for, PY.itm_tup, PY.itm_list, PY.itm_scr, PY.itm_str, PY.itN_tup, PY.chk_none, PY.sq_tup, PY.sq_list, PY.bin_L, PY.bin_T, PY.bc_strI, PY.bc_strS, PY.bc_tupL, PY.bc_tupT, PY.bc_max2, PY.bc_min2, PY.e_v, PY.e_c, PY.e_bin, PY.e_un, PY.e_cmp, PY.e_idx, PY.e_bc, PY.e_call, PY.e_lst, PY.e_tup, PY.e_or, PY.e_and, PY.or1, PY.and1, PY.e_slc, PY.o_none, PY.o_some, PY.s_set, PY.s_ret, PY.s_expr, PY.getV_0, PY.getV_s, PY.bin_add, PY.bin_sub, PY.bin_mul, PY.bin_fdiv, PY.bin_mod, PY.bin_pow, PY.bin_cat, PY.cmp_lt, PY.cmp_le, PY.cmp_gt, PY.cmp_ge, PY.un_not, PY.un_neg, PY.idx_tup, PY.idx_list, PY.idx_scr, PY.bc_int, PY.bc_abs, PY.bc_divmod, PY.bc_lenS, PY.bc_lenT, PY.bc_lenL, PY.bc_lenC, PY.a_tup, PY.as_nil, PY.as_cons, PY.okE, PY.bindE, PY.flE, PY.rtE, PY.nxE, PY.opt_s, PY.bind_ok, PY.fl_ok, PY.cm_lt, PY.cm_le, PY.cm_gt, PY.cm_ge, PY.cm_is, PY.cm_isn, PY.cm_in, PY.cm_nin, PY.cm_eqI, PY.cm_neI, PY.cm_eqS, PY.cm_neS, PY.cm_eqL, PY.cm_neL, PY.cm_eqT, PY.cm_neT, PY.cmp_eqS, PY.cmp_neS, PY.cmp_eqI, PY.cmp_neI, PY.cmp_inT, PY.ifQ_t, PY.ifQ_f, PY.tr_b, PY.tr_i, PY.tr_s, PY.tr_n, PY.isi_ii, PY.isi_bi, PY.isi_ss, PY.isi_tt, Option.map_some, PY.atI_0, PY.atI_1, PY.atI_2, PY.atI_3, PY.atI_4, PY.atI_5, List.set_cons_zero, List.set_cons_succ, idx_dct (last_get rfl), encT_at nd a ma]
    simp
  · have e : ls.map (fun p => D.int (restV ps ((gidx 0 (segs ps)).take (k + 1)) p.1 p.2)) = (restL ls ps ((gidx 0 (segs ps)).take (k + 1))).map D.int := by rw [restL, List.map_map]; rfl
    rw [e]
    refine ⟨by first | rfl | trivial, by rw [restL, List.length_map, List.length_map]; omega, ?_⟩
    rw [tr_app (by simp only [D.lt]; exact ints_lt)]
    exact ⟨rfl, rfl⟩
theorem behind {n : Nat} {m : Str} {ls : List (Str × Int)} {ps : List Part} {h : Hh} {k : Nat} (l8 : ps.length ≤ 8) (l3 : ls.length ≤ 3) (nd : (ls.map (·.1)).Nodup) (kc : k ≤ (ps.filter Part.click).length) :
    PY.run prg (n + 2) 32 [pie m ls ps, .int k] h = .ok (.tup ((restL ls ps ((gidx 0 (segs ps)).take (k + 1))).map D.int)) h := by
  refine okR_eq ?_
  have sl := sizeLine_eq
  rw [r_32]
  simp only [fn32]
  obtain ⟨K, hK⟩ : ∃ K : Int, K = (k : Int) := ⟨_, rfl⟩
  rw [← hK]
  obtain ⟨hd, ehd⟩ : ∃ hd, hd = D.list ((hrs ps 0 0 0).map hrD) := ⟨_, rfl⟩
  refine w_cut (fun env hh => hh = h ++ [.dct (encT ls)] ∧ env = [some (pie m ls ps), some (.int K), some hd, some (.ref h.length), none, none, none, none, none]) ?_ ?_
  · have ed : ∀ {T : Tab} {h : Hh}, bcM prg T true .dict [.list (ls.map laneD)] h = .ok (.ref h.length) (h ++ [.dct (encT ls)]) := fun {T h} => bc_dict nd
    simp only [PY.wSs, PY.wSn, PY.w_if, PY.w_and2, PY.w_or2, PY.w_ite, PY.w_chain, PY.w_opt_s, PY.w_guard, PY.w_set_n0, PY.w_set_ns, PY.w_aug, PY.aug_add, PY.aug_sub, PY.idx_l0, PY.idx_l1, PY.idx_p0, PY.idx_p1, PY.idx_p2, PY.idx_p3, PY.idx_p4, PY.idx_p5, PY.w_mkLf, PY.w_mkLt, PY.es_star, PY.ks_cons, PY.ks_nil, PY.es_nil, PY.es_v, PY.es_c, PY.es_g, PY.es_bin, PY.es_un, PY.es_cmp, PY.es_chain, PY.es_and, PY.es_or, PY.es_ite, PY.es_tup, PY.es_lst, PY.es_idx, PY.es_slc, PY.es_rev, PY.es_call, PY.es_make, PY.es_bc, PY.es_bm, PY.es_meth, PY.es_attr, PY.es_isi, PY.es_comp, PY.es_frz, PY.e_attr, PY.e_make, PY.e_isi, PY.e_bm, PY.w_rev, PY.w_frz, PY.w_comp, PY.w_csn, PY.w_csc, PY.w_i_e, PY.w_i_range, PY.rng_1, PY.rng_2, PY.slc_str, PY.toI, PY.w_i_enum, PY.w_for, PY.itm_tup, PY.itm_list, PY.itm_scr, PY.itm_str, PY.itN_tup, PY.chk_none, PY.sq_tup, PY.sq_list, PY.bin_L, PY.bin_T, PY.bc_strI, PY.bc_strS, PY.bc_tupL, PY.bc_tupT, PY.bc_max2, PY.bc_min2, PY.e_v, PY.e_c, PY.e_bin, PY.e_un, PY.e_cmp, PY.e_idx, PY.e_bc, PY.e_call, PY.e_lst, PY.e_tup, PY.e_or, PY.e_and, PY.or1, PY.and1, PY.e_slc, PY.o_none, PY.o_some, PY.s_set, PY.s_ret, PY.s_expr, PY.getV_0, PY.getV_s, PY.bin_add, PY.bin_sub, PY.bin_mul, PY.bin_fdiv, PY.bin_mod, PY.bin_pow, PY.bin_cat, PY.cmp_lt, PY.cmp_le, PY.cmp_gt, PY.cmp_ge, PY.un_not, PY.un_neg, PY.idx_tup, PY.idx_list, PY.idx_scr, PY.bc_int, PY.bc_abs, PY.bc_divmod, PY.bc_lenS, PY.bc_lenT, PY.bc_lenL, PY.bc_lenC, PY.a_tup, PY.as_nil, PY.as_cons, PY.okE, PY.bindE, PY.flE, PY.rtE, PY.nxE, PY.opt_s, PY.bind_ok, PY.fl_ok, PY.cm_lt, PY.cm_le, PY.cm_gt, PY.cm_ge, PY.cm_is, PY.cm_isn, PY.cm_in, PY.cm_nin, PY.cm_eqI, PY.cm_neI, PY.cm_eqS, PY.cm_neS, PY.cm_eqL, PY.cm_neL, PY.cm_eqT, PY.cm_neT, PY.cmp_eqS, PY.cmp_neS, PY.cmp_eqI, PY.cmp_neI, PY.cmp_inT, PY.ifQ_t, PY.ifQ_f, PY.tr_b, PY.tr_i, PY.tr_s, PY.tr_n, PY.isi_ii, PY.isi_bi, PY.isi_ss, PY.isi_tt, Option.map_some, PY.atI_0, PY.atI_1, PY.atI_2, PY.atI_3, PY.atI_4, PY.atI_5, List.set_cons_zero, List.set_cons_succ, idx_pie2, c_31, hours l8, idx_pie1, bc_listT, ed]
    exact ⟨by rw [List.length_map]; omega, by simp [sl], by first | rfl | trivial, by rw [ehd]⟩
  rintro env hh ⟨rfl, rfl⟩
  exact wF_mono (behind2 hK l8 l3 nd kc ehd) fun _ _ z => z.elim
end K12
end
section
set_option Elab.async false
set_option linter.all false
set_option maxRecDepth 100000
set_option maxHeartbeats 2000000
namespace K12
open PySem PyProof.Rows PY L12
theorem bc_reprR {P : Prg} {T : Tab} {m : Bool} {h : Hh} {i : Nat} {xs : List D} {ds : List PyData} {n B : Nat} (eh : h[i]? = some (.lst xs)) (e : D.datas xs = some ds) (r : Rp n B (.list ds)) (hn : n ≤ 100) (hB : B ≤ 16777216) : bcM P T m .repr [.ref i] h = .ok (.str (PyData.shown (.list ds))) h := by
  have e2 : PY.dataOf h (.ref i) = some (.list ds) := by
    simp only [PY.dataOf, eh, e, Option.map_some]
  show (match PY.dataOf h (.ref i) with
    | some p => guard (p.showable && decide (p.depth ≤ 100) && !p.hasDict && decide (p.shown.length ≤ sizeLine)) (Res.ok (D.str p.shown) h)
    | none => .stuck) = _
  simp only [e2]
  have sl := sizeLine_eq
  have r1 := r.d
  have r2 := r.l
  rw [guard_t]
  rw [r.s, r.h, decide_eq_true (by omega), decide_eq_true (by omega)]
  rfl
theorem paced {n : Nat} {m m' : Str} {ls : List (Str × Int)} {ps : List Part} {h : Hh} (g : GS m ls ps) (hm : m' = "run" ∨ m' = "finish") : PY.run prg (n + 7) 49 [sld m ls ps, .str m'] h = .ok (sld m' ls ps) h := by
  refine okR_eq ?_
  have g' : GS m' ls ps := ⟨hm, g.hl, g.hp⟩
  have e := mkE (n := n) (h := h) g'
  rw [r_49]
  unfold sld
  simp only [PY.wSs, PY.wSn, PY.w_if, PY.w_and2, PY.w_or2, PY.w_ite, PY.w_chain, PY.w_opt_s, PY.w_guard, PY.w_set_n0, PY.w_set_ns, PY.w_aug, PY.aug_add, PY.aug_sub, PY.idx_l0, PY.idx_l1, PY.idx_p0, PY.idx_p1, PY.idx_p2, PY.idx_p3, PY.idx_p4, PY.idx_p5, PY.w_mkLf, PY.w_mkLt, PY.es_star, PY.ks_cons, PY.ks_nil, PY.es_nil, PY.es_v, PY.es_c, PY.es_g, PY.es_bin, PY.es_un, PY.es_cmp, PY.es_chain, PY.es_and, PY.es_or, PY.es_ite, PY.es_tup, PY.es_lst, PY.es_idx, PY.es_slc, PY.es_rev, PY.es_call, PY.es_make, PY.es_bc, PY.es_bm, PY.es_meth, PY.es_attr, PY.es_isi, PY.es_comp, PY.es_frz, PY.e_attr, PY.e_make, PY.e_isi, PY.e_bm, PY.w_rev, PY.w_frz, PY.w_comp, PY.w_csn, PY.w_csc, PY.w_i_e, PY.w_i_range, PY.rng_1, PY.rng_2, PY.slc_str, PY.toI, PY.w_i_enum, PY.w_for, PY.itm_tup, PY.itm_list, PY.itm_scr, PY.itm_str, PY.itN_tup, PY.chk_none, PY.sq_tup, PY.sq_list, PY.bin_L, PY.bin_T, PY.bc_strI, PY.bc_strS, PY.bc_tupL, PY.bc_tupT, PY.bc_max2, PY.bc_min2, PY.e_v, PY.e_c, PY.e_bin, PY.e_un, PY.e_cmp, PY.e_idx, PY.e_bc, PY.e_call, PY.e_lst, PY.e_tup, PY.e_or, PY.e_and, PY.or1, PY.and1, PY.e_slc, PY.o_none, PY.o_some, PY.s_set, PY.s_ret, PY.s_expr, PY.getV_0, PY.getV_s, PY.bin_add, PY.bin_sub, PY.bin_mul, PY.bin_fdiv, PY.bin_mod, PY.bin_pow, PY.bin_cat, PY.cmp_lt, PY.cmp_le, PY.cmp_gt, PY.cmp_ge, PY.un_not, PY.un_neg, PY.idx_tup, PY.idx_list, PY.idx_scr, PY.bc_int, PY.bc_abs, PY.bc_divmod, PY.bc_lenS, PY.bc_lenT, PY.bc_lenL, PY.bc_lenC, PY.a_tup, PY.as_nil, PY.as_cons, PY.okE, PY.bindE, PY.flE, PY.rtE, PY.nxE, PY.opt_s, PY.bind_ok, PY.fl_ok, PY.cm_lt, PY.cm_le, PY.cm_gt, PY.cm_ge, PY.cm_is, PY.cm_isn, PY.cm_in, PY.cm_nin, PY.cm_eqI, PY.cm_neI, PY.cm_eqS, PY.cm_neS, PY.cm_eqL, PY.cm_neL, PY.cm_eqT, PY.cm_neT, PY.cmp_eqS, PY.cmp_neS, PY.cmp_eqI, PY.cmp_neI, PY.cmp_inT, PY.ifQ_t, PY.ifQ_f, PY.tr_b, PY.tr_i, PY.tr_s, PY.tr_n, PY.isi_ii, PY.isi_bi, PY.isi_ss, PY.isi_tt, Option.map_some, PY.atI_0, PY.atI_1, PY.atI_2, PY.atI_3, PY.atI_4, PY.atI_5, List.set_cons_zero, List.set_cons_succ, fn49, at_9_0, at_10_0, e]
  rw [tr_same (by simp [sld, D.lt, D.lts, lanes_lt, parts_lt])]
  exact ⟨rfl, rfl⟩
theorem mk_paced {m : Str} {ls : List (Str × Int)} {ps : List Part} {h : Hh} : methK prg 7 (sld m ls ps) h = some (false, 49) := rfl
theorem krest {T : Tab} {d e : D} {h : Hh} : callM prg T 20 [] [("number", e), ("slide", d)] h = T 20 [d, e] h := callM_of (F := fn20) rfl rfl
theorem restG_b {ps : List Part} {n : Str} {v : Int} {g : List Int} (hp : ∀ p ∈ ps, -1000000 ≤ p.b ∧ p.b ≤ 1000000) (hv : -1000000 ≤ v ∧ v ≤ 1000000) : -1000000 ≤ restG ps n v g ∧ restG ps n v g ≤ 1000000 := by
  unfold restG
  split
  · exact hv
  · rename_i i is _
    generalize (maxP (kyAt ps i) (is.map (kyAt ps))).2 = j
    unfold ptAt
    rw [List.getD_eq_getElem?_getD]
    cases e : ps[j.toNat]? with
    | none => exact ⟨by decide, by decide⟩
    | some p => exact hp p (List.mem_of_getElem? e)
theorem restV_b {ps : List Part} {n : Str} (hp : ∀ p ∈ ps, -1000000 ≤ p.b ∧ p.b ≤ 1000000) : ∀ {gs : List (List Int)} {v : Int}, -1000000 ≤ v ∧ v ≤ 1000000 → -1000000 ≤ restV ps gs n v ∧ restV ps gs n v ≤ 1000000
  | [], _, hv => hv
  | g :: gs, v, hv => restV_b (gs := gs) hp (restG_b hp hv)
def dueP (xs : List Int) : PyData := .tuple (xs.map .int)
theorem due_data {xs : List Int} : (D.tup (xs.map D.int)).data = some (dueP xs) := by
  have e : D.datas (xs.map D.int) = some (xs.map PyData.int) := datas_map fun a => by simp [D.data]
  simp [D.data, e, dueP]
theorem due_rp {m : Str} {ls : List (Str × Int)} {ps : List Part} {gs : List (List Int)} (g : GS m ls ps) : Rp 1 33 (dueP (restL ls ps gs)) := by
  refine rp_tuple (n := 0) (B := 8) (k := 3) (fun d dm => ?_) (by rw [restL, List.length_map, List.length_map]; exact g.hl.l1)
  obtain ⟨x, xm, rfl⟩ := List.mem_map.mp dm
  obtain ⟨p, pm, rfl⟩ := List.mem_map.mp xm
  have gp := g.hl.all p pm
  have := restV_b (n := p.1) (gs := gs) (fun q qm => ⟨(g.hp.all q qm).b0, (g.hp.all q qm).b1⟩) ⟨gp.v0, gp.v1⟩
  exact rp_int this.1 this.2
theorem rp4 {p : PyData} (r : Rp 1 33 p) : Rp 2 142 (.list [p, p, p, p]) := rp_list (ds := [p, p, p, p]) (k := 4) (fun d dm => by
  have : d = p := by simpa using dm
  rw [this]; exact r) (by simp)
/-- one number's round -/
theorem one {n : Nat} {m : Str} {ls : List (Str × Int)} {ps : List Part} {h : Hh} {k : Nat} {a b c : Option D} {kr : D → Hh → Prop} {o6 o7 : Option D} (g : GS m ls ps) (kc : k ≤ (ps.filter Part.click).length) {K : Int} (hK : K = (k : Int)) :
    wF (evSs prg (PY.run prg (n + 8)) [(.set (.n 6) (.call 32 [(.v 3), (.v 5)] [])),
      (.set (.n 7) (.lst true [(.call 20 [(.v 4), (.v 5)] []), (.call 20 [] [("number", (.v 5)), ("slide", (.v 4))])])),
      (.expr (.bm false .append (.v 7) [(.call 20 [(.meth 7 (.v 4) [(.c (.str "finish"))] []), (.v 5)] [])])),
      (.expr (.bm false .append (.v 7) [(.call 20 [(.meth 7 (.v 4) [(.c (.str "run"))] []), (.v 5)] [])])),
      (.ifs (.cmp .NotEq (.bc false .repr [(.v 7)]) (.bc false .repr [(.bin false .Mult (.lst false [(.v 6)]) (.c (.int 4)))]))
      [(.ret (.c (.bool false)))]
      [])] [a, b, c, some (pie m ls ps), some (sld m ls ps), some (.int K), o6, o7] h)
      (fun env hh => ∃ o6 o7 x, hh = h ++ x ∧ env = [a, b, c, some (pie m ls ps), some (sld m ls ps), some (.int K), o6, o7]) kr := by
  have sl := sizeLine_eq
  have l8 := g.hp.l1
  have l3 := g.hl.l1
  subst hK
  obtain ⟨xs, exs⟩ : ∃ xs, xs = restL ls ps ((gidx 0 (segs ps)).take (k + 1)) := ⟨_, rfl⟩
  have r4 : Rp 2 142 (.list [dueP xs, dueP xs, dueP xs, dueP xs]) := by rw [exs]; exact rp4 (due_rp g)
  have ds4 : D.datas [D.tup (xs.map D.int), D.tup (xs.map D.int), D.tup (xs.map D.int), D.tup (xs.map D.int)] = some [dueP xs, dueP xs, dueP xs, dueP xs] := by simp [D.datas, due_data]
  have e1 : ∀ {n' : Nat} {m' : Str} {h' : Hh}, PY.run prg (n' + 5) 20 [sld m' ls ps, .int (k : Int)] h' = .ok (.tup (xs.map D.int)) h' := fun {n' m' h'} => by rw [exs]; exact rest l8 l3 kc
  have e2 : ∀ {n' : Nat} {h' : Hh}, PY.run prg (n' + 2) 32 [pie m ls ps, .int (k : Int)] h' = .ok (.tup (xs.map D.int)) h' := fun {n' h'} => by rw [exs]; exact behind l8 l3 g.hl.nd kc
  have e3 : (List.replicate (4 : Int).toNat [D.tup (xs.map D.int)]).flatten = [D.tup (xs.map D.int), D.tup (xs.map D.int), D.tup (xs.map D.int), D.tup (xs.map D.int)] := rfl
  simp only [PY.wSs, PY.wSn, PY.w_if, PY.w_and2, PY.w_or2, PY.w_ite, PY.w_chain, PY.w_opt_s, PY.w_guard, PY.w_set_n0, PY.w_set_ns, PY.w_aug, PY.aug_add, PY.aug_sub, PY.idx_l0, PY.idx_l1, PY.idx_p0, PY.idx_p1, PY.idx_p2, PY.idx_p3, PY.idx_p4, PY.idx_p5, PY.w_mkLf, PY.w_mkLt, PY.es_star, PY.ks_cons, PY.ks_nil, PY.es_nil, PY.es_v, PY.es_c, PY.es_g, PY.es_bin, PY.es_un, PY.es_cmp, PY.es_chain, PY.es_and, PY.es_or, PY.es_ite, PY.es_tup, PY.es_lst, PY.es_idx, PY.es_slc, PY.es_rev, PY.es_call, PY.es_make, PY.es_bc, PY.es_bm, PY.es_meth, PY.es_attr, PY.es_isi, PY.es_comp, PY.es_frz, PY.e_attr, PY.e_make, PY.e_isi, PY.e_bm, PY.w_rev, PY.w_frz, PY.w_comp, PY.w_csn, PY.w_csc, PY.w_i_e, PY.w_i_range, PY.rng_1, PY.rng_2, PY.slc_str, PY.toI, PY.w_i_enum, PY.w_for, PY.itm_tup, PY.itm_list, PY.itm_scr, PY.itm_str, PY.itN_tup, PY.chk_none, PY.sq_tup, PY.sq_list, PY.bin_L, PY.bin_T, PY.bc_strI, PY.bc_strS, PY.bc_tupL, PY.bc_tupT, PY.bc_max2, PY.bc_min2, PY.e_v, PY.e_c, PY.e_bin, PY.e_un, PY.e_cmp, PY.e_idx, PY.e_bc, PY.e_call, PY.e_lst, PY.e_tup, PY.e_or, PY.e_and, PY.or1, PY.and1, PY.e_slc, PY.o_none, PY.o_some, PY.s_set, PY.s_ret, PY.s_expr, PY.getV_0, PY.getV_s, PY.bin_add, PY.bin_sub, PY.bin_mul, PY.bin_fdiv, PY.bin_mod, PY.bin_pow, PY.bin_cat, PY.cmp_lt, PY.cmp_le, PY.cmp_gt, PY.cmp_ge, PY.un_not, PY.un_neg, PY.idx_tup, PY.idx_list, PY.idx_scr, PY.bc_int, PY.bc_abs, PY.bc_divmod, PY.bc_lenS, PY.bc_lenT, PY.bc_lenL, PY.bc_lenC, PY.a_tup, PY.as_nil, PY.as_cons, PY.okE, PY.bindE, PY.flE, PY.rtE, PY.nxE, PY.opt_s, PY.bind_ok, PY.fl_ok, PY.cm_lt, PY.cm_le, PY.cm_gt, PY.cm_ge, PY.cm_is, PY.cm_isn, PY.cm_in, PY.cm_nin, PY.cm_eqI, PY.cm_neI, PY.cm_eqS, PY.cm_neS, PY.cm_eqL, PY.cm_neL, PY.cm_eqT, PY.cm_neT, PY.cmp_eqS, PY.cmp_neS, PY.cmp_eqI, PY.cmp_neI, PY.cmp_inT, PY.ifQ_t, PY.ifQ_f, PY.tr_b, PY.tr_i, PY.tr_s, PY.tr_n, PY.isi_ii, PY.isi_bi, PY.isi_ss, PY.isi_tt, Option.map_some, PY.atI_0, PY.atI_1, PY.atI_2, PY.atI_3, PY.atI_4, PY.atI_5, List.set_cons_zero, List.set_cons_succ, c_32, e2, c_20, e1, krest, w_meth, mk_paced, c_49, paced g (.inl rfl), paced g (.inr rfl), rc_app (last_get rfl), w_app (last_get rfl), last_set rfl, List.cons_append, List.nil_append, bc_reprR (last_get rfl) ds4 r4 (by decide) (by decide), bin_LI, e3, bc_repr ds4 r4 (by decide) (by decide), ifQ_nd]
  refine ⟨by simp [sl], trivial, by simp [sl], trivial, by simp [sl], by simp [sl], by decide, by simp [sl], fun _ => ⟨_, _, _, by first | rfl | trivial, rfl⟩, fun z => absurd (by first | rfl | trivial) z⟩
theorem right {n i : Nat} {h : Hh} (s : Sk i h) : okR (PY.run prg (n + 9) 34 [.ref i] h) fun d h' => d = .bool true ∧ Stp i h h' := by
  have sl := sizeLine_eq
  rw [r_34]
  simp only [fn34]
  refine w_cut (fun env hh => ∃ h1 x, hh = h1 ++ x ∧ Stp i h h1) ?_ ?_
  · simp only [PY.wSs, PY.wSn, PY.w_if, PY.w_and2, PY.w_or2, PY.w_ite, PY.w_chain, PY.w_opt_s, PY.w_guard, PY.w_set_n0, PY.w_set_ns, PY.w_aug, PY.aug_add, PY.aug_sub, PY.idx_l0, PY.idx_l1, PY.idx_p0, PY.idx_p1, PY.idx_p2, PY.idx_p3, PY.idx_p4, PY.idx_p5, PY.w_mkLf, PY.w_mkLt, PY.es_star, PY.ks_cons, PY.ks_nil, PY.es_nil, PY.es_v, PY.es_c, PY.es_g, PY.es_bin, PY.es_un, PY.es_cmp, PY.es_chain, PY.es_and, PY.es_or, PY.es_ite, PY.es_tup, PY.es_lst, PY.es_idx, PY.es_slc, PY.es_rev, PY.es_call, PY.es_make, PY.es_bc, PY.es_bm, PY.es_meth, PY.es_attr, PY.es_isi, PY.es_comp, PY.es_frz, PY.e_attr, PY.e_make, PY.e_isi, PY.e_bm, PY.w_rev, PY.w_frz, PY.w_comp, PY.w_csn, PY.w_csc, PY.w_i_e, PY.w_i_range, PY.rng_1, PY.rng_2, PY.slc_str, PY.toI, PY.w_i_enum, PY.w_for, PY.itm_tup, PY.itm_list, PY.itm_scr, PY.itm_str, PY.itN_tup, PY.chk_none, PY.sq_tup, PY.sq_list, PY.bin_L, PY.bin_T, PY.bc_strI, PY.bc_strS, PY.bc_tupL, PY.bc_tupT, PY.bc_max2, PY.bc_min2, PY.e_v, PY.e_c, PY.e_bin, PY.e_un, PY.e_cmp, PY.e_idx, PY.e_bc, PY.e_call, PY.e_lst, PY.e_tup, PY.e_or, PY.e_and, PY.or1, PY.and1, PY.e_slc, PY.o_none, PY.o_some, PY.s_set, PY.s_ret, PY.s_expr, PY.getV_0, PY.getV_s, PY.bin_add, PY.bin_sub, PY.bin_mul, PY.bin_fdiv, PY.bin_mod, PY.bin_pow, PY.bin_cat, PY.cmp_lt, PY.cmp_le, PY.cmp_gt, PY.cmp_ge, PY.un_not, PY.un_neg, PY.idx_tup, PY.idx_list, PY.idx_scr, PY.bc_int, PY.bc_abs, PY.bc_divmod, PY.bc_lenS, PY.bc_lenT, PY.bc_lenL, PY.bc_lenC, PY.a_tup, PY.as_nil, PY.as_cons, PY.okE, PY.bindE, PY.flE, PY.rtE, PY.nxE, PY.opt_s, PY.bind_ok, PY.fl_ok, PY.cm_lt, PY.cm_le, PY.cm_gt, PY.cm_ge, PY.cm_is, PY.cm_isn, PY.cm_in, PY.cm_nin, PY.cm_eqI, PY.cm_neI, PY.cm_eqS, PY.cm_neS, PY.cm_eqL, PY.cm_neL, PY.cm_eqT, PY.cm_neT, PY.cmp_eqS, PY.cmp_neS, PY.cmp_eqI, PY.cmp_neI, PY.cmp_inT, PY.ifQ_t, PY.ifQ_f, PY.tr_b, PY.tr_i, PY.tr_s, PY.tr_n, PY.isi_ii, PY.isi_bi, PY.isi_ss, PY.isi_tt, Option.map_some, PY.atI_0, PY.atI_1, PY.atI_2, PY.atI_3, PY.atI_4, PY.atI_5, List.set_cons_zero, List.set_cons_succ]
    refine ⟨inR_ok (by decide) (by decide), ?_⟩
    refine forM_upto (I := fun _ _ env hh => ∃ (h1 x : Hh) (o1 o2 o3 o4 o5 o6 o7 : Option D), hh = h1 ++ x ∧ Stp i h h1 ∧ env = [some (.ref i), o1, o2, o3, o4, o5, o6, o7]) (fun _ _ _ _ _ => rfl) ?_ ?_ ⟨h, [], none, none, none, none, none, none, none, by simp, Stp.refl s, rfl⟩
    · rintro k' mm env hh ⟨h1, x, o1, o2, o3, o4, o5, o6, o7, rfl, s1, rfl⟩
      show wF (evSs _ _ _ [some (.ref i), some (.int k'), o2, o3, o4, o5, o6, o7] _) _ _
      refine w_cut (fun env hh => ∃ (h2 : Hh) (t : Int), hh = h2 ++ x ∧ Stp i h h2 ∧ 0 < t ∧ t ≤ 1000000 ∧ env = [some (.ref i), some (.int k'), some (.int t), o3, o4, o5, o6, o7]) ?_ ?_
      · simp only [PY.wSs, PY.wSn, PY.w_if, PY.w_and2, PY.w_or2, PY.w_ite, PY.w_chain, PY.w_opt_s, PY.w_guard, PY.w_set_n0, PY.w_set_ns, PY.w_aug, PY.aug_add, PY.aug_sub, PY.idx_l0, PY.idx_l1, PY.idx_p0, PY.idx_p1, PY.idx_p2, PY.idx_p3, PY.idx_p4, PY.idx_p5, PY.w_mkLf, PY.w_mkLt, PY.es_star, PY.ks_cons, PY.ks_nil, PY.es_nil, PY.es_v, PY.es_c, PY.es_g, PY.es_bin, PY.es_un, PY.es_cmp, PY.es_chain, PY.es_and, PY.es_or, PY.es_ite, PY.es_tup, PY.es_lst, PY.es_idx, PY.es_slc, PY.es_rev, PY.es_call, PY.es_make, PY.es_bc, PY.es_bm, PY.es_meth, PY.es_attr, PY.es_isi, PY.es_comp, PY.es_frz, PY.e_attr, PY.e_make, PY.e_isi, PY.e_bm, PY.w_rev, PY.w_frz, PY.w_comp, PY.w_csn, PY.w_csc, PY.w_i_e, PY.w_i_range, PY.rng_1, PY.rng_2, PY.slc_str, PY.toI, PY.w_i_enum, PY.w_for, PY.itm_tup, PY.itm_list, PY.itm_scr, PY.itm_str, PY.itN_tup, PY.chk_none, PY.sq_tup, PY.sq_list, PY.bin_L, PY.bin_T, PY.bc_strI, PY.bc_strS, PY.bc_tupL, PY.bc_tupT, PY.bc_max2, PY.bc_min2, PY.e_v, PY.e_c, PY.e_bin, PY.e_un, PY.e_cmp, PY.e_idx, PY.e_bc, PY.e_call, PY.e_lst, PY.e_tup, PY.e_or, PY.e_and, PY.or1, PY.and1, PY.e_slc, PY.o_none, PY.o_some, PY.s_set, PY.s_ret, PY.s_expr, PY.getV_0, PY.getV_s, PY.bin_add, PY.bin_sub, PY.bin_mul, PY.bin_fdiv, PY.bin_mod, PY.bin_pow, PY.bin_cat, PY.cmp_lt, PY.cmp_le, PY.cmp_gt, PY.cmp_ge, PY.un_not, PY.un_neg, PY.idx_tup, PY.idx_list, PY.idx_scr, PY.bc_int, PY.bc_abs, PY.bc_divmod, PY.bc_lenS, PY.bc_lenT, PY.bc_lenL, PY.bc_lenC, PY.a_tup, PY.as_nil, PY.as_cons, PY.okE, PY.bindE, PY.flE, PY.rtE, PY.nxE, PY.opt_s, PY.bind_ok, PY.fl_ok, PY.cm_lt, PY.cm_le, PY.cm_gt, PY.cm_ge, PY.cm_is, PY.cm_isn, PY.cm_in, PY.cm_nin, PY.cm_eqI, PY.cm_neI, PY.cm_eqS, PY.cm_neS, PY.cm_eqL, PY.cm_neL, PY.cm_eqT, PY.cm_neT, PY.cmp_eqS, PY.cmp_neS, PY.cmp_eqI, PY.cmp_neI, PY.cmp_inT, PY.ifQ_t, PY.ifQ_f, PY.tr_b, PY.tr_i, PY.tr_s, PY.tr_n, PY.isi_ii, PY.isi_bi, PY.isi_ss, PY.isi_tt, Option.map_some, PY.atI_0, PY.atI_1, PY.atI_2, PY.atI_3, PY.atI_4, PY.atI_5, List.set_cons_zero, List.set_cons_succ, c_23]
        refine ⟨fits_pow, by simp [sl], pickL s1.sk.app (by simp) (by simp) (fun d h2 dm s2 => ?_) rfl⟩
        obtain ⟨h3, rfl, s3⟩ := s2.split s1.sk.lt
        have kp : ∃ k : Int, d = .int k ∧ 0 < k ∧ k ≤ 1000000 := by
          simp only [List.mem_cons, List.not_mem_nil, or_false] at dm
          rcases dm with rfl | rfl <;> exact ⟨_, rfl, by decide, by decide⟩
        obtain ⟨k, rfl, k0, k1⟩ := kp
        exact ⟨h3, k, rfl, s1.trans s3, k0, k1, rfl⟩
      rintro env hh ⟨h2, t, rfl, s2, t0, t1, rfl⟩
      refine w_cut (fun env hh => ∃ (h3 : Hh) (m : Str) (ls : List (Str × Int)) (ps : List Part), hh = h3 ++ x ∧ Stp i h h3 ∧ GS m ls ps ∧ env = [some (.ref i), some (.int k'), some (.int t), some (pie m ls ps), o4, o5, o6, o7]) ?_ ?_
      · simp only [PY.wSs, PY.wSn, PY.w_if, PY.w_and2, PY.w_or2, PY.w_ite, PY.w_chain, PY.w_opt_s, PY.w_guard, PY.w_set_n0, PY.w_set_ns, PY.w_aug, PY.aug_add, PY.aug_sub, PY.idx_l0, PY.idx_l1, PY.idx_p0, PY.idx_p1, PY.idx_p2, PY.idx_p3, PY.idx_p4, PY.idx_p5, PY.w_mkLf, PY.w_mkLt, PY.es_star, PY.ks_cons, PY.ks_nil, PY.es_nil, PY.es_v, PY.es_c, PY.es_g, PY.es_bin, PY.es_un, PY.es_cmp, PY.es_chain, PY.es_and, PY.es_or, PY.es_ite, PY.es_tup, PY.es_lst, PY.es_idx, PY.es_slc, PY.es_rev, PY.es_call, PY.es_make, PY.es_bc, PY.es_bm, PY.es_meth, PY.es_attr, PY.es_isi, PY.es_comp, PY.es_frz, PY.e_attr, PY.e_make, PY.e_isi, PY.e_bm, PY.w_rev, PY.w_frz, PY.w_comp, PY.w_csn, PY.w_csc, PY.w_i_e, PY.w_i_range, PY.rng_1, PY.rng_2, PY.slc_str, PY.toI, PY.w_i_enum, PY.w_for, PY.itm_tup, PY.itm_list, PY.itm_scr, PY.itm_str, PY.itN_tup, PY.chk_none, PY.sq_tup, PY.sq_list, PY.bin_L, PY.bin_T, PY.bc_strI, PY.bc_strS, PY.bc_tupL, PY.bc_tupT, PY.bc_max2, PY.bc_min2, PY.e_v, PY.e_c, PY.e_bin, PY.e_un, PY.e_cmp, PY.e_idx, PY.e_bc, PY.e_call, PY.e_lst, PY.e_tup, PY.e_or, PY.e_and, PY.or1, PY.and1, PY.e_slc, PY.o_none, PY.o_some, PY.s_set, PY.s_ret, PY.s_expr, PY.getV_0, PY.getV_s, PY.bin_add, PY.bin_sub, PY.bin_mul, PY.bin_fdiv, PY.bin_mod, PY.bin_pow, PY.bin_cat, PY.cmp_lt, PY.cmp_le, PY.cmp_gt, PY.cmp_ge, PY.un_not, PY.un_neg, PY.idx_tup, PY.idx_list, PY.idx_scr, PY.bc_int, PY.bc_abs, PY.bc_divmod, PY.bc_lenS, PY.bc_lenT, PY.bc_lenL, PY.bc_lenC, PY.a_tup, PY.as_nil, PY.as_cons, PY.okE, PY.bindE, PY.flE, PY.rtE, PY.nxE, PY.opt_s, PY.bind_ok, PY.fl_ok, PY.cm_lt, PY.cm_le, PY.cm_gt, PY.cm_ge, PY.cm_is, PY.cm_isn, PY.cm_in, PY.cm_nin, PY.cm_eqI, PY.cm_neI, PY.cm_eqS, PY.cm_neS, PY.cm_eqL, PY.cm_neL, PY.cm_eqT, PY.cm_neT, PY.cmp_eqS, PY.cmp_neS, PY.cmp_eqI, PY.cmp_neI, PY.cmp_inT, PY.ifQ_t, PY.ifQ_f, PY.tr_b, PY.tr_i, PY.tr_s, PY.tr_n, PY.isi_ii, PY.isi_bi, PY.isi_ss, PY.isi_tt, Option.map_some, PY.atI_0, PY.atI_1, PY.atI_2, PY.atI_3, PY.atI_4, PY.atI_5, List.set_cons_zero, List.set_cons_succ, c_23, c_29]
        refine ⟨by simp [sl], pickL s2.sk.app (by simp) (by simp) (fun d h3 dm s3 => ?_) rfl⟩
        refine ⟨fits_pow, by simp [sl], pickL s3.sk (by simp) (by simp) (fun d2 h4 dm2 s4 => ?_) rfl⟩
        have kd : ∃ k : Int, d = .int k ∧ 0 ≤ k ∧ k ≤ 8 := by
          simp only [List.mem_cons, List.not_mem_nil, or_false] at dm
          rcases dm with rfl | rfl | rfl <;> exact ⟨_, rfl, by decide, by decide⟩
        have kp : ∃ k : Int, d2 = .int k ∧ 0 < k ∧ k ≤ 1000000 := by
          simp only [List.mem_cons, List.not_mem_nil, or_false] at dm2
          rcases dm2 with rfl | rfl | rfl <;> exact ⟨_, rfl, by decide, by decide⟩
        obtain ⟨k, rfl, k0, k1⟩ := kd
        obtain ⟨sp, rfl, p0, p1⟩ := kp
        refine okR_mono (drawn s4.sk k0 k1 p0 p1 t0 t1) ?_
        rintro _ h5 ⟨s5, m, ls, ps, rfl, g, _⟩
        obtain ⟨h6, rfl, s6⟩ := ((s3.trans s4).trans s5).split s2.sk.lt
        exact ⟨h6, m, ls, ps, rfl, s2.trans s6, g, rfl⟩
      rintro env hh ⟨h3, m, ls, ps, rfl, s3, g, rfl⟩
      have l8 := g.hp.l1
      refine w_cut (fun env hh => hh = h3 ++ x ∧ env = [some (.ref i), some (.int k'), some (.int t), some (pie m ls ps), some (sld m ls ps), o5, o6, o7]) ?_ ?_
      · simp only [PY.wSs, PY.wSn, PY.w_if, PY.w_and2, PY.w_or2, PY.w_ite, PY.w_chain, PY.w_opt_s, PY.w_guard, PY.w_set_n0, PY.w_set_ns, PY.w_aug, PY.aug_add, PY.aug_sub, PY.idx_l0, PY.idx_l1, PY.idx_p0, PY.idx_p1, PY.idx_p2, PY.idx_p3, PY.idx_p4, PY.idx_p5, PY.w_mkLf, PY.w_mkLt, PY.es_star, PY.ks_cons, PY.ks_nil, PY.es_nil, PY.es_v, PY.es_c, PY.es_g, PY.es_bin, PY.es_un, PY.es_cmp, PY.es_chain, PY.es_and, PY.es_or, PY.es_ite, PY.es_tup, PY.es_lst, PY.es_idx, PY.es_slc, PY.es_rev, PY.es_call, PY.es_make, PY.es_bc, PY.es_bm, PY.es_meth, PY.es_attr, PY.es_isi, PY.es_comp, PY.es_frz, PY.e_attr, PY.e_make, PY.e_isi, PY.e_bm, PY.w_rev, PY.w_frz, PY.w_comp, PY.w_csn, PY.w_csc, PY.w_i_e, PY.w_i_range, PY.rng_1, PY.rng_2, PY.slc_str, PY.toI, PY.w_i_enum, PY.w_for, PY.itm_tup, PY.itm_list, PY.itm_scr, PY.itm_str, PY.itN_tup, PY.chk_none, PY.sq_tup, PY.sq_list, PY.bin_L, PY.bin_T, PY.bc_strI, PY.bc_strS, PY.bc_tupL, PY.bc_tupT, PY.bc_max2, PY.bc_min2, PY.e_v, PY.e_c, PY.e_bin, PY.e_un, PY.e_cmp, PY.e_idx, PY.e_bc, PY.e_call, PY.e_lst, PY.e_tup, PY.e_or, PY.e_and, PY.or1, PY.and1, PY.e_slc, PY.o_none, PY.o_some, PY.s_set, PY.s_ret, PY.s_expr, PY.getV_0, PY.getV_s, PY.bin_add, PY.bin_sub, PY.bin_mul, PY.bin_fdiv, PY.bin_mod, PY.bin_pow, PY.bin_cat, PY.cmp_lt, PY.cmp_le, PY.cmp_gt, PY.cmp_ge, PY.un_not, PY.un_neg, PY.idx_tup, PY.idx_list, PY.idx_scr, PY.bc_int, PY.bc_abs, PY.bc_divmod, PY.bc_lenS, PY.bc_lenT, PY.bc_lenL, PY.bc_lenC, PY.a_tup, PY.as_nil, PY.as_cons, PY.okE, PY.bindE, PY.flE, PY.rtE, PY.nxE, PY.opt_s, PY.bind_ok, PY.fl_ok, PY.cm_lt, PY.cm_le, PY.cm_gt, PY.cm_ge, PY.cm_is, PY.cm_isn, PY.cm_in, PY.cm_nin, PY.cm_eqI, PY.cm_neI, PY.cm_eqS, PY.cm_neS, PY.cm_eqL, PY.cm_neL, PY.cm_eqT, PY.cm_neT, PY.cmp_eqS, PY.cmp_neS, PY.cmp_eqI, PY.cmp_neI, PY.cmp_inT, PY.ifQ_t, PY.ifQ_f, PY.tr_b, PY.tr_i, PY.tr_s, PY.tr_n, PY.isi_ii, PY.isi_bi, PY.isi_ss, PY.isi_tt, Option.map_some, PY.atI_0, PY.atI_1, PY.atI_2, PY.atI_3, PY.atI_4, PY.atI_5, List.set_cons_zero, List.set_cons_succ, c_30, made g]
        exact ⟨by first | rfl | trivial, by first | rfl | trivial⟩
      rintro env hh ⟨rfl, rfl⟩
      obtain ⟨N, hN⟩ : ∃ N : Int, N = ((ps.filter Part.click).length : Int) := ⟨_, rfl⟩
      have em : ∀ {n' : Nat} {h' : Hh}, PY.run prg (n' + 1) 33 [pie m ls ps] h' = .ok (.int N) h' := fun {n' h'} => by rw [hN]; exact manyB l8
      have cl := List.length_filter_le Part.click ps
      simp only [PY.wSs, PY.wSn, PY.w_if, PY.w_and2, PY.w_or2, PY.w_ite, PY.w_chain, PY.w_opt_s, PY.w_guard, PY.w_set_n0, PY.w_set_ns, PY.w_aug, PY.aug_add, PY.aug_sub, PY.idx_l0, PY.idx_l1, PY.idx_p0, PY.idx_p1, PY.idx_p2, PY.idx_p3, PY.idx_p4, PY.idx_p5, PY.w_mkLf, PY.w_mkLt, PY.es_star, PY.ks_cons, PY.ks_nil, PY.es_nil, PY.es_v, PY.es_c, PY.es_g, PY.es_bin, PY.es_un, PY.es_cmp, PY.es_chain, PY.es_and, PY.es_or, PY.es_ite, PY.es_tup, PY.es_lst, PY.es_idx, PY.es_slc, PY.es_rev, PY.es_call, PY.es_make, PY.es_bc, PY.es_bm, PY.es_meth, PY.es_attr, PY.es_isi, PY.es_comp, PY.es_frz, PY.e_attr, PY.e_make, PY.e_isi, PY.e_bm, PY.w_rev, PY.w_frz, PY.w_comp, PY.w_csn, PY.w_csc, PY.w_i_e, PY.w_i_range, PY.rng_1, PY.rng_2, PY.slc_str, PY.toI, PY.w_i_enum, PY.w_for, PY.itm_tup, PY.itm_list, PY.itm_scr, PY.itm_str, PY.itN_tup, PY.chk_none, PY.sq_tup, PY.sq_list, PY.bin_L, PY.bin_T, PY.bc_strI, PY.bc_strS, PY.bc_tupL, PY.bc_tupT, PY.bc_max2, PY.bc_min2, PY.e_v, PY.e_c, PY.e_bin, PY.e_un, PY.e_cmp, PY.e_idx, PY.e_bc, PY.e_call, PY.e_lst, PY.e_tup, PY.e_or, PY.e_and, PY.or1, PY.and1, PY.e_slc, PY.o_none, PY.o_some, PY.s_set, PY.s_ret, PY.s_expr, PY.getV_0, PY.getV_s, PY.bin_add, PY.bin_sub, PY.bin_mul, PY.bin_fdiv, PY.bin_mod, PY.bin_pow, PY.bin_cat, PY.cmp_lt, PY.cmp_le, PY.cmp_gt, PY.cmp_ge, PY.un_not, PY.un_neg, PY.idx_tup, PY.idx_list, PY.idx_scr, PY.bc_int, PY.bc_abs, PY.bc_divmod, PY.bc_lenS, PY.bc_lenT, PY.bc_lenL, PY.bc_lenC, PY.a_tup, PY.as_nil, PY.as_cons, PY.okE, PY.bindE, PY.flE, PY.rtE, PY.nxE, PY.opt_s, PY.bind_ok, PY.fl_ok, PY.cm_lt, PY.cm_le, PY.cm_gt, PY.cm_ge, PY.cm_is, PY.cm_isn, PY.cm_in, PY.cm_nin, PY.cm_eqI, PY.cm_neI, PY.cm_eqS, PY.cm_neS, PY.cm_eqL, PY.cm_neL, PY.cm_eqT, PY.cm_neT, PY.cmp_eqS, PY.cmp_neS, PY.cmp_eqI, PY.cmp_neI, PY.cmp_inT, PY.ifQ_t, PY.ifQ_f, PY.tr_b, PY.tr_i, PY.tr_s, PY.tr_n, PY.isi_ii, PY.isi_bi, PY.isi_ss, PY.isi_tt, Option.map_some, PY.atI_0, PY.atI_1, PY.atI_2, PY.atI_3, PY.atI_4, PY.atI_5, List.set_cons_zero, List.set_cons_succ, c_33, em]
      refine ⟨inR_ok (by omega) (by omega), ?_⟩
      refine forM_upto (I := fun j cnt env hh => ∃ (jn : Nat) (x2 : Hh) (o5 o6 o7 : Option D), j = (jn : Int) ∧ jn + cnt = (ps.filter Part.click).length + 1 ∧ hh = h3 ++ x2 ∧ env = [some (.ref i), some (.int k'), some (.int t), some (pie m ls ps), some (sld m ls ps), o5, o6, o7]) (fun _ _ _ _ _ => rfl) ?_ ?_ ⟨0, x, o5, o6, o7, rfl, by omega, rfl, rfl⟩
      · rintro j cnt env hh ⟨jn, x2, o5, o6, o7, ej, ec, rfl, rfl⟩
        show wF (evSs _ _ _ [some (.ref i), some (.int k'), some (.int t), some (pie m ls ps), some (sld m ls ps), some (.int j), o6, o7] _) _ _
        refine wF_mono (one (o6 := o6) (o7 := o7) g (by omega) ej) ?_
        rintro env hh ⟨o6, o7, x3, rfl, rfl⟩
        exact ⟨jn + 1, x2 ++ x3, _, _, _, by omega, by omega, by simp, rfl⟩
      · rintro j env hh ⟨jn, x2, o5, o6, o7, _, _, rfl, rfl⟩
        exact ⟨h3, x2, _, _, _, _, _, _, _, rfl, s3, rfl⟩
    · rintro k' env hh ⟨h1, x, o1, o2, o3, o4, o5, o6, o7, rfl, s1, rfl⟩
      exact ⟨h1, x, rfl, s1⟩
  · rintro env hh ⟨h1, x, rfl, s1⟩
    simp only [PY.wSs, PY.wSn, PY.w_if, PY.w_and2, PY.w_or2, PY.w_ite, PY.w_chain, PY.w_opt_s, PY.w_guard, PY.w_set_n0, PY.w_set_ns, PY.w_aug, PY.aug_add, PY.aug_sub, PY.idx_l0, PY.idx_l1, PY.idx_p0, PY.idx_p1, PY.idx_p2, PY.idx_p3, PY.idx_p4, PY.idx_p5, PY.w_mkLf, PY.w_mkLt, PY.es_star, PY.ks_cons, PY.ks_nil, PY.es_nil, PY.es_v, PY.es_c, PY.es_g, PY.es_bin, PY.es_un, PY.es_cmp, PY.es_chain, PY.es_and, PY.es_or, PY.es_ite, PY.es_tup, PY.es_lst, PY.es_idx, PY.es_slc, PY.es_rev, PY.es_call, PY.es_make, PY.es_bc, PY.es_bm, PY.es_meth, PY.es_attr, PY.es_isi, PY.es_comp, PY.es_frz, PY.e_attr, PY.e_make, PY.e_isi, PY.e_bm, PY.w_rev, PY.w_frz, PY.w_comp, PY.w_csn, PY.w_csc, PY.w_i_e, PY.w_i_range, PY.rng_1, PY.rng_2, PY.slc_str, PY.toI, PY.w_i_enum, PY.w_for, PY.itm_tup, PY.itm_list, PY.itm_scr, PY.itm_str, PY.itN_tup, PY.chk_none, PY.sq_tup, PY.sq_list, PY.bin_L, PY.bin_T, PY.bc_strI, PY.bc_strS, PY.bc_tupL, PY.bc_tupT, PY.bc_max2, PY.bc_min2, PY.e_v, PY.e_c, PY.e_bin, PY.e_un, PY.e_cmp, PY.e_idx, PY.e_bc, PY.e_call, PY.e_lst, PY.e_tup, PY.e_or, PY.e_and, PY.or1, PY.and1, PY.e_slc, PY.o_none, PY.o_some, PY.s_set, PY.s_ret, PY.s_expr, PY.getV_0, PY.getV_s, PY.bin_add, PY.bin_sub, PY.bin_mul, PY.bin_fdiv, PY.bin_mod, PY.bin_pow, PY.bin_cat, PY.cmp_lt, PY.cmp_le, PY.cmp_gt, PY.cmp_ge, PY.un_not, PY.un_neg, PY.idx_tup, PY.idx_list, PY.idx_scr, PY.bc_int, PY.bc_abs, PY.bc_divmod, PY.bc_lenS, PY.bc_lenT, PY.bc_lenL, PY.bc_lenC, PY.a_tup, PY.as_nil, PY.as_cons, PY.okE, PY.bindE, PY.flE, PY.rtE, PY.nxE, PY.opt_s, PY.bind_ok, PY.fl_ok, PY.cm_lt, PY.cm_le, PY.cm_gt, PY.cm_ge, PY.cm_is, PY.cm_isn, PY.cm_in, PY.cm_nin, PY.cm_eqI, PY.cm_neI, PY.cm_eqS, PY.cm_neS, PY.cm_eqL, PY.cm_neL, PY.cm_eqT, PY.cm_neT, PY.cmp_eqS, PY.cmp_neS, PY.cmp_eqI, PY.cmp_neI, PY.cmp_inT, PY.ifQ_t, PY.ifQ_f, PY.tr_b, PY.tr_i, PY.tr_s, PY.tr_n, PY.isi_ii, PY.isi_bi, PY.isi_ss, PY.isi_tt, Option.map_some, PY.atI_0, PY.atI_1, PY.atI_2, PY.atI_3, PY.atI_4, PY.atI_5, List.set_cons_zero, List.set_cons_succ]
    exact tr_stp s1 rfl ⟨rfl, s1⟩
end K12
end
section
set_option Elab.async false
set_option linter.all false
set_option maxRecDepth 100000
set_option maxHeartbeats 2000000
namespace K12
open PySem PyProof.Rows PY L12
theorem sackE {n : Nat} {t : Int} {ns : List Int} {h : Hh} {Q : D → Hh → Prop} (t0 : 0 ≤ t) (t1 : t < 100) (q : ∀ h', Sk h.length h' → h'.length = h.length + 1 → Q (.ref h.length) h') : okR (PY.run prg (n + 1) 21 [.scr (ns.map D.int), .int t] h) Q :=
  sack t0 t1 fun a b a0 b0 => q _ ⟨a, b, 0, last_get rfl, a0, b0, by decide⟩ (by simp)
theorem law_ok {n : Nat} {ns : List Int} : ∃ h', PY.run prg (n + 10) 35 [.scr (ns.map D.int)] [] = .ok (.bool true) h' := by
  have o : okR (PY.run prg (n + 10) 35 [.scr (ns.map D.int)] []) fun d _ => d = .bool true := by
    rw [r_35]
    have sl := sizeLine_eq
    simp only [PY.wSs, PY.wSn, PY.w_if, PY.w_and2, PY.w_or2, PY.w_ite, PY.w_chain, PY.w_opt_s, PY.w_guard, PY.w_set_n0, PY.w_set_ns, PY.w_aug, PY.aug_add, PY.aug_sub, PY.idx_l0, PY.idx_l1, PY.idx_p0, PY.idx_p1, PY.idx_p2, PY.idx_p3, PY.idx_p4, PY.idx_p5, PY.w_mkLf, PY.w_mkLt, PY.es_star, PY.ks_cons, PY.ks_nil, PY.es_nil, PY.es_v, PY.es_c, PY.es_g, PY.es_bin, PY.es_un, PY.es_cmp, PY.es_chain, PY.es_and, PY.es_or, PY.es_ite, PY.es_tup, PY.es_lst, PY.es_idx, PY.es_slc, PY.es_rev, PY.es_call, PY.es_make, PY.es_bc, PY.es_bm, PY.es_meth, PY.es_attr, PY.es_isi, PY.es_comp, PY.es_frz, PY.e_attr, PY.e_make, PY.e_isi, PY.e_bm, PY.w_rev, PY.w_frz, PY.w_comp, PY.w_csn, PY.w_csc, PY.w_i_e, PY.w_i_range, PY.rng_1, PY.rng_2, PY.slc_str, PY.toI, PY.w_i_enum, PY.w_for, PY.itm_tup, PY.itm_list, PY.itm_scr, PY.itm_str, PY.itN_tup, PY.chk_none, PY.sq_tup, PY.sq_list, PY.bin_L, PY.bin_T, PY.bc_strI, PY.bc_strS, PY.bc_tupL, PY.bc_tupT, PY.bc_max2, PY.bc_min2, PY.e_v, PY.e_c, PY.e_bin, PY.e_un, PY.e_cmp, PY.e_idx, PY.e_bc, PY.e_call, PY.e_lst, PY.e_tup, PY.e_or, PY.e_and, PY.or1, PY.and1, PY.e_slc, PY.o_none, PY.o_some, PY.s_set, PY.s_ret, PY.s_expr, PY.getV_0, PY.getV_s, PY.bin_add, PY.bin_sub, PY.bin_mul, PY.bin_fdiv, PY.bin_mod, PY.bin_pow, PY.bin_cat, PY.cmp_lt, PY.cmp_le, PY.cmp_gt, PY.cmp_ge, PY.un_not, PY.un_neg, PY.idx_tup, PY.idx_list, PY.idx_scr, PY.bc_int, PY.bc_abs, PY.bc_divmod, PY.bc_lenS, PY.bc_lenT, PY.bc_lenL, PY.bc_lenC, PY.a_tup, PY.as_nil, PY.as_cons, PY.okE, PY.bindE, PY.flE, PY.rtE, PY.nxE, PY.opt_s, PY.bind_ok, PY.fl_ok, PY.cm_lt, PY.cm_le, PY.cm_gt, PY.cm_ge, PY.cm_is, PY.cm_isn, PY.cm_in, PY.cm_nin, PY.cm_eqI, PY.cm_neI, PY.cm_eqS, PY.cm_neS, PY.cm_eqL, PY.cm_neL, PY.cm_eqT, PY.cm_neT, PY.cmp_eqS, PY.cmp_neS, PY.cmp_eqI, PY.cmp_neI, PY.cmp_inT, PY.ifQ_t, PY.ifQ_f, PY.tr_b, PY.tr_i, PY.tr_s, PY.tr_n, PY.isi_ii, PY.isi_bi, PY.isi_ss, PY.isi_tt, Option.map_some, PY.atI_0, PY.atI_1, PY.atI_2, PY.atI_3, PY.atI_4, PY.atI_5, List.set_cons_zero, List.set_cons_succ, fn35]
    have j : ∃ j : Nat, (if (if (5 : Int) < ((ns.map D.int).length : Int) then 5 else ((ns.map D.int).length : Int)) > 2 then (if (5 : Int) < ((ns.map D.int).length : Int) then 5 else ((ns.map D.int).length : Int)) else 2) = (j : Int) ∧ j ≤ 5 := by
      refine ⟨(if (if (5 : Int) < ((ns.map D.int).length : Int) then 5 else ((ns.map D.int).length : Int)) > 2 then (if (5 : Int) < ((ns.map D.int).length : Int) then 5 else ((ns.map D.int).length : Int)) else 2).toNat, ?_, ?_⟩
      · split <;> split <;> omega
      · split <;> split <;> omega
    obtain ⟨j, ej, j5⟩ := j
    rw [ej]
    refine ⟨inR_ok (by omega) (by omega), ?_⟩
    have key : ∀ (m k : Nat) (h : Hh), k + m ≤ 5 → okR (compM (cB prg (PY.run prg (n + 9)) [some (.scr (ns.map D.int)), none] [("_law_turn", 1)] (.n 1) [] (.call 34 [(.call 21 [(.v 0), (.v 1)] [])] []) fun _ => true) (upto k m) h) fun ds _ => ds = (List.range m).map fun _ => D.bool true := by
      intro m
      induction m with
      | zero => exact fun k h _ => rfl
      | succ m ih =>
        intro k h km
        rw [upto_succ]
        unfold compM
        rw [bindE, w_cB (env' := [some (.scr (ns.map D.int)), some (.int k)]) rfl]
        simp only [PY.wSs, PY.wSn, PY.w_if, PY.w_and2, PY.w_or2, PY.w_ite, PY.w_chain, PY.w_opt_s, PY.w_guard, PY.w_set_n0, PY.w_set_ns, PY.w_aug, PY.aug_add, PY.aug_sub, PY.idx_l0, PY.idx_l1, PY.idx_p0, PY.idx_p1, PY.idx_p2, PY.idx_p3, PY.idx_p4, PY.idx_p5, PY.w_mkLf, PY.w_mkLt, PY.es_star, PY.ks_cons, PY.ks_nil, PY.es_nil, PY.es_v, PY.es_c, PY.es_g, PY.es_bin, PY.es_un, PY.es_cmp, PY.es_chain, PY.es_and, PY.es_or, PY.es_ite, PY.es_tup, PY.es_lst, PY.es_idx, PY.es_slc, PY.es_rev, PY.es_call, PY.es_make, PY.es_bc, PY.es_bm, PY.es_meth, PY.es_attr, PY.es_isi, PY.es_comp, PY.es_frz, PY.e_attr, PY.e_make, PY.e_isi, PY.e_bm, PY.w_rev, PY.w_frz, PY.w_comp, PY.w_csn, PY.w_csc, PY.w_i_e, PY.w_i_range, PY.rng_1, PY.rng_2, PY.slc_str, PY.toI, PY.w_i_enum, PY.w_for, PY.itm_tup, PY.itm_list, PY.itm_scr, PY.itm_str, PY.itN_tup, PY.chk_none, PY.sq_tup, PY.sq_list, PY.bin_L, PY.bin_T, PY.bc_strI, PY.bc_strS, PY.bc_tupL, PY.bc_tupT, PY.bc_max2, PY.bc_min2, PY.e_v, PY.e_c, PY.e_bin, PY.e_un, PY.e_cmp, PY.e_idx, PY.e_bc, PY.e_call, PY.e_lst, PY.e_tup, PY.e_or, PY.e_and, PY.or1, PY.and1, PY.e_slc, PY.o_none, PY.o_some, PY.s_set, PY.s_ret, PY.s_expr, PY.getV_0, PY.getV_s, PY.bin_add, PY.bin_sub, PY.bin_mul, PY.bin_fdiv, PY.bin_mod, PY.bin_pow, PY.bin_cat, PY.cmp_lt, PY.cmp_le, PY.cmp_gt, PY.cmp_ge, PY.un_not, PY.un_neg, PY.idx_tup, PY.idx_list, PY.idx_scr, PY.bc_int, PY.bc_abs, PY.bc_divmod, PY.bc_lenS, PY.bc_lenT, PY.bc_lenL, PY.bc_lenC, PY.a_tup, PY.as_nil, PY.as_cons, PY.okE, PY.bindE, PY.flE, PY.rtE, PY.nxE, PY.opt_s, PY.bind_ok, PY.fl_ok, PY.cm_lt, PY.cm_le, PY.cm_gt, PY.cm_ge, PY.cm_is, PY.cm_isn, PY.cm_in, PY.cm_nin, PY.cm_eqI, PY.cm_neI, PY.cm_eqS, PY.cm_neS, PY.cm_eqL, PY.cm_neL, PY.cm_eqT, PY.cm_neT, PY.cmp_eqS, PY.cmp_neS, PY.cmp_eqI, PY.cmp_neI, PY.cmp_inT, PY.ifQ_t, PY.ifQ_f, PY.tr_b, PY.tr_i, PY.tr_s, PY.tr_n, PY.isi_ii, PY.isi_bi, PY.isi_ss, PY.isi_tt, Option.map_some, PY.atI_0, PY.atI_1, PY.atI_2, PY.atI_3, PY.atI_4, PY.atI_5, List.set_cons_zero, List.set_cons_succ, c_21, c_34]
        refine ⟨trivial, ?_⟩
        simp only [if_true]
        refine sackE (by omega) (by omega) fun h1 s1 _ => ?_
        refine okR_mono (right s1) ?_
        rintro _ h2 ⟨rfl, s2⟩
        refine okR_mono (ih (k + 1) h2 (by omega)) ?_
        rintro ds h3 rfl
        simp [okE, List.range_succ_eq_map, List.map_map, Function.comp_def]
    refine okR_mono (key _ 0 [] (by rw [Int.toNat_natCast]; omega)) ?_
    rintro _ h3 rfl
    rw [bc_allM (p := fun _ => true)]
    refine ⟨trivial, by simp; omega, ?_⟩
    simp only [okE]
    rw [tr_top]
    simp
  obtain ⟨d, h', e, rfl⟩ := okR.of o
  exact ⟨h', e⟩
end K12
end
section
set_option Elab.async false
set_option linter.all false
set_option maxRecDepth 100000
set_option maxHeartbeats 0
namespace K12
open PySem PySem.Spec PyProof.Rows L2 PY
abbrev rw : PySem.W.OpenLaw := PySem.Challenge.rw_buildclicks_k12_whole_rests
abbrev R : PySem.W.OpenRow := PySem.W.OpenLaw.row rw
abbrev hk : PySem.W.Hook := hookP L12.prg 5
def ob (s : PySem.W.SharedT) : Bool := factB L12.prg (He.frG (HandSHeadRun.getT s) (He5.asA (HandSHeadRun.getT s) 5))
theorem ob_eq (s : PySem.W.SharedT) : ob s = hk.obs s.abs := by
  have e : HandSHeadRun.getT s = s.abs.heap.get? := funext (HandSHeadRun.getT_eq s)
  unfold ob
  rw [e]
  rfl
def loose : List Str := [("_wall" : Str), ("__name__" : Str), ("BadValue" : Str), ("InvalidText" : Str), ("InvalidManner" : Str), ("InvalidIndex" : Str), ("InvalidNumber" : Str), ("NotASlide" : Str), ("InvalidChannels" : Str), ("InvalidEffects" : Str), ("MOST_CHANNELS" : Str), ("MOST_EFFECTS" : Str), ("MOST_CLICKS" : Str), ("MOST_TIME" : Str), ("MOST_NUMBER" : Str), ("LETTERS" : Str), ("DIGITS" : Str), ("LONGEST_NAME" : Str), ("LONGEST_NUMBER" : Str), ("is_whole" : Str), ("is_integer" : Str), ("is_number" : Str), ("is_name" : Str), ("is_word" : Str), ("is_tuple_of" : Str), ("written" : Str), ("signed" : Str), ("PAUSE" : Str), ("MANNERS" : Str), ("STARTS" : Str), ("EFFECT_PARTS" : Str), ("is_channel" : Str), ("is_effect" : Str), ("check_channels" : Str), ("check_effects" : Str), ("row_of" : Str), ("channel_of" : Str), ("effect_of" : Str), ("Slide" : Str), ("check_slide" : Str), ("groups_of" : Str), ("timing_of" : Str), ("latest" : Str), ("rest_of" : Str), ("rest" : Str), ("_law_sack" : Str), ("_law_grab" : Str), ("_law_pick" : Str), ("_law_titles" : Str), ("_law_value" : Str), ("_law_span" : Str), ("_law_lanes" : Str), ("_law_parts" : Str), ("_law_drawn" : Str), ("_law_made" : Str), ("_law_hours" : Str), ("_law_behind" : Str), ("_law_many" : Str), ("_law_right" : Str)]
theorem run (w : World) : HandSHeadRun.RunEq R (PySem.W.view R.prog [63]) hk ob 20000 loose w := by
  intro os
  kernel_rfl
end K12
end
section
set_option Elab.async false
set_option linter.all false
set_option maxRecDepth 100000
set_option maxHeartbeats 0
namespace K12
open PY
theorem hrun (ns : List Int) (hl : ns.length ≤ 63) : ∃ h', PY.run L12.prg 10 35 [PY.D.scr (ns.map PY.D.int)] [] = PY.Res.ok (PY.D.bool true) h' := law_ok (n := 0)
end K12
open PySem PySem.W PySem.Calls PyProof.Rows
theorem PySem.Challenge.cw_buildclicks_k12_whole_rests_holds : PySem.Challenge.rw_buildclicks_k12_whole_rests.Holds := by
  w_on; o_law
  refine HandSHeadRun.head_any (r := OpenLaw.row K12.rw) (q := view (OpenLaw.row K12.rw).prog [63]) (H := K12.hk) (ob := K12.ob) (M := 20000) (loose := K12.loose) (d := HandSHeadRun.topDef (OpenLaw.row K12.rw).prog 63) (kwd := []) K12.ob_eq
    (by kernel_rfl) (fun s => by kernel_rfl) K12.run (by kernel_rfl) (by kernel_rfl) (by kernel_rfl) (by rfl) (by first | assumption | decide +kernel) (by decide +kernel) ⟨rfl, rfl, rfl, rfl, rfl, by decide +kernel⟩ ?hw ?hc
  case hw => w_witness2
  case hc => exact PY.walk_run (n := 10) (i := 35) (x := "_law_script") (Fl := L12.fn35) rfl (by decide) (by kernel_rfl) ⟨rfl, by decide, by decide⟩ rfl rfl (by kernel_rfl) rfl K12.hrun
end
