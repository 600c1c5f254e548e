import PyProof.Rows.All
import Wide.All
import OpenK.AllK
import Wide.FinOn
import HandS.ForMost
import HandS.ForExc
import HandS.Deep
import HandS.Wide
import HandS.Flow
import HandS.TupAny
import HandS.TupMul
import HandS.SortKw
import HandS.SortOrd
import HandS.IsInst
import HandS.StrSplit
import HandS.FStr
import HandS.Defaults
import HandS.Zip
import HandS.Style
import HandS.Set
import HandS.Strs
import HandS.SetTxt0
import HandS.SetFor
import PySem.Challenge.RW_onestack_k01_what_is_a_kernel
import PyProof.StrLawsIn
section
set_option Elab.async false
set_option linter.all false
set_option maxRecDepth 100000
namespace DE
open PySem L2
/-! A clean evaluator by values for the part of Python that the laws speak: D the data, lists by value where nobody else holds them, a store for the others. -/

inductive D where
  | non | bl (b : Bool) | int (i : Int) | str (s : Str)
  | tup (xs : List D) | lst (xs : List D) | dic (kvs : List (Key × D)) | loc (n : Nat) | scr (xs : List D)
  deriving Inhabited

abbrev Store := List (List D)
inductive Slot where
  | val (d : D) | own (xs : List D) | ro (xs : List D)
abbrev Env := List (Option Slot)
structure S where
  env : Env
  st : Store
inductive Res (α : Type) where
  | ok (a : α) (s : S) | exc (c : Nat) (xs : List D) (s : S) | stuck
def Res.bind {α β : Type} (r : Res α) (f : α → S → Res β) : Res β := match r with
  | .ok a s => f a s
  | .exc c xs s => .exc c xs s
  | .stuck => .stuck
inductive RX where
  | d (d : D) | fr (xs : List D)
inductive Op where
  | d (d : D) | pk (i : Nat)
inductive Flow where
  | nx | rt (d : D) | bk | ct
def RX.dat (r : RX) : D := match r with
  | RX.d x => x
  | RX.fr xs => D.lst xs
def Res.opt {α : Type} (o : Option α) (s : S) : Res α := match o with
  | some a => .ok a s
  | none => .stuck

/-! ### data -/
mutual
def toPy : D → PyData
  | .non => .none
  | .bl b => .bool b
  | .int i => .int i
  | .str s => .str s
  | .tup xs => .tuple (toPys xs)
  | .lst xs => .list (toPys xs)
  | .dic _ => .none
  | .loc _ => .none
  | .scr _ => .none
def toPys : List D → List PyData
  | [] => []
  | x :: xs => toPy x :: toPys xs
end
mutual
def isPy : D → Bool
  | .non => true
  | .bl _ => true
  | .int _ => true
  | .str _ => true
  | .tup xs => isPys xs
  | .lst xs => isPys xs
  | .dic _ => false
  | .loc _ => false
  | .scr _ => false
def isPys : List D → Bool
  | [] => true
  | x :: xs => isPy x && isPys xs
end
def eqD (a b : D) : Bool := PyData.eqv (toPy a) (toPy b)
def scalD : D → Bool
  | .int _ => true
  | .bl _ => true
  | .str _ => true
  | .non => true
  | _ => false
/-- what may be compared by == -/
def cmpOk (a b : D) : Bool := isPy a && isPy b && decide (min (toPy a).depth (toPy b).depth ≤ 60)

/-! ### the compact syntax -/
inductive Bop where | add | sub | mul | fdiv | mod | pow
inductive Cop where | eq | ne | lt | le | gt | ge | is | isnot | mem | nmem
inductive Ty where | int | bool | str | list | tuple
inductive Bi where | len | max | min | sum | all | any | sorted | tuple | list | int | str | dict
mutual
inductive CE where
  | var (i : Nat)
  | pk (i : Nat)
  | con (d : D)
  | glb (d : D)
  | bin (op : Bop) (a b : CE)
  | neg (a : CE)
  | not (a : CE)
  | cmp (op : Cop) (a b : CE)
  | chn (o1 o2 : Cop) (a b c : CE)
  | and (a b : CE)
  | or (a b : CE)
  | ife (c a b : CE)
  | tup (es : CEs)
  | lst (es : CEs)
  | lstL (es : CEs)
  | idx (a b : CE)
  | slc (a : CE) (lo hi : CO)
  | rev (a : CE)
  | call (f : Nat) (es : CEs)
  | bi (b : Bi) (es : CEs)
  | isi (a : CE) (t : Ty)
  | isiT (a : CE) (ts : List Ty)
  | sset (a : CE)
  | comp (own : List Nat) (t : CT) (it : CI) (conds : CEs) (elt : CE)
  | join (a b : CE)
  | split (a b : CE)
  | pop (i : Nat)
inductive CO where
  | non | som (e : CE)
inductive CEs where
  | nil | cons (e : CE) (es : CEs)
inductive CI where
  | seq (e : CE) | range (a : CE) | range2 (a b : CE) | enum (a : CE) | zip (a b : CE)
inductive CT where
  | name (i : Nat) | tup (ts : CTs)
inductive CTs where
  | nil | cons (t : CT) (ts : CTs)
end
mutual
inductive CS where
  | expr (e : CE)
  | ret (e : CE)
  | retN
  | asg (t : CT) (e : CE)
  | setI (i : Nat) (k v : CE)
  | app (i : Nat) (e : CE)
  | rem (i : Nat) (e : CE)
  | iff (c : CE) (a b : CSs)
  | for_ (t : CT) (it : CI) (body : CSs)
  | whl (c : CE) (body : CSs)
  | brk | cont | pass
  | frz (is : List Nat)
  | never
inductive CSs where
  | nil | cons (s : CS) (ss : CSs)
end

/-! ### operations on data -/
def lenD : D → Option Nat
  | .tup xs => some xs.length
  | .lst xs => some xs.length
  | .str s => if s.length ≤ sizeLine then some s.length else none
  | _ => none
def seqD : D → Option (List D)
  | .tup xs => some xs
  | .lst xs => some xs
  | .str z => some (z.cps.toList.map fun c => .str ⟨#[c]⟩)
  | _ => none
def binD : Bop → D → D → Option RX
  | .add, .int i, .int j => some (.d (.int (i + j)))
  | .add, .str i, .str j => if i.length + j.length ≤ sizeLine then some (.d (.str (i ++ j))) else none
  | .add, .lst xs, .lst ys => if xs.length + ys.length ≤ sizeLine then some (.fr (xs ++ ys)) else none
  | .add, .tup xs, .tup ys => if xs.length + ys.length ≤ sizeLine then some (.d (.tup (xs ++ ys))) else none
  | .sub, .int i, .int j => some (.d (.int (i - j)))
  | .mul, .int i, .int j => if i.natAbs < 2 ^ 64 ∨ j.natAbs < 2 ^ 64 then some (.d (.int (i * j))) else none
  | .mul, .tup xs, .int k => if xs.isEmpty = false ∧ 2 ≤ k ∧ k ≤ 1000 ∧ xs.length ≤ 1000 then some (.d (.tup (List.replicate k.toNat xs).flatten)) else none
  | .fdiv, .int i, .int j => if j ≠ 0 ∧ j.natAbs < 1073741824 then some (.d (.int (i.fdiv j))) else none
  | .mod, .int i, .int j => if j ≠ 0 then some (.d (.int (i.fmod j))) else none
  | .pow, .int i, .int j => if 0 ≤ j ∧ j ≤ 1000000 ∧ i.natAbs < 2 ^ 64 then some (.d (.int (i ^ j.toNat))) else none
  | _, _, _ => none
def memD (x : D) (xs : List D) : Option Bool :=
  if isPy x && isPys xs && decide ((toPy x).depth ≤ 60) then some (xs.any fun y => eqD y x) else none
def nonD (a : D) : Bool := match a with
  | .non => true
  | _ => false
def cmpD : Cop → D → D → Option Bool
  | .eq, a, b => if cmpOk a b then some (eqD a b) else none
  | .ne, a, b => if cmpOk a b then some (!eqD a b) else none
  | .lt, .int i, .int j => some (decide (i < j))
  | .le, .int i, .int j => some (decide (i ≤ j))
  | .gt, .int i, .int j => some (decide (j < i))
  | .ge, .int i, .int j => some (decide (j ≤ i))
  | .lt, .str i, .str j => some (decide (i.cps.toList < j.cps.toList))
  | .is, a, .non => some (nonD a)
  | .isnot, a, .non => some (!nonD a)
  | .mem, .str i, .str j => some (!(Builtin.Str.occurrences j i 0 j.length 1).isEmpty)
  | .nmem, .str i, .str j => some (!(!(Builtin.Str.occurrences j i 0 j.length 1).isEmpty))
  | .mem, a, .lst xs => memD a xs
  | .mem, a, .tup xs => memD a xs
  | .nmem, a, .lst xs => (memD a xs).map not
  | .nmem, a, .tup xs => (memD a xs).map not
  | _, _, _ => none
def lookK (kvs : List (Key × D)) (k : Key) : Option D := (kvs.find? fun kv => decide (kv.1 = k)).map (·.2)
def idxD (st : Store) : D → D → Option D
  | .lst xs, .int i => atI xs i
  | .tup xs, .int i => atI xs i
  | .str z, .int i => if z.length ≤ sizeLine then (atI z.cps.toList i).map fun c => .str ⟨#[c]⟩ else none
  | .dic kvs, .int i => lookK kvs (.inl i)
  | .dic kvs, .str x => lookK kvs (.inr x)
  | .loc n, .int i => (st[n]?).bind fun xs => atI xs i
  | _, _ => none
def cutD (xs : List D) (lo hi : Option Int) : List D := (xs.drop (HT.sIx xs.length 0 lo)).take (HT.sIx xs.length xs.length hi - HT.sIx xs.length 0 lo)
def slcD : D → Option Int → Option Int → Option RX
  | .lst xs, lo, hi => some (.fr (cutD xs lo hi))
  | .tup xs, lo, hi => some (.d (.tup (cutD xs lo hi)))
  | .scr xs, lo, hi => some (.fr (cutD xs lo hi))
  | _, _, _ => none
def revD : D → Option RX
  | .lst xs => some (.fr xs.reverse)
  | .tup xs => some (.d (.tup xs.reverse))
  | _ => none
def isiD (st : Store) : D → Ty → Option Bool
  | .non, _ => some false
  | .bl _, t => some (match t with | .bool => true | .int => true | _ => false)
  | .int _, t => some (match t with | .int => true | _ => false)
  | .str _, t => some (match t with | .str => true | _ => false)
  | .tup _, t => some (match t with | .tuple => true | _ => false)
  | .lst _, t => some (match t with | .list => true | _ => false)
  | .dic _, _ => some false
  | .loc _, t => some (match t with | .list => true | _ => false)
  | .scr _, _ => none
def isiTD (st : Store) (x : D) : List Ty → Option Bool
  | [] => some false
  | t :: ts => (isiD st x t).bind fun b => if b then some true else isiTD st x ts
def intsD : List D → Option (List Int)
  | [] => some []
  | .int i :: r => (intsD r).map (i :: ·)
  | _ :: _ => none
def blsD : List D → Option (List Bool)
  | [] => some []
  | .bl i :: r => (blsD r).map (i :: ·)
  | _ :: _ => none
def strsD : List D → Option (List Str)
  | [] => some []
  | .str i :: r => (strsD r).map (i :: ·)
  | _ :: _ => none
def maxI : Int → List Int → Int
  | m, [] => m
  | m, i :: r => maxI (if i > m then i else m) r
def minI : Int → List Int → Int
  | m, [] => m
  | m, i :: r => minI (if i < m then i else m) r
def leS (a b : Str) : Bool := !PySem.Spec.ltCps b.cps.toList a.cps.toList
def addL (L : List Str) (k : Str) : List Str := if k ∈ L then L else k :: L
def setL (ks : List Str) : List Str := ks.foldl addL []
def ssetD : D → Option RX
  | .lst xs => (strsD xs).bind fun ss => if ss.length < 64 then some (.fr (((setL ss).mergeSort leS).map D.str)) else none
  | _ => none
def dicPut (k : Key) (v : D) : List (Key × D) → List (Key × D)
  | [] => [(k, v)]
  | p :: r => if p.1 = k then (k, v) :: r else p :: dicPut k v r
def keyD : D → Option Key
  | .int i => some (.inl i)
  | .str x => some (.inr x)
  | _ => none
def pairsD : List D → List (Key × D) → Option (List (Key × D))
  | [], acc => some acc
  | .tup [k, v] :: r, acc => (keyD k).bind fun q => pairsD r (dicPut q v acc)
  | _ :: _, _ => none
def biD : Bi → List D → Option RX
  | .len, [a] => (lenD a).map fun n => .d (.int n)
  | .max, [.lst xs] => (intsD xs).bind fun ns => match ns with | [] => none | i :: r => some (.d (.int (maxI i r)))
  | .max, [.int i, .int j] => some (.d (.int (if j > i then j else i)))
  | .min, [.int i, .int j] => some (.d (.int (if j < i then j else i)))
  | .sum, [.lst xs] => (intsD xs).map fun ns => .d (.int ns.sum)
  | .all, [.lst xs] => (blsD xs).map fun bs => .d (.bl (bs.all id))
  | .any, [.lst xs] => (blsD xs).map fun bs => .d (.bl (bs.any id))
  | .sorted, [.lst xs] => (strsD xs).bind fun ss => if ss.length < 64 then some (.fr ((ss.mergeSort leS).map D.str)) else none
  | .tuple, [.lst xs] => some (.d (.tup xs))
  | .tuple, [.tup xs] => some (.d (.tup xs))
  | .list, [.lst xs] => some (.fr xs)
  | .list, [.tup xs] => some (.fr xs)
  | .int, [.int i] => some (.d (.int i))
  | .int, [.bl b] => some (.d (.int (if b then 1 else 0)))
  | .str, [.int i] => if i.natAbs.log2 < 1920 then some (.d (.str (toString i))) else none
  | _, _ => none
def rangeD (lo : Int) (n : Nat) : List D := (List.range n).map fun (i : Nat) => .int (lo + (i : Int))
def enumF : Nat → List D → List D
  | _, [] => []
  | n, x :: r => .tup [.int (n : Int), x] :: enumF (n + 1) r
def enumD (xs : List D) : List D := enumF 0 xs
def zipD : List D → List D → List D
  | x :: xs, y :: ys => .tup [x, y] :: zipD xs ys
  | _, _ => []
def zipV : D → D → Option (List D)
  | .lst xs, .lst ys => some (zipD xs ys)
  | .tup xs, .tup ys => some (zipD xs ys)
  | _, _ => none
def enumV : D → Option (List D)
  | .lst xs => some (enumD xs)
  | _ => none
/-! ### the evaluator -/
structure Ctx where
  call : Nat → List D → Store → Option (D × Store)
  fuel : Nat
def S.get (s : S) (i : Nat) : Option Slot := (s.env[i]?).bind id
def S.put (s : S) (i : Nat) (x : Slot) : S := { s with env := s.env.set i (some x) }
def S.put? (s : S) (i : Nat) (x : Slot) : Option S := if i < s.env.length then some (s.put i x) else none
def resO (s : S) : Op → Option D
  | .d d => some d
  | .pk i => match s.get i with
    | some (.val d) => some d
    | some (.own xs) => some (.lst xs)
    | some (.ro xs) => some (.lst xs)
    | none => none
def roS : Option Slot → Option Slot
  | some (.own xs) => some (.ro xs)
  | x => x
def wipeE (e : Env) : List Nat → Env
  | [] => e
  | v :: vs => (wipeE e vs).set v none
def compEnv (own : List Nat) (e : Env) : Env := wipeE (e.map roS) own
mutual
/-- a value is given to a target -/
def asgT : CT → RX → S → Option S
  | .name i, .d d, s => s.put? i (.val d)
  | .name i, .fr xs, s => s.put? i (.own xs)
  | .tup ts, .d (.tup xs), s => asgTs ts xs s
  | .tup _, _, _ => none
def asgTs : CTs → List D → S → Option S
  | .nil, [], s => some s
  | .cons t ts, x :: xs, s => (asgT t (.d x) s).bind (asgTs ts xs)
  | _, _, _ => none
end
/-- the loop of a for -/
def forL (body : S → Res Flow) (tg : D → S → Option S) : List D → S → Res Flow
  | [], s => .ok .nx s
  | x :: xs, s => (Res.opt (tg x s) s).bind fun s1 _ => (body s1).bind fun f s2 => match f with
    | .nx => forL body tg xs s2
    | .ct => forL body tg xs s2
    | .bk => .ok .nx s2
    | .rt d => .ok (.rt d) s2
def whlL (c : S → Res Bool) (body : S → Res Flow) : Nat → S → Res Flow
  | 0, _ => .stuck
  | n + 1, s => (c s).bind fun b s1 => if b then (body s1).bind fun f s2 => match f with
      | .nx => whlL c body n s2
      | .ct => whlL c body n s2
      | .bk => .ok .nx s2
      | .rt d => .ok (.rt d) s2
    else .ok .nx s1
/-- the loop of a comprehension: e the block's environment -/
def compL (e : Env) (tg : D → S → Option S) (cond : S → Res Bool) (elt : S → Res D) : List D → List D → Store → Option (List D × Store)
  | [], acc, st => some (acc, st)
  | x :: xs, acc, st => match tg x ⟨e, st⟩ with
    | none => none
    | some s1 => match cond s1 with
      | .ok true s2 => match elt s2 with
        | .ok d s3 => if acc.length < sizeLine then compL e tg cond elt xs (acc ++ [d]) s3.st else none
        | _ => none
      | .ok false s2 => compL e tg cond elt xs acc s2.st
      | _ => none
def frzS (s : S) (i : Nat) : S := match s.get i with
  | some (.own xs) => s.put i (.val (.lst xs))
  | _ => s
def asD (r : Res RX) : Res D := r.bind fun r s => .ok r.dat s
def asO (e : CE) (r : Res RX) (s : S) : Res Op := match e with
  | .pk i => if (s.get i).isSome then .ok (.pk i) s else .stuck
  | _ => r.bind fun r s1 => .ok (.d r.dat) s1
def asB (r : Res RX) : Res Bool := r.bind fun r s => match r with
  | .d (.bl b) => .ok b s
  | _ => .stuck
def asS (r : Res RX) : Res Str := r.bind fun r s => match r with
  | .d (.str i) => .ok i s
  | _ => .stuck
def asI (r : Res RX) : Res Int := r.bind fun r s => match r with
  | .d (.int i) => .ok i s
  | _ => .stuck
/-- two operands, at the end of both -/
def two {α : Type} (s : S) (x y : Op) (f : D → D → Option α) : Res α := Res.opt ((resO s x).bind fun x => (resO s y).bind fun y => f x y) s
variable (C : Ctx)
mutual
def evX : CE → S → Res RX
  | .var i, s => match s.get i with
    | some (.val d) => .ok (.d d) s
    | _ => .stuck
  | .pk i, s => match s.get i with
    | some (.val d) => .ok (.d d) s
    | _ => .stuck
  | .con d, s => .ok (.d d) s
  | .glb d, s => .ok (.d d) s
  | .bin op a b, s => (asO a (evX a s) s).bind fun x s1 => (asO b (evX b s1) s1).bind fun y s2 => two s2 x y (binD op)
  | .neg a, s => (asI (evX a s)).bind fun i s1 => .ok (.d (.int (-i))) s1
  | .not a, s => (asB (evX a s)).bind fun b s1 => .ok (.d (.bl (!b))) s1
  | .cmp op a b, s => (asO a (evX a s) s).bind fun x s1 => (asO b (evX b s1) s1).bind fun y s2 =>
      two s2 x y fun x y => (cmpD op x y).map fun b => .d (.bl b)
  | .chn o1 o2 a b c, s => (asO a (evX a s) s).bind fun x s1 => (asO b (evX b s1) s1).bind fun y s2 => (two s2 x y (cmpD o1)).bind fun k s3 =>
        if k then (asO c (evX c s3) s3).bind fun z s4 => two s4 y z fun y z => (cmpD o2 y z).map fun b => .d (.bl b)
        else .ok (.d (.bl false)) s3
  | .and a b, s => (asB (evX a s)).bind fun k s1 => if k then evX b s1 else .ok (.d (.bl false)) s1
  | .or a b, s => (asB (evX a s)).bind fun k s1 => if k then .ok (.d (.bl true)) s1 else evX b s1
  | .ife c a b, s => (asB (evX c s)).bind fun k s1 => if k then (evX a s1) else (evX b s1)
  | .tup es, s => (evL es s).bind fun ds s1 => if ds.length ≤ sizeLine then .ok (.d (.tup ds)) s1 else .stuck
  | .lst es, s => (evL es s).bind fun ds s1 => if ds.length ≤ sizeLine then .ok (.fr ds) s1 else .stuck
  | .lstL es, s => (evL es s).bind fun ds s1 => if ds.length ≤ sizeLine then .ok (.d (.loc s1.st.length)) { s1 with st := s1.st ++ [ds] } else .stuck
  | .idx a b, s => (asO a (evX a s) s).bind fun x s1 => (asO b (evX b s1) s1).bind fun y s2 => two s2 x y fun x y => (idxD s2.st x y).map .d
  | .slc a lo hi, s => (asO a (evX a s) s).bind fun x s1 => (evP lo s1).bind fun l s2 => (evP hi s2).bind fun h s3 =>
      Res.opt ((resO s3 x).bind fun x => slcD x l h) s3
  | .rev a, s => (asO a (evX a s) s).bind fun x s1 => Res.opt ((resO s1 x).bind revD) s1
  | .call f es, s => (evL es s).bind fun ds s1 => match C.call f ds s1.st with
    | some (d, st) => .ok (.d d) { s1 with st := st }
    | none => .stuck
  | .bi b es, s => (evOs es s).bind fun xs s1 => Res.opt ((xs.mapM (resO s1)).bind (biD b)) s1
  | .isi a t, s => (asO a (evX a s) s).bind fun x s1 => Res.opt ((resO s1 x).bind fun x => (isiD s1.st x t).map fun b => .d (.bl b)) s1
  | .isiT a ts, s => (asO a (evX a s) s).bind fun x s1 => Res.opt ((resO s1 x).bind fun x => (isiTD s1.st x ts).map fun b => .d (.bl b)) s1
  | .sset a, s => (asO a (evX a s) s).bind fun x s1 => Res.opt ((resO s1 x).bind ssetD) s1
  | .comp own t it conds elt, s => (evI it s).bind fun xs s1 =>
      match compL (compEnv own s1.env) (fun x s => asgT t (.d x) s) (evBs conds) (fun s => asD (evX elt s)) xs [] s1.st with
      | some (ds, st) => .ok (.fr ds) { s1 with st := st }
      | none => .stuck
  | .join a b, s => (asS (evX a s)).bind fun sep s1 => (asO b (evX b s1) s1).bind fun y s2 => Res.opt ((resO s2 y).bind fun y => match y with
        | .lst xs => (strsD xs).bind fun ss => if (ss.map (·.length)).sum + ss.length * sep.length ≤ 16777216 then some (.d (.str (Txt.join sep ss))) else none
        | _ => none) s2
  | .split _ _, _ => .stuck
  | .pop i, s => match s.get i with
    | some (.own xs) => match xs[xs.length - 1]? with
      | some y => .ok (.d y) (s.put i (.own xs.dropLast))
      | none => .stuck
    | _ => .stuck
def evL : CEs → S → Res (List D)
  | .nil, s => .ok [] s
  | .cons e es, s => (evX e s).bind fun r s1 => (evL es s1).bind fun ds s2 => .ok (r.dat :: ds) s2
def evOs : CEs → S → Res (List Op)
  | .nil, s => .ok [] s
  | .cons e es, s => (asO e (evX e s) s).bind fun x s1 => (evOs es s1).bind fun xs s2 => .ok (x :: xs) s2
def evBs : CEs → S → Res Bool
  | .nil, s => .ok true s
  | .cons e es, s => match es with
    | .nil => asB (evX e s)
    | .cons _ _ => .stuck
def evP : CO → S → Res (Option Int)
  | .non, s => .ok none s
  | .som e, s => (asI (evX e s)).bind fun i s1 => .ok (some i) s1
def evI : CI → S → Res (List D)
  | .seq e, s => (asO e (evX e s) s).bind fun x s1 => Res.opt ((resO s1 x).bind seqD) s1
  | .range a, s => (asI (evX a s)).bind fun j s1 => if j.natAbs < 2 ^ 62 then .ok (rangeD 0 j.toNat) s1 else .stuck
  | .range2 a b, s => (asI (evX a s)).bind fun i s1 => (asI (evX b s1)).bind fun j s2 =>
      if i.natAbs < 2 ^ 62 ∧ j.natAbs < 2 ^ 62 then .ok (rangeD i (j - i).toNat) s2 else .stuck
  | .enum a, s => (asO a (evX a s) s).bind fun x s1 => Res.opt ((resO s1 x).bind enumV) s1
  | .zip a b, s => (asO a (evX a s) s).bind fun x s1 => (asO b (evX b s1) s1).bind fun y s2 => two s2 x y zipV
end
def lstSlot (s : S) (i : Nat) : Bool := match s.get i with
  | some (.own _) => true
  | some (.val (.loc _)) => true
  | _ => false
mutual
def evS : CS → S → Res Flow
  | .expr e, s => (evX C e s).bind fun _ s1 => .ok .nx s1
  | .ret e, s => (evX C e s).bind fun r s1 => .ok (.rt r.dat) s1
  | .retN, s => .ok (.rt .non) s
  | .asg t e, s => (evX C e s).bind fun r s1 => (Res.opt (asgT t r s1) s1).bind fun s2 _ => .ok .nx s2
  | .setI i k v, s => (evX C v s).bind fun r s1 => if (s1.get i).isSome then (evX C k s1).bind fun q s2 => match s2.get i, q with
    | some (.val (.loc n)), .d (.int j) => match s2.st[n]? with
      | some xs => match ixN xs.length j with
        | some m => .ok .nx { s2 with st := s2.st.set n (xs.set m r.dat) }
        | none => .stuck
      | none => .stuck
    | some (.own xs), .d (.int j) => match ixN xs.length j with
        | some m => .ok .nx (s2.put i (.own (xs.set m r.dat)))
        | none => .stuck
    | _, _ => .stuck
    else .stuck
  | .app i e, s => if lstSlot s i then (evX C e s).bind fun r s1 => match s1.get i with
    | some (.own xs) => if xs.length < sizeLine then .ok .nx (s1.put i (.own (xs ++ [r.dat]))) else .stuck
    | some (.val (.loc n)) => match s1.st[n]? with
      | some xs => if xs.length < sizeLine then .ok .nx { s1 with st := s1.st.set n (xs ++ [r.dat]) } else .stuck
      | none => .stuck
    | _ => .stuck
    else .stuck
  | .rem i e, s => if lstSlot s i then (asI (evX C e s)).bind fun k s1 => match s1.get i with
    | some (.own xs) => match intsD xs with
      | some ns => if ns.contains k then .ok .nx (s1.put i (.own ((ns.erase k).map D.int))) else .stuck
      | none => .stuck
    | _ => .stuck
    else .stuck
  | .iff c a b, s => (asB (evX C c s)).bind fun k s1 => if k then evSs a s1 else evSs b s1
  | .for_ t it body, s => (evI C it s).bind fun xs s1 => forL (evSs body) (fun x s => asgT t (.d x) s) xs s1
  | .whl c body, s => whlL (fun s => asB (evX C c s)) (evSs body) C.fuel s
  | .brk, s => .ok .bk s
  | .cont, s => .ok .ct s
  | .pass, s => .ok .nx s
  | .frz is, s => .ok .nx (is.foldl frzS s)
  | .never, _ => .stuck
def evSs : CSs → S → Res Flow
  | .nil, s => .ok .nx s
  | .cons c cs, s => (evS c s).bind fun f s1 => match f with
    | .nx => evSs cs s1
    | f => .ok f s1
end
/-- a def: how many parameters, how many slots, its body -/
structure Fn where
  pars : Nat
  slots : Nat
  body : CSs
def startE (n : Nat) (ds : List D) : Env := ds.map (fun d => some (.val d)) ++ List.replicate (n - ds.length) none
def runFn (C : Ctx) (f : Fn) (ds : List D) (st : Store) : Option (D × Store) :=
  if ds.length = f.pars then match evSs C f.body ⟨startE f.slots ds, st⟩ with
    | .ok (.rt d) s => some (d, s.st)
    | .ok .nx s => some (.non, s.st)
    | _ => none
  else none
def callK (T : List Fn) (fuel : Nat) : Nat → Nat → List D → Store → Option (D × Store)
  | 0, _, _, _ => none
  | k + 1, f, ds, st => match T[f]? with
    | some fn => runFn ⟨callK T fuel k, fuel⟩ fn ds st
    | none => none
end DE
end

section
set_option Elab.async false
set_option linter.all false
set_option maxRecDepth 100000
namespace DE
open PySem L2
/-! From the statement's trees to the compact syntax. -/
structure CC where
  N : List Str
  sc : Scope
  fns : List Str
  glb : List (Str × D)
  locs : List (Nat × Nat)
  fnb : Str → Bool

def visB (sc : Scope) (x : Str) : Bool := match sc.names.lookup x with
  | some .local => true
  | some .cell => true
  | some .free => true
  | _ => false
def locB (sc : Scope) (x : Str) : Bool := match sc.names.lookup x with
  | some .local => true
  | some .cell => true
  | _ => false
def gloB (sc : Scope) (x : Str) : Bool := match sc.names.lookup x with
  | some .globalImplicit => true
  | _ => false
def slotOf (c : CC) (x : Str) : Option Nat :=
  let i := c.N.findIdx fun y => decide (y = x)
  if decide (c.N[i]? = some x) && !(x == ("__debug__" : Str)) && !(x == ("__classdict__" : Str)) then some i else none
def fnOf (c : CC) (x : Str) : Option Nat :=
  let i := c.fns.findIdx fun y => decide (y = x)
  if decide (c.fns[i]? = some x) && !(x == ("__debug__" : Str)) && !decide (x = "__name__") then some i else none
def constD : Const → Option D
  | .none => some .non
  | .bool b => some (.bl b)
  | .int i => some (.int i)
  | .str s => if PyData.strOk s then some (.str s) else none
  | _ => none
def bopOf : Operator → Option Bop
  | .Add => some .add | .Sub => some .sub | .Mult => some .mul | .FloorDiv => some .fdiv | .Mod => some .mod | .Pow => some .pow
  | _ => none
def copOf : CmpOp → Cop
  | .Eq => .eq | .NotEq => .ne | .Lt => .lt | .LtE => .le | .Gt => .gt | .GtE => .ge | .Is => .is | .IsNot => .isnot | .In => .mem | .NotIn => .nmem
def isNone : Expr → Bool
  | .Constant .none _ _ => true
  | _ => false
/-- is None, is not None alone; no set display behind in -/
def cmpForm (op : CmpOp) (b : Expr) : Bool := match op with
  | .Is => isNone b
  | .IsNot => isNone b
  | _ => match b with | .Set _ _ _ => false | _ => true
def tyTab : List (Str × Ty) := [("int", .int), ("bool", .bool), ("str", .str), ("list", .list), ("tuple", .tuple)]
def tyOf (x : Str) : Option Ty := (tyTab.find? fun p => decide (p.1 = x)).map (·.2)
def biTab : List (Str × Nat × Bi) := [("len", 1, .len), ("max", 1, .max), ("max", 2, .max), ("min", 2, .min), ("sum", 1, .sum), ("all", 1, .all), ("any", 1, .any), ("sorted", 1, .sorted), ("tuple", 1, .tuple), ("list", 1, .list),
  ("int", 1, .int), ("str", 1, .str), ("dict", 1, .dict)]
def biOf (x : Str) (n : Nat) : Option Bi := (biTab.find? fun p => decide (p.1 = x) && decide (p.2.1 = n)).map (·.2.2)
def ownOf (c : CC) (scope : Scope) : List (Str × Nat) := scope.names.filterMap fun p => match p.2 with
  | .local => (slotOf c p.1).map fun i => (p.1, i)
  | .cell => (slotOf c p.1).map fun i => (p.1, i)
  | _ => none
def blkCC (c : CC) (scope : Scope) : CC := { c with sc := relS scope c.sc, fnb := fun x => scope.names.lookup x == some .cell }
def isM1 : Expr → Bool
  | .UnaryOp .USub (.Constant (.int 1) _ _) _ => true
  | _ => false
def isLocal (sc : Scope) (x : Str) : Bool := match sc.names.lookup x with
  | some .local => true
  | _ => false
def isTup : Expr → Bool
  | .Tuple _ _ _ => true
  | _ => false
mutual
def tgtS : CT → List Nat
  | .name i => [i]
  | .tup ts => tgtSs ts
def tgtSs : CTs → List Nat
  | .nil => []
  | .cons t ts => tgtS t ++ tgtSs ts
end
def isPk : CE → Bool
  | .pk _ => true
  | _ => false
def npk (pk : Bool) (x : CE) : Bool := pk || !isPk x
def notSlice : Expr → Bool
  | .Slice _ _ _ _ => false
  | _ => true
def notCall0 : Expr → Bool
  | .Call _ _ _ _ => false
  | _ => true
def tysOf (c : CC) : List Expr → Option (List Ty)
  | [] => some []
  | .Name t _ :: r => if gloB c.sc t then (tyOf t).bind fun ty => (tysOf c r).map fun tys => ty :: tys else none
  | _ :: _ => none
def ssetArg (c : CC) (f : Str) : List Expr → Option Expr
  | [.Call (.Name g _) [a] [] _] => if f = "sorted" ∧ g = "set" ∧ gloB c.sc g = true then some a else none
  | _ => none
mutual
def compT (c : CC) : Nat → Expr → Option CT
  | 0, _ => none
  | m + 1, .Name x _ => if locB c.sc x && (c.fnb x || isLocal c.sc x) then (slotOf c x).map CT.name else none
  | m + 1, .Tuple es _ _ => (compTs c m es).map CT.tup
  | _, _ => none
def compTs (c : CC) : Nat → List Expr → Option CTs
  | 0, _ => none
  | m + 1, [] => some .nil
  | m + 1, e :: es => (compT c m e).bind fun t => (compTs c m es).map fun ts => .cons t ts
end
mutual
/-- pk: where a list of one's own may be looked at -/
def compE (c : CC) : Nat → Bool → Expr → Option CE
  | 0, _, _ => none
  | m + 1, pk, .Name x _ => if visB c.sc x then (slotOf c x).map fun i => if pk then .pk i else .var i
      else if gloB c.sc x && !(x == ("__debug__" : Str)) then (c.glb.lookup x).map CE.glb else none
  | m + 1, _, .Constant v _ _ => (constD v).map CE.con
  | m + 1, _, .BinOp a op b _ => (bopOf op).bind fun o => (compE c m true a).bind fun x => (compE c m true b).map fun y => .bin o x y
  | m + 1, _, .UnaryOp .Not a _ => (compE c m false a).map CE.not
  | m + 1, _, .UnaryOp .USub a _ => (compE c m false a).map CE.neg
  | m + 1, pk, .BoolOp op [a] _ => compE c m false a
  | m + 1, _, .BoolOp .And (a :: b :: r) p => (compE c m false a).bind fun x => (compE c m false (.BoolOp .And (b :: r) p)).map fun y => .and x y
  | m + 1, _, .BoolOp .Or (a :: b :: r) p => (compE c m false a).bind fun x => (compE c m false (.BoolOp .Or (b :: r) p)).map fun y => .or x y
  | m + 1, _, .Compare a [op] [b] _ => if cmpForm op b then (compE c m true a).bind fun x => (compE c m true b).map fun y => .cmp (copOf op) x y else none
  | m + 1, _, .Compare a [o1, o2] [b, d] _ => if cmpForm o1 b && cmpForm o2 d then (compE c m true a).bind fun x => (compE c m true b).bind fun y => (compE c m true d).map fun z => .chn (copOf o1) (copOf o2) x y z else none
  | m + 1, _, .IfExp t a b _ => (compE c m false t).bind fun x => (compE c m false a).bind fun y => (compE c m false b).map fun z => .ife x y z
  | m + 1, _, .Tuple es _ _ => (compL' c m false es).map CE.tup
  | m + 1, _, .List es p => (compL' c m false es).map fun xs => if c.locs.contains (p.line, p.col) then .lstL xs else .lst xs
  | m + 1, _, .Subscript a (.Slice lo hi none _) _ => (compE c m true a).bind fun x => (compO c m lo).bind fun l => (compO c m hi).map fun h => .slc x l h
  | m + 1, _, .Subscript a (.Slice none none (some st) _) _ => if isM1 st then (compE c m true a).map CE.rev else none
  | m + 1, _, .Subscript a b _ => match b with
      | .Slice _ _ _ _ => none
      | .Starred _ _ => none
      | _ => (compE c m true a).bind fun x => (compE c m true b).map fun y => .idx x y
  | m + 1, _, .Call (.Name f _) args [] _ => if gloB c.sc f then
        (if f = "isinstance" then (match args with
          | [a, .Name t _] => if gloB c.sc t then (tyOf t).bind fun ty => (compE c m true a).map fun x => .isi x ty else none
          | [a, .Tuple ts _ _] => (tysOf c ts).bind fun tys => if 0 < tys.length ∧ tys.length ≤ 100 then (compE c m true a).map fun x => .isiT x tys else none
          | _ => none)
        else match ssetArg c f args with
        | some a => (compE c m true a).map CE.sset
        | none => match biOf f args.length with
          | some b => (compL' c m true args).map fun xs => .bi b xs
          | none => (fnOf c f).bind fun i => (compL' c m false args).map fun xs => .call i xs)
      else none
  | m + 1, _, .Call (.Attribute (.Name x _) meth ap) [] [] cp => if ap.endLine == cp.line then (if meth = "pop" && visB c.sc x then (slotOf c x).map CE.pop else none) else none
  | m + 1, _, .Call (.Attribute o meth ap) [a] [] cp => if ap.endLine == cp.line then
      (if decide (meth = "join") && notCall0 o then (compE c m false o).bind fun x => (compE c m true a).map fun y => .join x y
       else if meth = "split" then (compE c m true o).bind fun x => (compE c m true a).map fun y => .split x y else none) else none
  | m + 1, _, .ListComp elt [⟨tg, it, ifs, 0⟩] scope _ =>
      let own := ownOf c scope
      if blkC c.N c.sc scope own then
        (compI c m true (isTup tg) it).bind fun i => (compT (blkCC c scope) m tg).bind fun t => (compL' (blkCC c scope) m false ifs).bind fun cs =>
          if (tgtS t).all fun j => (own.map (·.2)).contains j then (compE (blkCC c scope) m false elt).map fun x => .comp (own.map (·.2)) t i cs x else none
      else none
  | _, _, _ => none
def compL' (c : CC) : Nat → Bool → List Expr → Option CEs
  | 0, _, _ => none
  | m + 1, _, [] => some .nil
  | m + 1, pk, e :: es => (compE c m pk e).bind fun x => (compL' c m pk es).map fun xs => .cons x xs
def compO (c : CC) : Nat → Option Expr → Option CO
  | 0, _ => none
  | m + 1, none => some .non
  | m + 1, some e => (compE c m false e).map CO.som
def compI (c : CC) : Nat → Bool → Bool → Expr → Option CI
  | 0, _, _, _ => none
  | m + 1, pk, tp, e => match e with
    | .Call (.Name f _) [a] [] _ =>
      if gloB c.sc f && decide (f = "range") then (compE c m false a).map CI.range
      else if gloB c.sc f && decide (f = "enumerate") then (if tp then (compE c m pk a).bind fun x => if npk pk x then some (.enum x) else none else none)
      else (compE c m pk e).bind fun x => if npk pk x then some (.seq x) else none
    | .Call (.Name f _) [a, b] [] _ =>
      if gloB c.sc f && decide (f = "range") then (compE c m false a).bind fun x => (compE c m false b).map fun y => .range2 x y
      else if gloB c.sc f && decide (f = "zip") then (if tp then (compE c m pk a).bind fun x => (compE c m pk b).bind fun y => if npk pk x && npk pk y then some (.zip x y) else none else none)
      else (compE c m pk e).bind fun x => if npk pk x then some (.seq x) else none
    | .Set _ _ _ => none
    | _ => (compE c m pk e).bind fun x => if npk pk x then some (.seq x) else none
end
/- the slots that are read where a list could get away -/
mutual
def escE : CE → List Nat
  | .var i => [i]
  | .pk _ => []
  | .con _ => []
  | .glb _ => []
  | .bin _ a b => escE a ++ escE b
  | .neg a => escE a
  | .not a => escE a
  | .cmp _ a b => escE a ++ escE b
  | .chn _ _ a b c => escE a ++ escE b ++ escE c
  | .and a b => escE a ++ escE b
  | .or a b => escE a ++ escE b
  | .ife c a b => escE c ++ escE a ++ escE b
  | .tup es => escL es
  | .lst es => escL es
  | .lstL es => escL es
  | .idx a b => escE a ++ escE b
  | .slc a lo hi => escE a ++ escO lo ++ escO hi
  | .rev a => escE a
  | .call _ es => escL es
  | .bi _ es => escL es
  | .isi a _ => escE a
  | .isiT a _ => escE a
  | .sset a => escE a
  | .comp own _ it cs elt => escI it ++ (escL cs ++ escE elt).filter fun i => !own.contains i
  | .join a b => escE a ++ escE b
  | .split a b => escE a ++ escE b
  | .pop _ => []
def escO : CO → List Nat
  | .non => []
  | .som e => escE e
def escL : CEs → List Nat
  | .nil => []
  | .cons e es => escE e ++ escL es
def escI : CI → List Nat
  | .seq e => escE e
  | .range a => escE a
  | .range2 a b => escE a ++ escE b
  | .enum a => escE a
  | .zip a b => escE a ++ escE b
end
def withF (is : List Nat) (s : CS) (r : CSs) : CSs := if is.isEmpty then .cons s r else .cons (.frz is) (.cons s r)
mutual
def compS (c : CC) : Nat → Stmt → Option (List Nat × CS)
  | 0, _ => none
  | m + 1, st => match st with
    | .Expr (.Call (.Attribute (.Name x xp) meth ap) [a] [] cp) p => if ap.endLine == cp.line && visB c.sc x then
        (if meth = "append" then (slotOf c x).bind fun i => (compE c m false a).map fun e => (escE e, .app i e)
         else if meth = "remove" then (slotOf c x).bind fun i => (compE c m false a).map fun e => (escE e, .rem i e) else none) else none
    | .Expr e _ => match e with
      | .ListComp _ _ _ _ => none
      | _ => (compE c m false e).map fun x => (escE x, .expr x)
    | .Return (some e) _ => (compE c m false e).map fun x => (escE x, .ret x)
    | .Return none _ => some ([], .retN)
    | .Assign [.Subscript (.Name x xp) k sp] v _ => if visB c.sc x && notSlice k then (slotOf c x).bind fun i => (compE c m false k).bind fun kk => (compE c m false v).map fun vv => (escE vv ++ escE kk, .setI i kk vv) else none
    | .Assign [t] e _ => if isTup t && isTup e then none else (compT c m t).bind fun tt => (compE c m false e).map fun x => (escE x, .asg tt x)
    | .If t a b _ => (compE c m false t).bind fun x => (compSs c m a).bind fun y => (compSs c m b).map fun z => (escE x, .iff x y z)
    | .For t it b [] _ => (compT c m t).bind fun tt => (compI c m false (isTup t) it).bind fun i => (compSs c m b).map fun y => (escI i, .for_ tt i y)
    | .While t b [] _ => (compE c m false t).bind fun x => (compSs c m b).map fun y => (escE x, .whl x y)
    | .Break _ => some ([], .brk)
    | .Continue _ => some ([], .cont)
    | .Pass _ => some ([], .pass)
    | .Raise _ _ _ => some ([], .never)
    | _ => none
def compSs (c : CC) : Nat → List Stmt → Option CSs
  | 0, _ => none
  | m + 1, [] => some .nil
  | m + 1, s :: r => (compS c m s).bind fun p => (compSs c m r).map fun q => withF p.1 p.2 q
end
/-! defs -/
def argNames (a : Arguments) : List Str := a.args.map (·.arg)
/- the names that comprehensions bind -/
mutual
def lcE : Nat → Expr → List Str
  | 0, _ => []
  | m + 1, e => match e with
    | .BoolOp _ vs _ => lcEs m vs
    | .BinOp a _ b _ => lcE m a ++ lcE m b
    | .UnaryOp _ a _ => lcE m a
    | .IfExp a b d _ => lcE m a ++ lcE m b ++ lcE m d
    | .Compare a _ bs _ => lcE m a ++ lcEs m bs
    | .Call f as _ _ => lcE m f ++ lcEs m as
    | .Attribute a _ _ => lcE m a
    | .Subscript a b _ => lcE m a ++ lcE m b
    | .Slice lo hi _ _ => (lo.map (lcE m)).getD [] ++ (hi.map (lcE m)).getD []
    | .List es _ => lcEs m es
    | .Tuple es _ _ => lcEs m es
    | .ListComp elt gens scope _ => (scope.names.filterMap fun p => match p.2 with | .local => some p.1 | .cell => some p.1 | _ => none) ++ lcE m elt ++ (gens.flatMap fun g => lcE m g.iter ++ lcEs m g.ifs)
    | _ => []
def lcEs : Nat → List Expr → List Str
  | 0, _ => []
  | m + 1, [] => []
  | m + 1, e :: es => lcE m e ++ lcEs m es
end
mutual
def lcS : Nat → Stmt → List Str
  | 0, _ => []
  | m + 1, s => match s with
    | .Expr e _ => lcE m e
    | .Return (some e) _ => lcE m e
    | .Assign ts v _ => lcEs m ts ++ lcE m v
    | .If t a b _ => lcE m t ++ lcSs m a ++ lcSs m b
    | .For _ it b _ _ => lcE m it ++ lcSs m b
    | .While t b _ _ => lcE m t ++ lcSs m b
    | _ => []
def lcSs : Nat → List Stmt → List Str
  | 0, _ => []
  | m + 1, [] => []
  | m + 1, s :: r => lcS m s ++ lcSs m r
end
def dedup : List Str → List Str → List Str
  | [], acc => acc
  | x :: r, acc => if decide (x ∈ acc) then dedup r acc else dedup r (acc ++ [x])
def slotsOf (st : Stmt) : List Str :=
  dedup (((defScope st).names.filterMap fun p => match p.2 with | .local => some p.1 | .cell => some p.1 | _ => none) ++ lcSs 60 (defBody st)) (argNames (defArgs st))
def ccOf (fns : List Str) (glb : List (Str × D)) (locs : List (Nat × Nat)) (st : Stmt) : CC := ⟨slotsOf st, defScope st, fns, glb, locs, fun _ => true⟩
def compDef (fns : List Str) (glb : List (Str × D)) (locs : List (Nat × Nat)) (st : Stmt) : Option Fn :=
  (compSs (ccOf fns glb locs st) 60 (defBody st)).map fun b => ⟨(argNames (defArgs st)).length, (slotsOf st).length, b⟩
def defName : Stmt → Str
  | .FunctionDef n _ _ _ _ _ _ _ _ _ => n
  | _ => Str.empty
def isDef : Stmt → Bool
  | .FunctionDef _ _ _ _ _ _ _ _ _ _ => true
  | _ => false
end DE
end

section
set_option Elab.async false
set_option linter.all false
set_option maxRecDepth 100000
set_option maxHeartbeats 1000000
namespace DE
open PySem L2 PySem.Spec PyProof.Rows
/-! Data against values and the abstract heap. -/

mutual
inductive Rep (K : PySem.W.Frag) (φ : List Addr) (G : Hp) : D → V → Prop
  | non : Rep K φ G .non .non
  | bl (b : Bool) : Rep K φ G (.bl b) (.bl b)
  | int (i : Int) : Rep K φ G (.int i) (.int i)
  | str (x : Str) (h : PyData.strOk x = true) : Rep K φ G (.str x) (.str x)
  | tup {a : Addr} {vs : List V} {ds : List D} : SqT K G a vs → RepA K φ G ds vs → Rep K φ G (.tup ds) (.ref a)
  | lst {a : Addr} {vs : List V} {ds : List D} : G a = some (.lst vs) → RepA K φ G ds vs → Rep K φ G (.lst ds) (.ref a)
  | dic {a : Addr} {kvs : List (Key × D)} {vs : List (Key × V)} : G a = some (.dK vs) → RepK K φ G kvs vs → Rep K φ G (.dic kvs) (.ref a)
  | loc {n : Nat} {a : Addr} : φ[n]? = some a → Rep K φ G (.loc n) (.ref a)
  | scr {a : Addr} {vs : List V} {ds : List D} : SqL K G a vs → RepA K φ G ds vs → Rep K φ G (.scr ds) (.ref a)
inductive RepA (K : PySem.W.Frag) (φ : List Addr) (G : Hp) : List D → List V → Prop
  | nil : RepA K φ G [] []
  | cons {d : D} {v : V} {ds : List D} {vs : List V} : Rep K φ G d v → RepA K φ G ds vs → RepA K φ G (d :: ds) (v :: vs)
inductive RepK (K : PySem.W.Frag) (φ : List Addr) (G : Hp) : List (Key × D) → List (Key × V) → Prop
  | nil : RepK K φ G [] []
  | cons {k : Key} {d : D} {v : V} {ds : List (Key × D)} {vs : List (Key × V)} : Rep K φ G d v → RepK K φ G ds vs → RepK K φ G ((k, d) :: ds) ((k, v) :: vs)
end
section
variable {K : PySem.W.Frag} {φ φ' : List Addr} {G G' H H' : Hp}
theorem sqT_same {a : Addr} {xs : List V} (e : Same G G') (h : SqT K G a xs) : SqT K G' a xs := by
  rcases h with (h | ⟨o, h⟩) | h
  · exact .inl (.inl (e _ _ h))
  · exact .inl (.inr ⟨o, e _ _ h⟩)
  · exact .inr h
theorem sqL_same {a : Addr} {xs : List V} (e : Same G G') (h : SqL K G a xs) : SqL K G' a xs := e.seq h
mutual
theorem Rep.mono (p : φ <+: φ') (e : Same G G') : ∀ {d : D} {v : V}, Rep K φ G d v → Rep K φ' G' d v
  | _, _, .non => .non
  | _, _, .bl b => .bl b
  | _, _, .int i => .int i
  | _, _, .str x h => .str x h
  | _, _, .tup h r => .tup (sqT_same e h) (RepA.mono p e r)
  | _, _, .lst h r => .lst (e _ _ h) (RepA.mono p e r)
  | _, _, .dic h r => .dic (e _ _ h) (RepK.mono p e r)
  | _, _, .loc (n := n) h => .loc (by
      obtain ⟨t, rfl⟩ := p
      rw [List.getElem?_append_left (List.getElem?_eq_some_iff.mp h).1]
      exact h)
  | _, _, .scr h r => .scr (sqL_same e h) (RepA.mono p e r)
theorem RepA.mono (p : φ <+: φ') (e : Same G G') : ∀ {ds : List D} {vs : List V}, RepA K φ G ds vs → RepA K φ' G' ds vs
  | _, _, .nil => .nil
  | _, _, .cons h r => .cons (Rep.mono p e h) (RepA.mono p e r)
theorem RepK.mono (p : φ <+: φ') (e : Same G G') : ∀ {ds : List (Key × D)} {vs : List (Key × V)}, RepK K φ G ds vs → RepK K φ' G' ds vs
  | _, _, .nil => .nil
  | _, _, .cons h r => .cons (Rep.mono p e h) (RepK.mono p e r)
end
theorem RepA.length : ∀ {ds : List D} {vs : List V}, RepA K φ G ds vs → ds.length = vs.length
  | _, _, .nil => rfl
  | _, _, .cons _ r => by simp [RepA.length r]
theorem RepA.get : ∀ {ds : List D} {vs : List V} {i : Nat} {d : D}, RepA K φ G ds vs → ds[i]? = some d → ∃ v, vs[i]? = some v ∧ Rep K φ G d v
  | _, _, _, _, .nil, e => by simp at e
  | _, _, 0, _, .cons h _, e => by simp at e; subst e; exact ⟨_, rfl, h⟩
  | _, _, i + 1, _, .cons _ r, e => by
    obtain ⟨v, h1, h2⟩ := RepA.get (i := i) r (by simpa using e)
    exact ⟨v, by simpa using h1, h2⟩
theorem RepA.get' : ∀ {ds : List D} {vs : List V} {i : Nat} {v : V}, RepA K φ G ds vs → vs[i]? = some v → ∃ d, ds[i]? = some d ∧ Rep K φ G d v
  | _, _, _, _, .nil, e => by simp at e
  | _, _, 0, _, .cons h _, e => by simp at e; subst e; exact ⟨_, rfl, h⟩
  | _, _, i + 1, _, .cons _ r, e => by
    obtain ⟨v, h1, h2⟩ := RepA.get' (i := i) r (by simpa using e)
    exact ⟨v, by simpa using h1, h2⟩
theorem RepA.append : ∀ {ds es : List D} {vs ws : List V}, RepA K φ G ds vs → RepA K φ G es ws → RepA K φ G (ds ++ es) (vs ++ ws)
  | _, _, _, _, .nil, s => s
  | _, _, _, _, .cons h r, s => .cons h (RepA.append r s)
theorem RepA.rep {ds : List D} {vs : List V} (h : RepA K φ G ds vs) : ∀ n : Nat, RepA K φ G (List.replicate n ds).flatten (List.replicate n vs).flatten
  | 0 => .nil
  | n + 1 => by
    rw [List.replicate_succ, List.replicate_succ, List.flatten_cons, List.flatten_cons]
    exact h.append (RepA.rep h n)
theorem RepA.one {d : D} {v : V} (h : Rep K φ G d v) : RepA K φ G [d] [v] := .cons h .nil
theorem RepA.take : ∀ {ds : List D} {vs : List V} (n : Nat), RepA K φ G ds vs → RepA K φ G (ds.take n) (vs.take n)
  | _, _, 0, _ => .nil
  | _, _, _ + 1, .nil => .nil
  | _, _, n + 1, .cons h r => .cons h (RepA.take n r)
theorem RepA.drop : ∀ {ds : List D} {vs : List V} (n : Nat), RepA K φ G ds vs → RepA K φ G (ds.drop n) (vs.drop n)
  | _, _, 0, r => r
  | _, _, _ + 1, .nil => .nil
  | _, _, n + 1, .cons _ r => RepA.drop n r
theorem RepA.set {x : D} {u : V} (h : Rep K φ G x u) : ∀ {ds : List D} {vs : List V} (i : Nat), RepA K φ G ds vs → RepA K φ G (ds.set i x) (vs.set i u)
  | _, _, _, .nil => .nil
  | _, _, 0, .cons _ t => .cons h t
  | _, _, i + 1, .cons q t => .cons q (RepA.set h i t)
theorem RepA.reverse {ds : List D} {vs : List V} (h : RepA K φ G ds vs) : RepA K φ G ds.reverse vs.reverse := by
  induction ds generalizing vs with
  | nil => cases h; exact .nil
  | cons d ds ih =>
    cases h with
    | cons h r =>
      rw [List.reverse_cons, List.reverse_cons]
      exact (ih r).append (.one h)
theorem RepA.dropLast : ∀ {ds : List D} {vs : List V}, RepA K φ G ds vs → RepA K φ G ds.dropLast vs.dropLast
  | _, _, .nil => .nil
  | _, _, .cons _ .nil => .nil
  | _, _, .cons h (.cons h2 r) => .cons h (RepA.dropLast (.cons h2 r))

/-- a base to what stands later -/
structure Ext (φ0 : List Addr) (G0 H0 : Hp) (φ : List Addr) (G H : Hp) : Prop where
  pre : φ0 <+: φ
  same : Same G0 G
  frame : ∀ a o, H0 a = some o → a ∉ φ0 → H a = some o
  newG : ∀ a, H0 a ≠ none → a ∉ φ0 → G0 a = none → G a = none
  newP : ∀ a, a ∈ φ → a ∈ φ0 ∨ H0 a = none
theorem Ext.refl (φ : List Addr) (G H : Hp) : Ext φ G H φ G H := ⟨List.prefix_rfl, Same.refl _, fun _ _ h _ => h, fun _ _ _ h => h, fun _ h => .inl h⟩
/-- the store -/
structure StR (K : PySem.W.Frag) (φ : List Addr) (G : Hp) (st : Store) (H : Hp) : Prop where
  len : st.length = φ.length
  nd : φ.Nodup
  cell : ∀ (n : Nat) (ds : List D), st[n]? = some ds → ∃ a vs, φ[n]? = some a ∧ G a = none ∧ H a = some (.lst vs) ∧ RepA K φ G ds vs
theorem StR.at {st : Store} (s : StR K φ G st H) {a : Addr} (h : a ∈ φ) : G a = none ∧ H a ≠ none := by
  obtain ⟨n, hn, e⟩ := List.mem_iff_getElem.mp h
  have hl : n < st.length := by rw [s.len]; exact hn
  obtain ⟨b, vs, q1, q2, q3, _⟩ := s.cell n st[n] (List.getElem?_eq_getElem hl)
  rw [List.getElem?_eq_getElem hn, e] at q1
  cases q1
  exact ⟨q2, by rw [q3]; exact Option.some_ne_none _⟩
theorem Ext.trans {φ0 φ1 φ2 : List Addr} {G0 G1 G2 H0 H1 H2 : Hp} {st : Store} (a : Ext φ0 G0 H0 φ1 G1 H1) (s : StR K φ1 G1 st H1) (b : Ext φ1 G1 H1 φ2 G2 H2) (s2 : ∀ x, x ∈ φ1 → G2 x = none) : Ext φ0 G0 H0 φ2 G2 H2 := by
  have notin : ∀ x o, H0 x = some o → x ∉ φ0 → x ∉ φ1 := fun x o e n h => by
    rcases a.newP x h with q | q
    · exact n q
    · rw [e] at q; cases q
  refine ⟨a.pre.trans b.pre, a.same.trans b.same, fun x o e n => b.frame x o (a.frame x o e n) (notin x o e n), fun x e n g => ?_, fun x h => ?_⟩
  · cases q : H0 x with
    | none => exact absurd q e
    | some o => exact b.newG x (by rw [a.frame x o q n]; exact Option.some_ne_none _) (notin x o q n) (a.newG x e n g)
  · rcases b.newP x h with q | q
    · exact a.newP x q
    · by_cases hx : x ∈ φ0
      · exact .inl hx
      · refine .inr ?_
        cases r : H0 x with
        | none => rfl
        | some o => rw [a.frame x o r hx] at q; cases q

structure Bs where
  φ : List Addr
  G : Hp
  H : Hp
/-- a slot -/
def SlR (K : PySem.W.Frag) (B : Bs) (φ : List Addr) (G H : Hp) : Slot → V → Prop
  | .val d, v => Rep K φ G d v
  | .own ds, v => ∃ a vs, v = .ref a ∧ B.H a = none ∧ G a = none ∧ a ∉ φ ∧ H a = some (.lst vs) ∧ RepA K φ G ds vs
  | .ro ds, v => ∃ a vs, v = .ref a ∧ B.H a = some (.lst vs) ∧ a ∉ B.φ ∧ RepA K φ G ds vs
structure SR (K : PySem.W.Frag) (B : Bs) (φ : List Addr) (G : Hp) (s : S) (σ : L2.St) (H : Hp) : Prop where
  ext : Ext B.φ B.G B.H φ G H
  same : Same G H
  st : StR K φ G s.st H
  env : ∀ (i : Nat) (sl : Slot), s.get i = some sl → ∃ v, σ[i]? = some (some v) ∧ SlR K B φ G H sl v
  dis : ∀ (i j : Nat) (xs ys : List D) (v : V), s.get i = some (.own xs) → s.get j = some (.own ys) → σ[i]? = some (some v) → σ[j]? = some (some v) → i = j
  len : s.env.length = σ.length
/-- THE STEP: what a call, an allocation, a comprehension does -/
theorem SR.step {B : Bs} {s : S} {σ : L2.St} {st' : Store} (I : SR K B φ G s σ H) (x : Ext φ G H φ' G' H') (sm : Same G' H') (s2 : StR K φ' G' st' H') : SR K B φ' G' { s with st := st' } σ H' := by
  refine ⟨I.ext.trans I.st x fun a h => (s2.at (x.pre.subset h)).1, sm, s2, fun i sl e => ?_, I.dis, I.len⟩
  obtain ⟨v, e1, r⟩ := I.env i sl e
  refine ⟨v, e1, ?_⟩
  cases sl with
  | val d => exact Rep.mono x.pre x.same r
  | own ds =>
    obtain ⟨a, vs, e2, b, g, np, h, ra⟩ := r
    have hne : H a ≠ none := by rw [h]; exact Option.some_ne_none _
    refine ⟨a, vs, e2, b, x.newG a hne np g, fun q => ?_, x.frame a _ h np, RepA.mono x.pre x.same ra⟩
    rcases x.newP a q with q | q
    · exact np q
    · exact hne q
  | ro ds =>
    obtain ⟨a, vs, e2, b, np, ra⟩ := r
    exact ⟨a, vs, e2, b, np, RepA.mono x.pre x.same ra⟩
/-- a new object, frozen -/
theorem ext_new {p : Addr} {o : HO} (hp : H p = none) (hg : Same G H) (nin : p ∉ φ) : Ext φ G H φ (upd G p o) (upd H p o) := by
  have gp : G p = none := hg.free hp
  refine ⟨List.prefix_rfl, fun a u e => ?_, fun a u e _ => ?_, fun a e _ g => ?_, fun a h => .inl h⟩
  · rw [upd_ne (ne_of_none e gp)]; exact e
  · rw [upd_ne (ne_of_none e hp)]; exact e
  · have hne : a ≠ p := fun q => by rw [q] at e; exact e hp
    rw [upd_ne hne]; exact g
theorem same_new {p : Addr} {o : HO} (hg : Same G H) : Same (upd G p o) (upd H p o) := fun a u e => by
  by_cases q : a = p
  · subst q; rw [upd_same] at e ⊢; exact e
  · rw [upd_ne q] at e ⊢; exact hg a u e
theorem StR.new {st : Store} {p : Addr} {o : HO} (s : StR K φ G st H) (hp : H p = none) (hg : Same G H) : StR K φ (upd G p o) st (upd H p o) := by
  refine ⟨s.len, s.nd, fun n ds e => ?_⟩
  obtain ⟨a, vs, e1, g, h, r⟩ := s.cell n ds e
  have ne : a ≠ p := ne_of_none h hp
  refine ⟨a, vs, e1, by rw [upd_ne ne]; exact g, by rw [upd_ne ne]; exact h, RepA.mono List.prefix_rfl (fun b u q => ?_) r⟩
  rw [upd_ne (ne_of_none q (hg.free hp))]; exact q
theorem StR.notin {st : Store} (s : StR K φ G st H) {p : Addr} (hp : H p = none) : p ∉ φ := fun h => (s.at h).2 hp
theorem SR.new {B : Bs} {s : S} {σ : L2.St} {p : Addr} {o : HO} (I : SR K B φ G s σ H) (hp : H p = none) : SR K B φ (upd G p o) s σ (upd H p o) :=
  I.step (ext_new hp I.same (I.st.notin hp)) (same_new I.same) (I.st.new hp I.same)
theorem same_upd {p : Addr} {o : HO} (hp : H p = none) (hg : Same G H) : Same G (upd G p o) := fun a u e => by
  rw [upd_ne (ne_of_none e (hg.free hp))]; exact e
/-- a new object, not frozen -/
theorem ext_lay {p : Addr} {o : HO} (hp : H p = none) (nin : p ∉ φ) : Ext φ G H φ G (upd H p o) :=
  ⟨List.prefix_rfl, Same.refl _, fun a u e _ => by rw [upd_ne (ne_of_none e hp)]; exact e, fun a _ _ g => g, fun a h => .inl h⟩
theorem same_lay {p : Addr} {o : HO} (hp : H p = none) (hg : Same G H) : Same G (upd H p o) := fun a u e => by
  rw [upd_ne (ne_of_none (hg a u e) hp)]; exact hg a u e
theorem StR.lay {st : Store} {p : Addr} {o : HO} (s : StR K φ G st H) (hp : H p = none) : StR K φ G st (upd H p o) := by
  refine ⟨s.len, s.nd, fun n ds e => ?_⟩
  obtain ⟨a, vs, e1, g, h, r⟩ := s.cell n ds e
  exact ⟨a, vs, e1, g, by rw [upd_ne (ne_of_none h hp)]; exact h, r⟩
theorem SR.lay {B : Bs} {s : S} {σ : L2.St} {p : Addr} {o : HO} (I : SR K B φ G s σ H) (hp : H p = none) : SR K B φ G s σ (upd H p o) :=
  I.step (ext_lay hp (I.st.notin hp)) (same_lay hp I.same) (I.st.lay hp)
/-- a list that nobody holds -/
def Frs (K : PySem.W.Frag) (B : Bs) (φ : List Addr) (G : Hp) (s : S) (σ : L2.St) (H : Hp) (xs : List D) (v : V) : Prop :=
  ∃ p vs, v = .ref p ∧ B.H p = none ∧ G p = none ∧ p ∉ φ ∧ H p = some (.lst vs) ∧ RepA K φ G xs vs ∧ ∀ (i : Nat) (ys : List D), s.get i = some (.own ys) → σ[i]? ≠ some (some (.ref p))
theorem SR.base_none {B : Bs} {s : S} {σ : L2.St} {p : Addr} (I : SR K B φ G s σ H) (hp : H p = none) : B.H p = none := by
  cases q : B.H p with
  | none => rfl
  | some o =>
    by_cases hb : p ∈ B.φ
    · exact absurd hp (I.st.at (I.ext.pre.subset hb)).2
    · rw [I.ext.frame p o q hb] at hp; cases hp
theorem SR.notown {B : Bs} {s : S} {σ : L2.St} {p : Addr} (I : SR K B φ G s σ H) (hp : H p = none) : ∀ (i : Nat) (ys : List D), s.get i = some (.own ys) → σ[i]? ≠ some (some (.ref p)) := fun i ys e q => by
  obtain ⟨v, e1, a, vs, e2, _, _, _, h, _⟩ := I.env i _ e
  rw [q] at e1
  cases e1
  cases e2
  rw [h] at hp; cases hp
theorem SR.frs {B : Bs} {s : S} {σ : L2.St} {p : Addr} {xs : List D} {vs : List V} (I : SR K B φ G s σ H) (hp : H p = none) (r : RepA K φ G xs vs) : Frs K B φ G s σ (upd H p (.lst vs)) xs (.ref p) :=
  ⟨p, vs, rfl, I.base_none hp, I.same.free hp, I.st.notin hp, upd_same, r, I.notown hp⟩
/-- such a list is frozen -/
theorem SR.freeze {B : Bs} {s : S} {σ : L2.St} {xs : List D} {v : V} (I : SR K B φ G s σ H) (f : Frs K B φ G s σ H xs v) : ∃ G', Same G G' ∧ SR K B φ G' s σ H ∧ Rep K φ G' (.lst xs) v := by
  obtain ⟨p, vs, rfl, b, g, np, h, r, no⟩ := f
  have sg : Same G (upd G p (.lst vs)) := fun a u e => by rw [upd_ne (ne_of_none e g)]; exact e
  refine ⟨upd G p (.lst vs), sg, ⟨⟨I.ext.pre, I.ext.same.trans sg, I.ext.frame, fun a e n q => ?_, I.ext.newP⟩, fun a u e => ?_, ⟨I.st.len, I.st.nd, fun n ds e => ?_⟩, fun i sl e => ?_, I.dis, I.len⟩, .lst upd_same (RepA.mono List.prefix_rfl sg r)⟩
  · have ne : a ≠ p := fun z => by rw [z] at e; exact e b
    rw [upd_ne ne]; exact I.ext.newG a e n q
  · by_cases q : a = p
    · subst q; rw [upd_same] at e; cases e; exact h
    · rw [upd_ne q] at e; exact I.same a u e
  · obtain ⟨a, ws, e1, ga, ha, ra⟩ := I.st.cell n ds e
    have ne : a ≠ p := fun z => by
      subst z
      exact np (List.mem_of_getElem? e1)
    exact ⟨a, ws, e1, by rw [upd_ne ne]; exact ga, ha, RepA.mono List.prefix_rfl sg ra⟩
  · obtain ⟨w, e1, q⟩ := I.env i sl e
    refine ⟨w, e1, ?_⟩
    cases sl with
    | val d => exact Rep.mono List.prefix_rfl sg q
    | own ds =>
      obtain ⟨a, ws, e2, ba, ga, na, ha, ra⟩ := q
      have ne : a ≠ p := fun z => by
        subst z; subst e2
        exact no i ds e e1
      exact ⟨a, ws, e2, ba, by rw [upd_ne ne]; exact ga, na, ha, RepA.mono List.prefix_rfl sg ra⟩
    | ro ds =>
      obtain ⟨a, ws, e2, ba, na, ra⟩ := q
      exact ⟨a, ws, e2, ba, na, RepA.mono List.prefix_rfl sg ra⟩
end
end DE
end

section
set_option Elab.async false
set_option linter.all false
set_option maxRecDepth 100000
set_option maxHeartbeats 1000000
namespace DE
open PySem L2 PySem.Spec PyProof.Rows
/-! What is wanted, as the widest readings; operations on data against the rules. -/
section
variable {X : Cx} {e : Expr} {σ : L2.St} {H : Hp} {Q Q' : VK}
def WE (X : Cx) (e : Expr) : TE := fun σ H Q => ∀ (pins : List (Addr × Obj)) (s : Shared), Inv X pins σ H s → wpAny (model X.prog X.w) X.A (eval e X.env) (EP X pins σ Q) X.xe s
def WT (X : Cx) (e : Expr) : TT := fun σ H Q => ∀ (pins : List (Addr × Obj)) (s : Shared), Inv X pins σ H s → wpAny (model X.prog X.w) X.A (isTrue e X.env (eval e X.env)) (TP X pins σ Q) X.xe s
def WA (X : Cx) (es : List Expr) : TA := fun σ H Q => ∀ (pos : Pos) (pins : List (Addr × Obj)) (s : Shared), Inv X pins σ H s → wpAny (model X.prog X.w) X.A (spliced (backTo pos (starEach es X.env))) (AP X pins σ Q) X.xe s
def WS (X : Cx) (st : Stmt) : TS := fun D σ H => ∀ (pins : List (Addr × Obj)) (s : Shared), Inv X pins σ H s → wpAny (model X.prog X.w) X.A (exec st X.env) (SP X pins D) X.xe s
def WSs (X : Cx) (st : List Stmt) : TS := fun D σ H => ∀ (pins : List (Addr × Obj)) (s : Shared), Inv X pins σ H s → wpAny (model X.prog X.w) X.A (execs st X.env) (SP X pins D) X.xe s
theorem pe_WE : PE X e (WE X e) := ⟨fun pins s σ H Q I h => h pins s I⟩
theorem pt_WT : PT X e (WT X e) := ⟨fun pins s σ H Q I h => h pins s I⟩
theorem pa_WA {es : List Expr} : PA X es (WA X es) := ⟨fun pos pins s σ H Q I h => h pos pins s I⟩
theorem ps_WS {st : Stmt} : PS X st (WS X st) := ⟨fun pins s σ H D I h => h pins s I⟩
theorem pss_WSs {st : List Stmt} : PSs X st (WSs X st) := ⟨fun pins s σ H D I h => h pins s I⟩
theorem we_of {t : TE} (h : PE X e t) (q : t σ H Q) : WE X e σ H Q := fun pins s I => h.run pins s σ H Q I q
theorem wt_of {t : TT} {R : Bool → Hp → Prop} (h : PT X e t) (q : t σ H R) : WT X e σ H R := fun pins s I => h.run pins s σ H R I q
theorem wa_of {es : List Expr} {t : TA} {R : List V → Hp → Prop} (h : PA X es t) (q : t σ H R) : WA X es σ H R := fun pos pins s I => h.run pos pins s σ H R I q
theorem ws_of {st : Stmt} {t : TS} {D : Ends} (h : PS X st t) (q : t D σ H) : WS X st D σ H := fun pins s I => h.run pins s σ H D I q
theorem wss_of {st : List Stmt} {t : TS} {D : Ends} (h : PSs X st t) (q : t D σ H) : WSs X st D σ H := fun pins s I => h.run pins s σ H D I q
theorem WE.mono (h : WE X e σ H Q) (k : ∀ v H', Q v H' → Q' v H') : WE X e σ H Q' := fun pins s I =>
  thn (h pins s I) fun _ _ ⟨v, H', I', r, q⟩ => ⟨v, H', I', r, k _ _ q⟩
theorem WT.mono {R R' : Bool → Hp → Prop} (h : WT X e σ H R) (k : ∀ v H', R v H' → R' v H') : WT X e σ H R' := fun pins s I =>
  thn (h pins s I) fun _ _ ⟨H', I', q⟩ => ⟨H', I', k _ _ q⟩
theorem WA.mono {es : List Expr} {R R' : List V → Hp → Prop} (h : WA X es σ H R) (k : ∀ v H', R v H' → R' v H') : WA X es σ H R' := fun pos pins s I =>
  thn (h pos pins s I) fun _ _ ⟨v, H', I', r, q⟩ => ⟨v, H', I', r, k _ _ q⟩
/-- the widest of an operation -/
def SemOp (X : Cx) (f : Value → Value → Sem Value) : R2 := fun x y H Q => ∀ (pins : List (Addr × Obj)) (s : Shared) (σ : L2.St) (v u : Value), Inv X pins σ H s → RelV x v → RelV y u → wpAny (model X.prog X.w) X.A (f v u) (EP X pins σ Q) X.xe s
theorem or_sem {f : Value → Value → Sem Value} : OpR X f (SemOp X f) := fun pins s σ H x y v u Q I rx ry h => h pins s σ v u I rx ry
theorem sem_of {f : Value → Value → Sem Value} {r : R2} {x y : V} (h : OpR X f r) (q : r x y H Q) : SemOp X f x y H Q := fun pins s σ v u I rx ry => h pins s σ H x y v u Q I rx ry q
/-- .. where the heap's own facts may be used -/
theorem sem_by {f : Value → Value → Sem Value} {r : R2} {x y : V} (h : OpR X f r) (q : ∀ (pins : List (Addr × Obj)) (s : Shared) (σ : L2.St), Inv X pins σ H s → r x y H Q) : SemOp X f x y H Q := fun pins s σ v u I rx ry => h pins s σ H x y v u Q I rx ry (q pins s σ I)
def SemC (X : Cx) (f : Value) : List V → Hp → VK → Prop := fun xs H Q => ∀ (pins : List (Addr × Obj)) (s : Shared) (σ : L2.St) (us : List Value), Inv X pins σ H s → Vals xs us → wpAny (model X.prog X.w) X.A (call f us) (EP X pins σ Q) X.xe s
theorem cr_sem {f : Value} : CallR X f (SemC X f) := fun pins s σ H xs us Q I r h => h pins s σ us I r
theorem semc_of {f : Value} {r : List V → Hp → VK → Prop} {xs : List V} (h : CallR X f r) (q : r xs H Q) : SemC X f xs H Q := fun pins s σ us I rx => h pins s σ H xs us Q I rx q
end

/-! ### what an operand is at the end of both -/
section
variable {K : PySem.W.Frag} {B : Bs} {φ φ' : List Addr} {G G' H H' : Hp} {s s' : S} {σ : L2.St}
def ROp (K : PySem.W.Frag) (φ : List Addr) (G : Hp) (σ : L2.St) : Op → V → Prop
  | .d d, v => Rep K φ G d v
  | .pk i, v => σ[i]? = some (some v)
theorem ROp.mono {x : Op} {v : V} (p : φ <+: φ') (e : Same G G') (r : ROp K φ G σ x v) : ROp K φ' G' σ x v := by
  cases x with
  | d d => exact Rep.mono p e r
  | pk i => exact r
/-- data, or a list that is one's own -/
def RepH (K : PySem.W.Frag) (φ : List Addr) (G H : Hp) (d : D) (v : V) : Prop :=
  Rep K φ G d v ∨ ∃ xs a vs, d = .lst xs ∧ v = .ref a ∧ H a = some (.lst vs) ∧ RepA K φ G xs vs ∧ a ∉ φ
theorem ROp.res {x : Op} {v : V} {d : D} (I : SR K B φ G s σ H) (r : ROp K φ G σ x v) (e : resO s x = some d) : RepH K φ G H d v := by
  cases x with
  | d d' =>
    cases e
    exact .inl r
  | pk i =>
    cases q : s.get i with
    | none => simp [resO, q] at e
    | some sl =>
      obtain ⟨w, e1, h⟩ := I.env i sl q
      have hr : σ[i]? = some (some v) := r
      rw [hr] at e1
      cases e1
      cases sl with
      | val d' =>
        simp [resO, q] at e
        subst e
        exact .inl h
      | own xs =>
        simp [resO, q] at e
        obtain ⟨a, vs, e2, _, _, na, h1, ra⟩ := h
        exact .inr ⟨xs, a, vs, e.symm, e2, h1, ra, na⟩
      | ro xs =>
        simp [resO, q] at e
        obtain ⟨a, vs, e2, h1, na, ra⟩ := h
        refine .inr ⟨xs, a, vs, e.symm, e2, I.ext.frame a _ h1 na, ra, fun z => ?_⟩
        rcases I.ext.newP a z with z | z
        · exact na z
        · rw [h1] at z; cases z
theorem RepH.int {i : Int} {v : V} (r : RepH K φ G H (.int i) v) : v = .int i := by
  rcases r with r | ⟨_, _, _, e, _⟩
  · cases r; rfl
  · cases e
theorem RepH.bl {b : Bool} {v : V} (r : RepH K φ G H (.bl b) v) : v = .bl b := by
  rcases r with r | ⟨_, _, _, e, _⟩
  · cases r; rfl
  · cases e
theorem RepH.str {x : Str} {v : V} (r : RepH K φ G H (.str x) v) : v = .str x ∧ PyData.strOk x = true := by
  rcases r with r | ⟨_, _, _, e, _⟩
  · cases r; exact ⟨rfl, by assumption⟩
  · cases e
theorem RepH.non {v : V} (r : RepH K φ G H .non v) : v = .non := by
  rcases r with r | ⟨_, _, _, e, _⟩
  · cases r; rfl
  · cases e
theorem RepH.lst {xs : List D} {v : V} (r : RepH K φ G H (.lst xs) v) (sm : Same G H) : ∃ a vs, v = .ref a ∧ H a = some (.lst vs) ∧ RepA K φ G xs vs := by
  rcases r with r | ⟨ys, a, vs, e, e2, h, ra, _⟩
  · cases r with
    | lst h ra => exact ⟨_, _, rfl, sm _ _ h, ra⟩
  · cases e; exact ⟨a, vs, e2, h, ra⟩
theorem RepH.tup {xs : List D} {v : V} (r : RepH K φ G H (.tup xs) v) (sm : Same G H) : ∃ a vs, v = .ref a ∧ SqT K H a vs ∧ SqT K G a vs ∧ RepA K φ G xs vs := by
  rcases r with r | ⟨ys, a, vs, e, e2, h, ra⟩
  · cases r with
    | tup h ra => exact ⟨_, _, rfl, sqT_same sm h, h, ra⟩
  · cases e
theorem RepH.loc {n : Nat} {v : V} (r : RepH K φ G H (.loc n) v) : ∃ a, v = .ref a ∧ φ[n]? = some a := by
  rcases r with r | ⟨ys, a, vs, e, _⟩
  · cases r with
    | loc h => exact ⟨_, rfl, h⟩
  · cases e
theorem RepH.scr {xs : List D} {v : V} (r : RepH K φ G H (.scr xs) v) (sm : Same G H) : ∃ a vs, v = .ref a ∧ SqL K H a vs ∧ RepA K φ G xs vs := by
  rcases r with r | ⟨ys, a, vs, e, _⟩
  · cases r with
    | scr h ra => exact ⟨_, _, rfl, sqL_same sm h, ra⟩
  · cases e
theorem RepH.dic {kvs : List (Key × D)} {v : V} (r : RepH K φ G H (.dic kvs) v) : ∃ a vs, v = .ref a ∧ G a = some (.dK vs) ∧ RepK K φ G kvs vs := by
  rcases r with r | ⟨ys, a, vs, e, _⟩
  · cases r with
    | dic h ra => exact ⟨_, _, rfl, h, ra⟩
  · cases e
mutual
theorem Rep.dp (sm : Same G H) : ∀ {d : D} {v : V}, Rep K φ G d v → isPy d = true → Dp K H v (toPy d) ∧ (toPy d).canLay0 = true
  | _, _, .non, _ => ⟨.non, by simp [toPy, PyData.canLay0]⟩
  | _, _, .bl b, _ => ⟨.bl b, by simp [toPy, PyData.canLay0]⟩
  | _, _, .int i, _ => ⟨.int i, by simp [toPy, PyData.canLay0]⟩
  | _, _, .str x h, _ => ⟨.str x, by simp [toPy, PyData.canLay0, h]⟩
  | _, _, .tup h r, p => by
    have q := RepA.dp sm r (by simpa [isPy] using p)
    exact ⟨by simp only [toPy]; exact .tup (sqT_same sm h) q.1, by simp only [toPy, PyData.canLay0]; exact q.2⟩
  | _, _, .lst h r, p => by
    have q := RepA.dp sm r (by simpa [isPy] using p)
    exact ⟨by simp only [toPy]; exact .lst (.inl (.inl (sm _ _ h))) q.1, by simp only [toPy, PyData.canLay0]; exact q.2⟩
  | _, _, .dic _ _, p => by simp [isPy] at p
  | _, _, .loc _, p => by simp [isPy] at p
  | _, _, .scr _ _, p => by simp [isPy] at p
theorem RepA.dp (sm : Same G H) : ∀ {ds : List D} {vs : List V}, RepA K φ G ds vs → isPys ds = true → DpAll K H vs (toPys ds) ∧ PyData.canLayAll0 (toPys ds) = true
  | _, _, .nil, _ => ⟨by simp only [toPys]; exact .nil, by simp [toPys, PyData.canLayAll0]⟩
  | _, _, .cons h r, p => by
    simp only [isPys, Bool.and_eq_true] at p
    have q1 := Rep.dp sm h p.1
    have q2 := RepA.dp sm r p.2
    exact ⟨by simp only [toPys]; exact .cons q1.1 q2.1, by simp only [toPys, PyData.canLayAll0, Bool.and_eq_true]; exact ⟨q1.2, q2.2⟩⟩
end
theorem RepH.dp {d : D} {v : V} (r : RepH K φ G H d v) (sm : Same G H) (p : isPy d = true) : Dp K H v (toPy d) ∧ (toPy d).canLay0 = true := by
  rcases r with r | ⟨xs, a, vs, rfl, rfl, h, ra, _⟩
  · exact Rep.dp sm r p
  · have q := RepA.dp sm ra (by simpa [isPy] using p)
    exact ⟨by simp only [toPy]; exact .lst (.inl (.inl h)) q.1, by simp only [toPy, PyData.canLay0]; exact q.2⟩

/-! ### what comes of an expression -/
def RRX (K : PySem.W.Frag) (B : Bs) (φ : List Addr) (G : Hp) (s : S) (σ : L2.St) (H : Hp) : RX → V → Prop
  | .d d, v => Rep K φ G d v
  | .fr xs, v => Frs K B φ G s σ H xs v
/-- the state s' behind, the value r -/
def PX (K : PySem.W.Frag) (B : Bs) (φ : List Addr) (G : Hp) (σ : L2.St) (r : RX) (s' : S) : VK := fun v H' =>
  ∃ φ' G', φ <+: φ' ∧ Same G G' ∧ SR K B φ' G' s' σ H' ∧ RRX K B φ' G' s' σ H' r v
def PD (K : PySem.W.Frag) (B : Bs) (φ : List Addr) (G : Hp) (σ : L2.St) (d : D) (s' : S) : VK := fun v H' =>
  ∃ φ' G', φ <+: φ' ∧ Same G G' ∧ SR K B φ' G' s' σ H' ∧ Rep K φ' G' d v
def PO' (K : PySem.W.Frag) (B : Bs) (φ : List Addr) (G : Hp) (σ : L2.St) (x : Op) (s' : S) : VK := fun v H' =>
  ∃ φ' G', φ <+: φ' ∧ Same G G' ∧ SR K B φ' G' s' σ H' ∧ ROp K φ' G' σ x v
def PB (K : PySem.W.Frag) (B : Bs) (φ : List Addr) (G : Hp) (σ : L2.St) (b : Bool) (s' : S) : Bool → Hp → Prop := fun k H' =>
  k = b ∧ ∃ φ' G', φ <+: φ' ∧ Same G G' ∧ SR K B φ' G' s' σ H'
def PL (K : PySem.W.Frag) (B : Bs) (φ : List Addr) (G : Hp) (σ : L2.St) (ds : List D) (s' : S) : List V → Hp → Prop := fun vs H' =>
  ∃ φ' G', φ <+: φ' ∧ Same G G' ∧ SR K B φ' G' s' σ H' ∧ RepA K φ' G' ds vs
theorem PX.dat {r : RX} {v : V} (h : PX K B φ G σ r s v H) : PD K B φ G σ r.dat s v H := by
  obtain ⟨φ1, G1, p, sg, I, q⟩ := h
  cases r with
  | d d => exact ⟨φ1, G1, p, sg, I, q⟩
  | fr xs =>
    obtain ⟨G2, sg2, I2, r2⟩ := I.freeze q
    exact ⟨φ1, G2, p, sg.trans sg2, I2, r2⟩
theorem PX.of {r : RX} {v : V} {φ1 : List Addr} {G1 : Hp} (p : φ <+: φ1) (sg : Same G G1) (h : PX K B φ1 G1 σ r s v H) : PX K B φ G σ r s v H := by
  obtain ⟨φ2, G2, p2, sg2, I, q⟩ := h
  exact ⟨φ2, G2, p.trans p2, sg.trans sg2, I, q⟩
theorem px_d {d : D} {v : V} (I : SR K B φ G s σ H) (r : Rep K φ G d v) : PX K B φ G σ (.d d) s v H := ⟨φ, G, List.prefix_rfl, Same.refl _, I, r⟩
theorem px_new {d : D} {p : Addr} {o : HO} (I : SR K B φ G s σ H) (hp : H p = none) (r : Rep K φ (upd G p o) d (.ref p)) : PX K B φ G σ (.d d) s (.ref p) (upd H p o) :=
  ⟨φ, _, List.prefix_rfl, same_upd hp I.same, I.new hp, r⟩
theorem px_fr {xs : List D} {vs : List V} {p : Addr} (I : SR K B φ G s σ H) (hp : H p = none) (r : RepA K φ G xs vs) : PX K B φ G σ (.fr xs) s (.ref p) (upd H p (.lst vs)) :=
  ⟨φ, G, List.prefix_rfl, Same.refl _, I.lay hp, I.frs hp r⟩
theorem px_tup {xs : List D} {vs : List V} {p : Addr} (I : SR K B φ G s σ H) (hp : H p = none) (r : RepA K φ G xs vs) : PX K B φ G σ (.d (.tup xs)) s (.ref p) (upd H p (.tup vs)) :=
  px_new I hp (.tup (.inl (.inl upd_same)) (RepA.mono List.prefix_rfl (same_upd hp I.same) r))
end

/-! ### operators -/
section
variable {X : Cx} {B : Bs} {φ : List Addr} {G H : Hp} {s : S} {σ : L2.St}
def opOf : Bop → Operator
  | .add => .Add | .sub => .Sub | .mul => .Mult | .fdiv => .FloorDiv | .mod => .Mod | .pow => .Pow
theorem strOk_app {a b : Str} (ha : PyData.strOk a = true) (hb : PyData.strOk b = true) : PyData.strOk (a ++ b) = true := by
  show (a.cps ++ b.cps).all _ = true
  rw [Array.all_append]
  exact Bool.and_eq_true_iff.mpr ⟨ha, hb⟩
theorem mul_bound {i j : Int} (h : i.natAbs < 2 ^ 64 ∨ j.natAbs < 2 ^ 64) : (-(2 ^ 64) < i ∧ i < 2 ^ 64) ∨ (-(2 ^ 64) < j ∧ j < 2 ^ 64) := by
  rcases h with h | h
  · exact .inl ⟨by omega, by omega⟩
  · exact .inr ⟨by omega, by omega⟩
theorem bin_ok {op : Bop} {a b : D} {r : RX} {x y : V} (I : SR X.K B φ G s σ H) (ra : RepH X.K φ G H a x) (rb : RepH X.K φ G H b y) (e : binD op a b = some r) :
    SemOp X (binaryOp (opOf op)) x y H (PX X.K B φ G σ r s) := by
  unfold binD at e
  split at e
  · cases e; cases ra.int; cases rb.int
    exact sem_of op_add ⟨_, _, rfl, rfl, px_d I (.int _)⟩
  · split at e
    · cases e
      obtain ⟨rfl, h1⟩ := ra.str
      obtain ⟨rfl, h2⟩ := rb.str
      exact sem_of op_add_str ⟨_, _, rfl, rfl, by assumption, px_d I (.str _ (strOk_app h1 h2))⟩
    · cases e
  · split at e
    · cases e
      obtain ⟨p, vs, rfl, h1, r1⟩ := ra.lst I.same
      obtain ⟨q, ws, rfl, h2, r2⟩ := rb.lst I.same
      refine sem_of op_cat ⟨_, _, _, _, rfl, rfl, h1, h2, by rw [← r1.length, ← r2.length]; assumption, fun l hl => ?_⟩
      exact px_fr I hl (r1.append r2)
    · cases e
  · split at e
    · cases e
      obtain ⟨p, vs, rfl, h1, g1, r1⟩ := ra.tup I.same
      obtain ⟨q, ws, rfl, h2, g2, r2⟩ := rb.tup I.same
      refine sem_of op_catA ⟨_, _, _, _, rfl, rfl, h1, h2, by rw [← r1.length, ← r2.length]; assumption, fun z => ?_, fun _ z => ?_, fun _ _ l hl => ?_⟩
      · subst z; cases r1; exact px_d I (.tup g2 r2)
      · subst z; cases r2; rw [List.append_nil]; exact px_d I (.tup g1 r1)
      · exact px_tup I hl (r1.append r2)
    · cases e
  · cases e; cases ra.int; cases rb.int
    exact sem_of op_sub ⟨_, _, rfl, rfl, px_d I (.int _)⟩
  · split at e
    · rename_i hq
      cases e; cases ra.int; cases rb.int
      exact sem_of op_mul ⟨_, _, rfl, rfl, mul_bound hq, px_d I (.int _)⟩
    · cases e
  · split at e
    · rename_i hq
      cases e
      obtain ⟨p, vs, rfl, h1, g1, r1⟩ := ra.tup I.same
      cases rb.int
      obtain ⟨q1, q2, q3, q4⟩ := hq
      refine sem_of op_repT ⟨p, _, vs, rfl, rfl, h1, fun z => ?_, q2, q3, by rw [← r1.length]; exact q4, fun l hl => px_tup I hl (RepA.rep r1 _)⟩
      subst z
      cases r1
      cases q1
    · cases e
  · split at e
    · cases e; cases ra.int; cases rb.int
      exact sem_of op_fdivN ⟨_, _, rfl, rfl, by assumption, px_d I (.int _)⟩
    · cases e
  · split at e
    · cases e; cases ra.int; cases rb.int
      exact sem_of op_modN ⟨_, _, rfl, rfl, by assumption, px_d I (.int _)⟩
    · cases e
  · split at e
    · cases e; cases ra.int; cases rb.int
      exact sem_of op_pow ⟨_, _, rfl, rfl, by assumption, px_d I (.int _)⟩
    · cases e
  · cases e
def cmpOf : Cop → CmpOp
  | .eq => .Eq | .ne => .NotEq | .lt => .Lt | .le => .LtE | .gt => .Gt | .ge => .GtE | .is => .Is | .isnot => .IsNot | .mem => .In | .nmem => .NotIn
theorem eq_wp {a b : D} {x y : V} {Q : VK} (sm : Same G H) (hu : X.A.units + 64 < cLine) (ra : RepH X.K φ G H a x) (rb : RepH X.K φ G H b y) (c : cmpOk a b = true) (q : Q (.bl (eqD a b)) H) : SemOp X (compareOp .Eq) x y H Q := by
  intro pins sh σ v u I rx ry
  simp only [cmpOk, Bool.and_eq_true, decide_eq_true_eq] at c
  obtain ⟨⟨c1, c2⟩, c3⟩ := c
  obtain ⟨d1, l1⟩ := ra.dp sm c1
  obtain ⟨d2, l2⟩ := rb.dp sm c2
  obtain ⟨as, r1⟩ := Dp.reads I _ x v d1 rx
  obtain ⟨bs, r2⟩ := Dp.reads I _ y u d2 ry
  exact SeqAt.compareEq_reads r1 r2 l1 l2 (by omega) ⟨.bl _, H, I, rfl, q⟩
theorem ne_wp {a b : D} {x y : V} {Q : VK} (sm : Same G H) (hu : X.A.units + 64 < cLine) (ra : RepH X.K φ G H a x) (rb : RepH X.K φ G H b y) (c : cmpOk a b = true) (q : Q (.bl (!eqD a b)) H) : SemOp X (compareOp .NotEq) x y H Q := by
  intro pins sh σ v u I rx ry
  simp only [cmpOk, Bool.and_eq_true, decide_eq_true_eq] at c
  obtain ⟨⟨c1, c2⟩, c3⟩ := c
  obtain ⟨d1, l1⟩ := ra.dp sm c1
  obtain ⟨d2, l2⟩ := rb.dp sm c2
  obtain ⟨as, r1⟩ := Dp.reads I _ x v d1 rx
  obtain ⟨bs, r2⟩ := Dp.reads I _ y u d2 ry
  exact SeqAt.compareNe_reads r1 r2 l1 l2 (by omega) ⟨.bl _, H, I, rfl, q⟩
theorem any_toPys (d : D) : ∀ xs : List D, ((toPys xs).any fun z => PyData.eqv z (toPy d)) = xs.any fun y => eqD y d
  | [] => by simp [toPys]
  | x :: xs => by simp only [toPys, List.any_cons, any_toPys d xs, eqD]
theorem mem_wp {a b : D} {xs : List D} {x y : V} {k : Bool} {Q : VK} (sm : Same G H) (hu : X.A.units + 64 < cLine) (ra : RepH X.K φ G H a x) (rb : RepH X.K φ G H b y) (hb : b = .lst xs ∨ b = .tup xs) (e : memD a xs = some k) :
    (Q (.bl k) H → SemOp X (compareOp .In) x y H Q) ∧ (Q (.bl (!k)) H → SemOp X (compareOp .NotIn) x y H Q) := by
  unfold memD at e
  split at e
  · rename_i c
    simp only [Bool.and_eq_true, decide_eq_true_eq] at c
    obtain ⟨⟨c1, c2⟩, c3⟩ := c
    cases e
    have pb : isPy b = true := by rcases hb with rfl | rfl <;> simpa [isPy] using c2
    obtain ⟨d1, l1⟩ := ra.dp sm c1
    obtain ⟨d2, l2⟩ := rb.dp sm pb
    rw [← any_toPys]
    constructor
    · intro q pins sh σ v u I rx ry
      obtain ⟨as, r1⟩ := Dp.reads I _ x v d1 rx
      obtain ⟨bs, r2⟩ := Dp.reads I _ y u d2 ry
      rcases hb with rfl | rfl
      · simp only [toPy] at r2 l2
        exact SeqAt.in_list_reads r2 r1 (by simpa [PyData.canLay0] using l2) l1 (by omega) ⟨.bl _, H, I, rfl, q⟩
      · simp only [toPy] at r2 l2
        exact SeqAt.in_tuple_reads r2 r1 (by simpa [PyData.canLay0] using l2) l1 (by omega) ⟨.bl _, H, I, rfl, q⟩
    · intro q pins sh σ v u I rx ry
      obtain ⟨as, r1⟩ := Dp.reads I _ x v d1 rx
      obtain ⟨bs, r2⟩ := Dp.reads I _ y u d2 ry
      rcases hb with rfl | rfl
      · simp only [toPy] at r2 l2
        exact SeqAt.notIn_list_reads r2 r1 (by simpa [PyData.canLay0] using l2) l1 (by omega) ⟨.bl _, H, I, rfl, q⟩
      · simp only [toPy] at r2 l2
        exact SeqAt.notIn_tuple_reads r2 r1 (by simpa [PyData.canLay0] using l2) l1 (by omega) ⟨.bl _, H, I, rfl, q⟩
  · cases e
theorem RepH.isnon {a : D} {x : V} (r : RepH X.K φ G H a x) : decide (x = V.non) = nonD a := by
  rcases r with r | ⟨_, _, _, rfl, rfl, _⟩
  · cases r <;> simp [nonD]
  · simp [nonD]
theorem cmp_ok {op : Cop} {a b : D} {k : Bool} {x y : V} {Q : VK} (sm : Same G H) (hu : X.A.units + 64 < cLine) (ra : RepH X.K φ G H a x) (rb : RepH X.K φ G H b y) (e : cmpD op a b = some k) (q : Q (.bl k) H) :
    SemOp X (compareOp (cmpOf op)) x y H Q := by
  unfold cmpD at e
  split at e
  · split at e
    · cases e; exact eq_wp sm hu ra rb (by assumption) q
    · cases e
  · split at e
    · cases e; exact ne_wp sm hu ra rb (by assumption) q
    · cases e
  · cases e; cases ra.int; cases rb.int; exact sem_of op_lt ⟨_, _, rfl, rfl, q⟩
  · cases e; cases ra.int; cases rb.int; exact sem_of op_le ⟨_, _, rfl, rfl, q⟩
  · cases e; cases ra.int; cases rb.int; exact sem_of op_gt ⟨_, _, rfl, rfl, q⟩
  · cases e; cases ra.int; cases rb.int; exact sem_of op_ge ⟨_, _, rfl, rfl, q⟩
  · cases e; cases ra.str.1; cases rb.str.1; exact sem_of op_lt_str ⟨_, _, rfl, rfl, q⟩
  · cases e; cases rb.non; exact sem_of op_isN ⟨rfl, by rw [ra.isnon]; exact q⟩
  · cases e; cases rb.non
    refine sem_of op_notN ⟨rfl, ?_⟩
    rw [ra.isnon]
    exact q
  · cases e; cases ra.str.1; cases rb.str.1; exact sem_of op_in_str ⟨_, _, rfl, rfl, q⟩
  · cases e; cases ra.str.1; cases rb.str.1; exact sem_of op_notin_str ⟨_, _, rfl, rfl, q⟩
  · exact (mem_wp sm hu ra rb (.inl rfl) e).1 q
  · exact (mem_wp sm hu ra rb (.inr rfl) e).1 q
  · rename_i xs
    cases h : memD a xs with
    | none => rw [h] at e; cases e
    | some j =>
      rw [h] at e
      cases e
      exact (mem_wp sm hu ra rb (.inl rfl) h).2 q
  · rename_i xs
    cases h : memD a xs with
    | none => rw [h] at e; cases e
    | some j =>
      rw [h] at e
      cases e
      exact (mem_wp sm hu ra rb (.inr rfl) h).2 q
  · cases e
end
end DE
end

section
set_option Elab.async false
set_option linter.all false
set_option maxRecDepth 100000
set_option maxHeartbeats 1000000
namespace DE
open PySem L2 PySem.Spec PyProof.Rows
/-! Expressions: each case of the induction. -/
theorem bindOk {α β : Type} {r : Res α} {f : α → S → Res β} {a : β} {s : S} (h : r.bind f = .ok a s) : ∃ x s1, r = .ok x s1 ∧ f x s1 = .ok a s := by
  cases r with
  | ok x s1 => exact ⟨x, s1, rfl, h⟩
  | exc _ _ _ => cases h
  | stuck => cases h
theorem optOk {α : Type} {o : Option α} {a : α} {s s' : S} (h : Res.opt o s = .ok a s') : o = some a ∧ s = s' := by
  cases o with
  | none => cases h
  | some b => cases h; exact ⟨rfl, rfl⟩
theorem obindOk {α β : Type} {o : Option α} {f : α → Option β} {b : β} (h : o.bind f = some b) : ∃ a, o = some a ∧ f a = some b := by
  cases o with
  | none => cases h
  | some a => exact ⟨a, rfl, h⟩
theorem omapOk {α β : Type} {o : Option α} {f : α → β} {b : β} (h : o.map f = some b) : ∃ a, o = some a ∧ f a = b := by
  cases o with
  | none => cases h
  | some a => exact ⟨a, rfl, Option.some.inj h⟩
theorem twoOk {α : Type} {s s' : S} {x y : Op} {f : D → D → Option α} {a : α} (h : two s x y f = .ok a s') : ∃ dx dy, resO s x = some dx ∧ resO s y = some dy ∧ f dx dy = some a ∧ s = s' := by
  obtain ⟨h1, h2⟩ := optOk h
  obtain ⟨dx, e1, h1⟩ := obindOk h1
  obtain ⟨dy, e2, h1⟩ := obindOk h1
  exact ⟨dx, dy, e1, e2, h1, h2⟩

/-! ### the context -/
abbrev CallF := Nat → List D → Store → Option (D × Store)
/-- a def's promise: what the evaluator says -/
def spOf (K : PySem.W.Frag) (n : Nat) (cl : CallF) (i : Nat) : Sp := fun vs H Q _ => vs.length = n ∧ ∃ φ G ds st d st', RepA K φ G ds vs ∧ Same G H ∧ StR K φ G st H ∧ cl i ds st = some (d, st') ∧
  ∀ φ' G' H' v, Ext φ G H φ' G' H' → Same G' H' → StR K φ' G' st' H' → Rep K φ' G' d v → Q v H'
def biNames : List Str := ["isinstance", "len", "max", "min", "sum", "all", "any", "sorted", "tuple", "list", "int", "str", "dict", "bool", "range", "enumerate", "zip", "set"]
structure Good (c : CC) (k : Nat) (cl : CallF) (X : Cx) : Prop where
  hN : X.N = c.N
  nd : c.N.Nodup
  sc : X.env.scope = c.sc
  calm : X.calm = true
  po : PassesOwn (model X.prog X.w) X.A X.env X.xe
  fnv : ∀ x, c.fnb x = true → X.fn x = true
  room : Room k X.A
  bi : ∀ x ∈ biNames, X.mg x = none
  glb : ∀ x d, c.glb.lookup x = some d → ∃ u v, X.mg x = some u ∧ RelV v u ∧ ∀ φ G, Rep X.K φ G d v
  fn : ∀ (i : Nat) (x : Str), c.fns[i]? = some x → ∃ n f fd ps, FnOk X.prog X.w X.K X.mg X.base CX0 k f fd ps (spOf X.K n cl i) ∧ X.mg x = some (.ref f) ∧ PySem.W.keepIn X.K (.ref f) = true ∧ Binds X.K fd ps [] ∧ ∀ ds st r, cl i ds st = some r → ds.length = n
section
variable {c : CC} {k : Nat} {C : Ctx} {X : Cx} {e : Expr} {ce : CE}
def SX (C : Ctx) (X : Cx) (e : Expr) (ce : CE) : Prop := ∀ (B : Bs) (φ : List Addr) (G : Hp) (s : S) (σ : L2.St) (H : Hp) (r : RX) (s' : S), SR X.K B φ G s σ H → evX C ce s = .ok r s' → WE X e σ H (PX X.K B φ G σ r s')
def SO (C : Ctx) (X : Cx) (e : Expr) (ce : CE) : Prop := ∀ (B : Bs) (φ : List Addr) (G : Hp) (s : S) (σ : L2.St) (H : Hp) (x : Op) (s' : S), SR X.K B φ G s σ H → asO ce (evX C ce s) s = .ok x s' → WE X e σ H (PO' X.K B φ G σ x s')
def STe (C : Ctx) (X : Cx) (e : Expr) (ce : CE) : Prop := ∀ (B : Bs) (φ : List Addr) (G : Hp) (s : S) (σ : L2.St) (H : Hp) (b : Bool) (s' : S), SR X.K B φ G s σ H → asB (evX C ce s) = .ok b s' → WT X e σ H (PB X.K B φ G σ b s')
structure SE (C : Ctx) (X : Cx) (e : Expr) (ce : CE) : Prop where
  x : SX C X e ce
  o : SO C X e ce
  t : STe C X e ce
def SLs (C : Ctx) (X : Cx) (es : List Expr) (ces : CEs) : Prop := ∀ (B : Bs) (φ : List Addr) (G : Hp) (s : S) (σ : L2.St) (H : Hp) (ds : List D) (s' : S), SR X.K B φ G s σ H → evL C ces s = .ok ds s' → WA X es σ H (PL X.K B φ G σ ds s')
inductive ROs (K : PySem.W.Frag) (φ : List Addr) (G : Hp) (σ : L2.St) : List Op → List V → Prop
  | nil : ROs K φ G σ [] []
  | cons {x : Op} {v : V} {xs : List Op} {vs : List V} : ROp K φ G σ x v → ROs K φ G σ xs vs → ROs K φ G σ (x :: xs) (v :: vs)
theorem ROs.mono {K : PySem.W.Frag} {φ φ' : List Addr} {G G' : Hp} {σ : L2.St} (p : φ <+: φ') (e : Same G G') : ∀ {xs : List Op} {vs : List V}, ROs K φ G σ xs vs → ROs K φ' G' σ xs vs
  | _, _, .nil => .nil
  | _, _, .cons h r => .cons (h.mono p e) (ROs.mono p e r)
def SOs (C : Ctx) (X : Cx) (es : List Expr) (ces : CEs) : Prop := ∀ (B : Bs) (φ : List Addr) (G : Hp) (s : S) (σ : L2.St) (H : Hp) (xs : List Op) (s' : S), SR X.K B φ G s σ H → evOs C ces s = .ok xs s' →
  WA X es σ H fun vs H' => ∃ φ' G', φ <+: φ' ∧ Same G G' ∧ SR X.K B φ' G' s' σ H' ∧ ROs X.K φ' G' σ xs vs

/-- what a value gives as an operand, as a bool's test -/
theorem asO_np (r : Res RX) (s : S) (h : isPk ce = false) : asO ce r s = r.bind (fun r s1 => Res.ok (Op.d r.dat) s1) := by
  cases ce <;> first | rfl | cases h
theorem so_of (h : SX C X e ce) (np : isPk ce = false) : SO C X e ce := by
  intro B φ G s σ H x s' I ev
  rw [asO_np _ _ np] at ev
  obtain ⟨r, s1, e1, e2⟩ := bindOk ev
  cases e2
  exact (h B φ G s σ H r _ I e1).mono fun v H' q => by
    obtain ⟨φ1, G1, p, sg, I1, q⟩ := q.dat
    exact ⟨φ1, G1, p, sg, I1, q⟩
theorem sb_of (h : SX C X e ce) {B : Bs} {φ : List Addr} {G : Hp} {s : S} {σ : L2.St} {H : Hp} {b : Bool} {s' : S} (I : SR X.K B φ G s σ H) (ev : asB (evX C ce s) = .ok b s') :
    WE X e σ H fun v H' => v = .bl b ∧ ∃ φ' G', φ <+: φ' ∧ Same G G' ∧ SR X.K B φ' G' s' σ H' := by
  obtain ⟨r, s1, e1, e2⟩ := bindOk ev
  have : r = .d (.bl b) ∧ s1 = s' := by
    split at e2
    · cases e2; exact ⟨rfl, rfl⟩
    · cases e2
  obtain ⟨rfl, rfl⟩ := this
  exact (h B φ G s σ H _ _ I e1).mono fun v H' ⟨φ1, G1, p, sg, I1, q⟩ => by
    cases (show Rep X.K φ1 G1 (.bl b) v from q)
    exact ⟨rfl, φ1, G1, p, sg, I1⟩
theorem si_of (h : SX C X e ce) {B : Bs} {φ : List Addr} {G : Hp} {s : S} {σ : L2.St} {H : Hp} {i : Int} {s' : S} (I : SR X.K B φ G s σ H) (ev : asI (evX C ce s) = .ok i s') :
    WE X e σ H fun v H' => v = .int i ∧ ∃ φ' G', φ <+: φ' ∧ Same G G' ∧ SR X.K B φ' G' s' σ H' := by
  obtain ⟨r, s1, e1, e2⟩ := bindOk ev
  have : r = .d (.int i) ∧ s1 = s' := by
    split at e2
    · cases e2; exact ⟨rfl, rfl⟩
    · cases e2
  obtain ⟨rfl, rfl⟩ := this
  exact (h B φ G s σ H _ _ I e1).mono fun v H' ⟨φ1, G1, p, sg, I1, q⟩ => by
    cases (show Rep X.K φ1 G1 (.int i) v from q)
    exact ⟨rfl, φ1, G1, p, sg, I1⟩
theorem sd_of (h : SX C X e ce) {B : Bs} {φ : List Addr} {G : Hp} {s : S} {σ : L2.St} {H : Hp} {d : D} {s' : S} (I : SR X.K B φ G s σ H) (ev : asD (evX C ce s) = .ok d s') : WE X e σ H (PD X.K B φ G σ d s') := by
  obtain ⟨r, s1, e1, e2⟩ := bindOk ev
  cases e2
  exact (h B φ G s σ H _ _ I e1).mono fun v H' q => q.dat
/-- a form that the tests know nothing of -/
def plainT (X : Cx) (e : Expr) : Prop := ∀ whole, isTrue e X.env whole = (do let v ← whole; standAt e.pos; holding [v] (truthy v))
theorem st_of (h : SX C X e ce) (pl : plainT X e) : STe C X e ce := by
  intro B φ G s σ H b s' I ev
  refine wt_of (pt_val pe_WE pl) ?_
  exact (sb_of h I ev).mono fun v H' ⟨q, r⟩ => ⟨b, q, rfl, r⟩
theorem se_of (h : SX C X e ce) (np : isPk ce = false) (pl : plainT X e) : SE C X e ce := ⟨h, so_of h np, st_of h pl⟩

/-! ### names, constants -/
theorem visB_vis {sc : Scope} {x : Str} (h : visB sc x = true) : Vis sc x := by
  unfold visB at h
  split at h
  · exact .inl (by assumption)
  · exact .inr (.inl (by assumption))
  · exact .inr (.inr (by assumption))
  · cases h
theorem locB_loc {sc : Scope} {x : Str} (h : locB sc x = true) : Loc sc x := by
  unfold locB at h
  split at h
  · exact .inl (by assumption)
  · exact .inr (by assumption)
  · cases h
theorem gloB_gl {x : Str} (g : Good c k C.call X) (h : gloB c.sc x = true) : Gl X x := by
  unfold gloB at h
  split at h
  · show X.env.scope.names.lookup x = _
    rw [g.sc]; assumption
  · cases h
theorem slotOf_ok {x : Str} {i : Nat} (h : slotOf c x = some i) : c.N[i]? = some x ∧ (x == ("__debug__" : Str)) = false ∧ (x == ("__classdict__" : Str)) = false := by
  unfold slotOf at h
  dsimp only at h
  split at h
  · rename_i q
    cases h
    simp only [Bool.and_eq_true, decide_eq_true_eq, Bool.not_eq_true'] at q
    exact ⟨q.1.1, q.1.2, q.2⟩
  · cases h
theorem name_we {x : Str} {pos : Pos} {i : Nat} (g : Good c k C.call X) (hv : visB c.sc x = true) (hs : slotOf c x = some i) {σ : L2.St} {H : Hp} {v : V} {Q : VK} (e : σ[i]? = some (some v)) (q : Q v H) : WE X (.Name x pos) σ H Q := by
  obtain ⟨h1, h2, h3⟩ := slotOf_ok hs
  exact we_of (pe_var (i := i) (by rw [g.hN]; exact h1) (by rw [g.sc]; exact visB_vis hv) h2 h3) ⟨v, e, q⟩
theorem name_sx {x : Str} {pos : Pos} {i : Nat} (g : Good c k C.call X) (hv : visB c.sc x = true) (hs : slotOf c x = some i) {ce : CE} (hc : ce = .var i ∨ ce = .pk i) : SX C X (.Name x pos) ce := by
  intro B φ G s σ H r s' I ev
  rcases hc with rfl | rfl
  all_goals
    simp only [evX] at ev
    split at ev
    · rename_i d hd
      cases ev
      obtain ⟨v, e1, h⟩ := I.env i _ hd
      exact name_we g hv hs e1 (px_d I h)
    · cases ev
theorem name_se {x : Str} {pos : Pos} {i : Nat} {pk : Bool} (g : Good c k C.call X) (hv : visB c.sc x = true) (hs : slotOf c x = some i) : SE C X (.Name x pos) (if pk then .pk i else .var i) := by
  cases pk with
  | false =>
    have h : SX C X (.Name x pos) (.var i) := name_sx g hv hs (.inl rfl)
    exact se_of h rfl fun _ => rfl
  | true =>
    have h : SX C X (.Name x pos) (.pk i) := name_sx g hv hs (.inr rfl)
    refine ⟨h, ?_, st_of h fun _ => rfl⟩
    intro B φ G s σ H y s' I ev
    have ev' : (if (s.get i).isSome then Res.ok (Op.pk i) s else .stuck) = Res.ok y s' := ev
    split at ev'
    · rename_i hi
      cases ev'
      obtain ⟨sl, hi⟩ := Option.isSome_iff_exists.mp hi
      obtain ⟨v, e1, _⟩ := I.env i sl hi
      exact name_we g hv hs e1 ⟨φ, G, List.prefix_rfl, Same.refl _, I, e1⟩
    · cases ev'
end
end DE
end

section
set_option Elab.async false
set_option linter.all false
set_option maxRecDepth 100000
set_option maxHeartbeats 1000000
namespace DE
open PySem L2 PySem.Spec PyProof.Rows
section
variable {c : CC} {k : Nat} {C : Ctx} {X : Cx} {e : Expr} {ce : CE}
theorem con_se {v : Const} {n : Nat} {pos : Pos} {d : D} (h : constD v = some d) : SE C X (.Constant v n pos) (.con d) := by
  have hx : SX C X (.Constant v n pos) (.con d) := by
    intro B φ G s σ H r s' I ev
    simp only [evX] at ev
    cases ev
    unfold constD at h
    split at h
    · cases h; exact we_of pe_non (px_d I .non)
    · cases h; exact we_of pe_bl (px_d I (.bl _))
    · cases h; exact we_of pe_int (px_d I (.int _))
    · split at h
      · cases h; exact we_of pe_str (px_d I (.str _ (by assumption)))
      · cases h
    · cases h
  exact se_of hx rfl fun _ => rfl
theorem glb_se {x : Str} {pos : Pos} {d : D} (g : Good c k C.call X) (hg : gloB c.sc x = true) (hd : (x == ("__debug__" : Str)) = false) (h : c.glb.lookup x = some d) : SE C X (.Name x pos) (.glb d) := by
  have hx : SX C X (.Name x pos) (.glb d) := by
    intro B φ G s σ H r s' I ev
    simp only [evX] at ev
    cases ev
    obtain ⟨u, v, hm, rv, rp⟩ := g.glb x d h
    exact we_of (pe_glob (gloB_gl g hg) hm rv hd) (px_d I (rp _ _))
  exact se_of hx rfl fun _ => rfl
/-- two operands -/
theorem we_two {a b : Expr} {ca cb : CE} (ha : SO C X a ca) (hb : SO C X b cb) {B : Bs} {φ : List Addr} {G : Hp} {s s1 s2 : S} {σ : L2.St} {H : Hp} {x y : Op} (I : SR X.K B φ G s σ H)
    (e1 : asO ca (evX C ca s) s = .ok x s1) (e2 : asO cb (evX C cb s1) s1 = .ok y s2) {Kt : V → V → Hp → Prop}
    (kt : ∀ φ2 G2 v u H2, φ <+: φ2 → Same G G2 → SR X.K B φ2 G2 s2 σ H2 → ROp X.K φ2 G2 σ x v → ROp X.K φ2 G2 σ y u → Kt v u H2) : WE X a σ H fun v H1 => WE X b σ H1 fun u H2 => Kt v u H2 :=
  (ha B φ G s σ H x s1 I e1).mono fun v H1 ⟨φ1, G1, p1, g1, I1, q1⟩ => (hb B φ1 G1 s1 σ H1 y s2 I1 e2).mono fun u H2 ⟨φ2, G2, p2, g2, I2, q2⟩ =>
    kt φ2 G2 v u H2 (p1.trans p2) (g1.trans g2) I2 (q1.mono p2 g2) q2
theorem bop_of {op : Operator} {o : Bop} (h : bopOf op = some o) : op = opOf o := by
  cases op <;> first | (cases h; rfl) | cases h
theorem bin_se {a b : Expr} {op : Operator} {o : Bop} {ca cb : CE} {pos : Pos} (hop : bopOf op = some o) (ha : SE C X a ca) (hb : SE C X b cb) : SE C X (.BinOp a op b pos) (.bin o ca cb) := by
  have hx : SX C X (.BinOp a op b pos) (.bin o ca cb) := by
    intro B φ G s σ H r s' I ev
    simp only [evX] at ev
    obtain ⟨x, s1, e1, ev⟩ := bindOk ev
    obtain ⟨y, s2, e2, ev⟩ := bindOk ev
    obtain ⟨dx, dy, q1, q2, q3, rfl⟩ := twoOk ev
    rw [bop_of hop]
    refine we_of (pe_op or_sem pe_WE pe_WE) ?_
    refine we_two ha.o hb.o I e1 e2 fun φ2 G2 v u H2 p g I2 r1 r2 => ?_
    intro pins sh σ' v' u' I' rx ry
    refine thn (bin_ok I2 (r1.res I2 q1) (r2.res I2 q2) q3 pins sh σ' v' u' I' rx ry) fun _ _ ⟨w, H', I'', rw', q⟩ => ⟨w, H', I'', rw', q.of p g⟩
  exact se_of hx rfl fun _ => rfl
theorem neg_se {a : Expr} {ca : CE} {pos : Pos} (ha : SE C X a ca) : SE C X (.UnaryOp .USub a pos) (.neg ca) := by
  have hx : SX C X (.UnaryOp .USub a pos) (.neg ca) := by
    intro B φ G s σ H r s' I ev
    simp only [evX] at ev
    obtain ⟨i, s1, e1, ev⟩ := bindOk ev
    cases ev
    refine we_of (pe_un un_neg pe_WE) ?_
    exact (si_of ha.x I e1).mono fun v H' ⟨q, φ1, G1, p, g, I1⟩ => ⟨i, q, φ1, G1, p, g, I1, .int _⟩
  exact se_of hx rfl fun _ => rfl
theorem not_se {a : Expr} {ca : CE} {pos : Pos} (ha : SE C X a ca) : SE C X (.UnaryOp .Not a pos) (.not ca) := by
  have hx : SX C X (.UnaryOp .Not a pos) (.not ca) := by
    intro B φ G s σ H r s' I ev
    simp only [evX] at ev
    obtain ⟨b, s1, e1, ev⟩ := bindOk ev
    cases ev
    refine we_of (pe_not pe_WE) ?_
    exact (sb_of ha.x I e1).mono fun v H' ⟨q, φ1, G1, p, g, I1⟩ => ⟨b, q, φ1, G1, p, g, I1, .bl _⟩
  refine ⟨hx, so_of hx rfl, ?_⟩
  intro B φ G s σ H b s' I ev
  simp only [evX] at ev
  obtain ⟨r, s1, ev, ev2⟩ := bindOk ev
  obtain ⟨b', s2, e1, ev⟩ := bindOk ev
  cases ev
  cases ev2
  refine wt_of (pt_not pt_WT) ?_
  exact (ha.t B φ G s σ H _ _ I e1).mono fun v H' ⟨q, r⟩ => ⟨by rw [q], r⟩
theorem one_se {op : BoolOp} {a : Expr} {pos : Pos} (ha : SE C X a ce) : SE C X (.BoolOp op [a] pos) ce := by
  refine ⟨fun B φ G s σ H r s' I ev => we_of (pe_one pe_WE) (ha.x B φ G s σ H r s' I ev), fun B φ G s σ H r s' I ev => we_of (pe_one pe_WE) (ha.o B φ G s σ H r s' I ev), fun B φ G s σ H b s' I ev => ?_⟩
  cases op with
  | And => exact wt_of (pw_and1 pt_WT).pt (ha.t B φ G s σ H b s' I ev)
  | Or => exact wt_of (pw_or1 pt_WT).pt (ha.t B φ G s σ H b s' I ev)
theorem pw_bool {op : BoolOp} {vs : List Expr} {pos : Pos} : PW X (.BoolOp op vs pos) (WT X (.BoolOp op vs pos)) := ⟨fun wh pins s σ H Q I h => h pins s I⟩
theorem and_se {a b : Expr} {r : List Expr} {ca cb : CE} {pos : Pos} (ha : SE C X a ca) (hb : SE C X (.BoolOp .And (b :: r) pos) cb) : SE C X (.BoolOp .And (a :: b :: r) pos) (.and ca cb) := by
  have hx : SX C X (.BoolOp .And (a :: b :: r) pos) (.and ca cb) := by
    intro B φ G s σ H rr s' I ev
    simp only [evX] at ev
    obtain ⟨k, s1, e1, ev⟩ := bindOk ev
    refine we_of (pe_and pe_WE pe_WE) ?_
    refine (sb_of ha.x I e1).mono fun v H' ⟨q, φ1, G1, p, g, I1⟩ => ⟨k, q, ?_⟩
    cases k with
    | true =>
      rw [if_pos rfl] at ev ⊢
      exact (hb.x B φ1 G1 s1 σ H' rr s' I1 ev).mono fun _ _ q => q.of p g
    | false =>
      rw [if_neg Bool.false_ne_true] at ev ⊢
      cases ev
      exact ⟨φ1, G1, p, g, I1, .bl _⟩
  refine ⟨hx, so_of hx rfl, ?_⟩
  intro B φ G s σ H bb s' I ev
  simp only [evX] at ev
  obtain ⟨rr, s2, ev, ev2⟩ := bindOk ev
  obtain ⟨k, s1, e1, ev⟩ := bindOk ev
  refine wt_of (pw_and pt_WT pw_bool).pt ?_
  refine (ha.t B φ G s σ H _ _ I e1).mono fun v H' ⟨q, φ1, G1, p, g, I1⟩ => ?_
  subst q
  cases v with
  | true =>
    rw [if_pos rfl] at ev ⊢
    refine (hb.t B φ1 G1 s1 σ H' bb s' I1 ?_).mono fun _ _ ⟨q, φ2, G2, p2, g2, I2⟩ => ⟨q, φ2, G2, p.trans p2, g.trans g2, I2⟩
    unfold asB Res.bind
    rw [ev]
    exact ev2
  | false =>
    rw [if_neg Bool.false_ne_true] at ev ⊢
    cases ev
    cases ev2
    exact ⟨rfl, φ1, G1, p, g, I1⟩
theorem or_se {a b : Expr} {r : List Expr} {ca cb : CE} {pos : Pos} (ha : SE C X a ca) (hb : SE C X (.BoolOp .Or (b :: r) pos) cb) : SE C X (.BoolOp .Or (a :: b :: r) pos) (.or ca cb) := by
  have hx : SX C X (.BoolOp .Or (a :: b :: r) pos) (.or ca cb) := by
    intro B φ G s σ H rr s' I ev
    simp only [evX] at ev
    obtain ⟨k, s1, e1, ev⟩ := bindOk ev
    refine we_of (pe_or pe_WE pe_WE) ?_
    refine (sb_of ha.x I e1).mono fun v H' ⟨q, φ1, G1, p, g, I1⟩ => ⟨k, q, ?_⟩
    cases k with
    | true =>
      rw [if_pos rfl] at ev ⊢
      cases ev
      exact ⟨φ1, G1, p, g, I1, .bl _⟩
    | false =>
      rw [if_neg Bool.false_ne_true] at ev ⊢
      exact (hb.x B φ1 G1 s1 σ H' rr s' I1 ev).mono fun _ _ q => q.of p g
  refine ⟨hx, so_of hx rfl, ?_⟩
  intro B φ G s σ H bb s' I ev
  simp only [evX] at ev
  obtain ⟨rr, s2, ev, ev2⟩ := bindOk ev
  obtain ⟨k, s1, e1, ev⟩ := bindOk ev
  refine wt_of (pw_or pt_WT pw_bool).pt ?_
  refine (ha.t B φ G s σ H _ _ I e1).mono fun v H' ⟨q, φ1, G1, p, g, I1⟩ => ?_
  subst q
  cases v with
  | true =>
    rw [if_pos rfl] at ev ⊢
    cases ev
    cases ev2
    exact ⟨rfl, φ1, G1, p, g, I1⟩
  | false =>
    rw [if_neg Bool.false_ne_true] at ev ⊢
    refine (hb.t B φ1 G1 s1 σ H' bb s' I1 ?_).mono fun _ _ ⟨q, φ2, G2, p2, g2, I2⟩ => ⟨q, φ2, G2, p.trans p2, g.trans g2, I2⟩
    unfold asB Res.bind
    rw [ev]
    exact ev2
theorem ife_se {t a b : Expr} {ct ca cb : CE} {pos : Pos} (ht : SE C X t ct) (ha : SE C X a ca) (hb : SE C X b cb) : SE C X (.IfExp t a b pos) (.ife ct ca cb) := by
  have hx : SX C X (.IfExp t a b pos) (.ife ct ca cb) := by
    intro B φ G s σ H rr s' I ev
    simp only [evX] at ev
    obtain ⟨k, s1, e1, ev⟩ := bindOk ev
    refine we_of (pe_ifExp pt_WT pe_WE pe_WE) ?_
    refine (ht.t B φ G s σ H _ _ I e1).mono fun v H' ⟨q, φ1, G1, p, g, I1⟩ => ?_
    subst q
    cases v with
    | true =>
      rw [if_pos rfl] at ev ⊢
      exact (ha.x B φ1 G1 s1 σ H' rr s' I1 ev).mono fun _ _ q => q.of p g
    | false =>
      rw [if_neg Bool.false_ne_true] at ev ⊢
      exact (hb.x B φ1 G1 s1 σ H' rr s' I1 ev).mono fun _ _ q => q.of p g
  refine ⟨hx, so_of hx rfl, ?_⟩
  intro B φ G s σ H bb s' I ev
  simp only [evX] at ev
  obtain ⟨rr, s2, ev, ev2⟩ := bindOk ev
  obtain ⟨k, s1, e1, ev⟩ := bindOk ev
  intro pins sh J
  refine isTrue_IfExp (thn (ht.t B φ G s σ H _ _ I e1 pins sh J) fun v sh1 ⟨H', J1, q, φ1, G1, p, g, I1⟩ => ?_)
  subst q
  cases v with
  | true =>
    rw [if_pos rfl] at ev ⊢
    refine thn (ha.t B φ1 G1 s1 σ H' bb s' I1 ?_ pins sh1 J1) fun _ _ ⟨H2, J2, q, φ2, G2, p2, g2, I2⟩ => ⟨H2, J2, q, φ2, G2, p.trans p2, g.trans g2, I2⟩
    unfold asB Res.bind
    rw [ev]
    exact ev2
  | false =>
    rw [if_neg Bool.false_ne_true] at ev ⊢
    refine thn (hb.t B φ1 G1 s1 σ H' bb s' I1 ?_ pins sh1 J1) fun _ _ ⟨H2, J2, q, φ2, G2, p2, g2, I2⟩ => ⟨H2, J2, q, φ2, G2, p.trans p2, g.trans g2, I2⟩
    unfold asB Res.bind
    rw [ev]
    exact ev2
/-! comparisons -/
theorem cmpForm_marks {op : CmpOp} {b : Expr} (h : cmpForm op b = true) : behindInMarks op b = false := by
  unfold cmpForm at h
  cases op <;> first
    | exact nomark b
    | (cases b <;> first | rfl | cases h)
theorem copOf_cmpOf (op : CmpOp) : cmpOf (copOf op) = op := by cases op <;> rfl
theorem Good.hu (g : Good c k C.call X) : X.A.units + 64 < cLine := g.room.units
theorem cmp_se {a b : Expr} {op : CmpOp} {ca cb : CE} {pos : Pos} (g : Good c k C.call X) (hf : cmpForm op b = true) (ha : SE C X a ca) (hb : SE C X b cb) : SE C X (.Compare a [op] [b] pos) (.cmp (copOf op) ca cb) := by
  have key : ∀ {B : Bs} {φ : List Addr} {G : Hp} {s : S} {σ : L2.St} {H : Hp} {b' : Bool} {s' : S} {Q : VK}, SR X.K B φ G s σ H → asB (evX C (.cmp (copOf op) ca cb) s) = .ok b' s' →
      (∀ H' φ' G', φ <+: φ' → Same G G' → SR X.K B φ' G' s' σ H' → Q (.bl b') H') → tOp (SemOp X (compareOp op)) (WE X a) (WE X b) σ H Q := by
    intro B φ G s σ H b' s' Q I ev kq
    obtain ⟨r, s3, ev, ev2⟩ := bindOk ev
    simp only [evX] at ev
    obtain ⟨x, s1, e1, ev⟩ := bindOk ev
    obtain ⟨y, s2, e2, ev⟩ := bindOk ev
    obtain ⟨dx, dy, q1, q2, q3, rfl⟩ := twoOk ev
    obtain ⟨kk, q9, rfl⟩ := omapOk q3
    cases ev2
    refine we_two ha.o hb.o I e1 e2 fun φ2 G2 v u H2 p g2 I2 r1 r2 => ?_
    have := cmp_ok (X := X) (Q := Q) I2.same g.hu (r1.res I2 q1) (r2.res I2 q2) q9 (kq H2 φ2 G2 p g2 I2)
    rw [copOf_cmpOf] at this
    exact this
  have hx : SX C X (.Compare a [op] [b] pos) (.cmp (copOf op) ca cb) := by
    intro B φ G s σ H r s' I ev
    have hb : ∃ b', r = .d (.bl b') := by
      simp only [evX] at ev
      obtain ⟨x, s1, e1, ev⟩ := bindOk ev
      obtain ⟨y, s2, e2, ev⟩ := bindOk ev
      obtain ⟨dx, dy, q1, q2, q3, rfl⟩ := twoOk ev
      obtain ⟨kk, q3, rfl⟩ := omapOk q3
      exact ⟨kk, rfl⟩
    obtain ⟨b', rfl⟩ := hb
    refine we_of (pe_cmpR or_sem pe_WE pe_WE (cmpForm_marks hf)) ?_
    refine key I (b' := b') (s' := s') (by unfold asB; rw [ev]; rfl) fun H' φ' G' p g2 I2 => ⟨φ', G', p, g2, I2, .bl _⟩
  refine ⟨hx, so_of hx rfl, ?_⟩
  intro B φ G s σ H b' s' I ev
  refine wt_of (pt_cmpR or_sem pe_WE pe_WE (cmpForm_marks hf)) ?_
  exact key I ev fun H' φ' G' p g2 I2 => ⟨b', rfl, rfl, φ', G', p, g2, I2⟩
theorem chn_se {a b d : Expr} {o1 o2 : CmpOp} {ca cb cd : CE} {pos : Pos} (g : Good c k C.call X) (h1 : cmpForm o1 b = true) (h2 : cmpForm o2 d = true) (ha : SE C X a ca) (hb : SE C X b cb) (hd : SE C X d cd) :
    SE C X (.Compare a [o1, o2] [b, d] pos) (.chn (copOf o1) (copOf o2) ca cb cd) := by
  have hm : lastMarks [o1, o2] [b, d] = false := cmpForm_marks h2
  have key : ∀ {B : Bs} {φ : List Addr} {G : Hp} {s : S} {σ : L2.St} {H : Hp} {b' : Bool} {s' : S} {Q : VK}, SR X.K B φ G s σ H → evX C (.chn (copOf o1) (copOf o2) ca cb cd) s = .ok (.d (.bl b')) s' →
      (∀ H' φ' G', φ <+: φ' → Same G G' → SR X.K B φ' G' s' σ H' → Q (.bl b') H') → tChain (SemOp X (compareOp o1)) (SemOp X (compareOp o2)) (WE X a) (WE X b) (WE X d) σ H Q := by
    intro B φ G s σ H b' s' Q I ev kq
    simp only [evX] at ev
    obtain ⟨x, s1, e1, ev⟩ := bindOk ev
    obtain ⟨y, s2, e2, ev⟩ := bindOk ev
    obtain ⟨kk, s3, e3, ev⟩ := bindOk ev
    obtain ⟨dx, dy, q1, q2, q3, rfl⟩ := twoOk e3
    refine we_two ha.o hb.o I e1 e2 fun φ2 G2 v u H2 p g2 I2 r1 r2 => ?_
    have := cmp_ok (X := X) (Q := fun z H3 => ∃ k, z = .bl k ∧ (if k = true then WE X d σ H3 fun w' H4 => SemOp X (compareOp o2) u w' H4 Q else Q (.bl false) H3)) I2.same g.hu (r1.res I2 q1) (r2.res I2 q2) q3 ?_
    · rw [copOf_cmpOf] at this
      exact this
    · refine ⟨kk, rfl, ?_⟩
      cases kk with
      | false =>
        rw [if_neg Bool.false_ne_true] at ev ⊢
        cases ev
        exact kq H2 φ2 G2 p g2 I2
      | true =>
        rw [if_pos rfl] at ev ⊢
        obtain ⟨z, s4, e4, ev⟩ := bindOk ev
        obtain ⟨dy', dz, q4, q5, q6, rfl⟩ := twoOk ev
        obtain ⟨k2, q6, q7⟩ := omapOk q6
        cases q7
        refine (hd.o B φ2 G2 _ σ H2 z _ I2 e4).mono fun w' H4 ⟨φ4, G4, p4, g4, I4, r4⟩ => ?_
        have := cmp_ok (X := X) (Q := Q) I4.same g.hu ((r2.mono p4 g4).res I4 q4) (r4.res I4 q5) q6 (kq H4 φ4 G4 (p.trans p4) (g2.trans g4) I4)
        rw [copOf_cmpOf] at this
        exact this
  have hbl : ∀ {s : S} {r : RX} {s' : S}, evX C (.chn (copOf o1) (copOf o2) ca cb cd) s = .ok r s' → ∃ b', r = .d (.bl b') := by
    intro s r s' ev
    simp only [evX] at ev
    obtain ⟨x, s1, e1, ev⟩ := bindOk ev
    obtain ⟨y, s2, e2, ev⟩ := bindOk ev
    obtain ⟨kk, s3, e3, ev⟩ := bindOk ev
    cases kk with
    | false =>
      rw [if_neg Bool.false_ne_true] at ev
      cases ev
      exact ⟨_, rfl⟩
    | true =>
      rw [if_pos rfl] at ev
      obtain ⟨z, s4, e4, ev⟩ := bindOk ev
      obtain ⟨dy', dz, q4, q5, q6, rfl⟩ := twoOk ev
      obtain ⟨k2, q6, rfl⟩ := omapOk q6
      exact ⟨_, rfl⟩
  have hx : SX C X (.Compare a [o1, o2] [b, d] pos) (.chn (copOf o1) (copOf o2) ca cb cd) := by
    intro B φ G s σ H r s' I ev
    obtain ⟨b', rfl⟩ := hbl ev
    refine we_of (pe_chain or_sem or_sem pe_WE pe_WE pe_WE hm) ?_
    exact key I ev fun H' φ' G' p g2 I2 => ⟨φ', G', p, g2, I2, .bl _⟩
  refine ⟨hx, so_of hx rfl, ?_⟩
  intro B φ G s σ H b' s' I ev
  obtain ⟨r, s3, ev, ev2⟩ := bindOk ev
  obtain ⟨b2, rfl⟩ := hbl ev
  cases ev2
  refine wt_of (pt_chain or_sem or_sem pe_WE pe_WE pe_WE hm) ?_
  exact key I ev fun H' φ' G' p g2 I2 => ⟨_, rfl, rfl, φ', G', p, g2, I2⟩
end
end DE
end

section
set_option Elab.async false
set_option linter.all false
set_option maxRecDepth 100000
set_option maxHeartbeats 1000000
namespace DE
open PySem L2 PySem.Spec PyProof.Rows
section
variable {K : PySem.W.Frag} {B : Bs} {φ φ' : List Addr} {G G' H H' : Hp} {s s' : S} {σ : L2.St}
/-! indices -/
theorem atI_rep {xs : List D} {vs : List V} {i : Int} {d : D} (r : RepA K φ G xs vs) (h : atI xs i = some d) : ∃ v, atI vs i = some v ∧ Rep K φ G d v := by
  unfold atI at h ⊢
  rw [← r.length]
  cases q : ixN xs.length i with
  | none => rw [q] at h; cases h
  | some j =>
    rw [q] at h
    exact r.get (show xs[j]? = some d from h)
theorem repK_find {kvs : List (Key × D)} {vs : List (Key × V)} {q : Key} {d : D} (r : RepK K φ G kvs vs) (h : lookK kvs q = some d) : ∃ v, valV vs q = some v ∧ Rep K φ G d v := by
  unfold lookK at h
  unfold valV
  induction kvs generalizing vs with
  | nil => cases h
  | cons p kvs ih =>
    cases r with
    | @cons k d' v _ vs' rv rr =>
      by_cases e : k = q
      · rw [List.find?_cons_of_pos (by simpa using e)] at h ⊢
        cases h
        exact ⟨v, rfl, rv⟩
      · rw [List.find?_cons_of_neg (by simpa using e)] at h ⊢
        exact ih rr h
end
section
variable {X : Cx} {B : Bs} {φ : List Addr} {G H : Hp} {s : S} {σ : L2.St} {Q : VK}
def SemIx (X : Cx) : R2 := fun x y H Q => ∀ (value slice : Expr) (pins : List (Addr × Obj)) (s : Shared) (σ : L2.St) (v u : Value), Inv X pins σ H s → RelV x v → RelV y u →
    subscripted slice false v u = operate [v, u] (getItem v u) → wpAny (model X.prog X.w) X.A (subscriptTail value slice v u) (EP X pins σ Q) X.xe s
theorem ix_sem : IxR X (SemIx X) := fun a b pins s σ H x y v u Q I rx ry h hs => h a b pins s σ v u I rx ry hs
theorem semix_of {r : R2} {x y : V} (h : IxR X r) (q : r x y H Q) : SemIx X x y H Q := fun a b pins s σ v u I rx ry hs => h a b pins s σ H x y v u Q I rx ry q hs
theorem ix_dct (hu : X.A.units + 1 < cLine) : IxR X (fun x y H Q => ∃ a kvs k v, x = .ref a ∧ y = kV k ∧ H a = some (.dK kvs) ∧ valV kvs k = some v ∧ Q v H) := by
  intro value slice pins s σ H x y v u Q I rx ry h hs
  obtain ⟨a, kvs, k, w, rfl, rfl, e, l, q⟩ := h
  obtain rfl : v = Value.ref a := rx
  have g : DGet H a (kV k) (some w) := by rw [← l]; exact DGet.k e
  exact tail_any (dict_typeIs I g) PySem.F.slot_dict_getitem.lookup (d_getItem hu I g ry fun w' s3 I3 rw' => ⟨w, H, I3, rw', q⟩) hs
theorem idx_ok {a b d : D} {x y : V} (I : SR X.K B φ G s σ H) (hu : X.A.units + 64 < cLine) (ra : RepH X.K φ G H a x) (rb : RepH X.K φ G H b y) (e : idxD s.st a b = some d) (q : ∀ v, Rep X.K φ G d v → Q v H) : SemIx X x y H Q := by
  unfold idxD at e
  split at e
  · cases rb.int
    obtain ⟨p, vs, rfl, h, r⟩ := ra.lst I.same
    obtain ⟨v, e1, e2⟩ := atI_rep r e
    exact semix_of ix_list ⟨_, _, _, _, rfl, rfl, SqL.of h, e1, q v e2⟩
  · cases rb.int
    obtain ⟨p, vs, rfl, h, _, r⟩ := ra.tup I.same
    obtain ⟨v, e1, e2⟩ := atI_rep r e
    exact semix_of ix_tup ⟨_, _, _, _, rfl, rfl, h, e1, q v e2⟩
  · split at e
    · cases rb.int
      obtain ⟨rfl, ok⟩ := ra.str
      obtain ⟨ch, e1, rfl⟩ := omapOk e
      refine semix_of ix_str ⟨_, _, _, rfl, rfl, by assumption, e1, q _ (.str _ ?_)⟩
      unfold PyData.strOk at ok ⊢
      have hm : ch ∈ (‹Str› : Str).cps.toList := by
        obtain ⟨j, e2, e3⟩ := obindOk (by unfold atI at e1; exact e1)
        exact List.mem_of_getElem? e3
      rw [Array.all_eq_true'] at ok
      simpa using ok ch (by simpa using hm)
    · cases e
  · cases rb.int
    obtain ⟨p, vs, rfl, h, r⟩ := ra.dic
    obtain ⟨v, e1, e2⟩ := repK_find r e
    exact semix_of (ix_dct (by omega)) ⟨_, _, _, _, rfl, rfl, I.same _ _ h, e1, q v e2⟩
  · cases rb.str.1
    obtain ⟨p, vs, rfl, h, r⟩ := ra.dic
    obtain ⟨v, e1, e2⟩ := repK_find r e
    exact semix_of (ix_dct (by omega)) ⟨_, _, .inr _, _, rfl, rfl, I.same _ _ h, e1, q v e2⟩
  · cases rb.int
    obtain ⟨p, rfl, hp⟩ := ra.loc
    obtain ⟨xs, e0, e⟩ := obindOk e
    obtain ⟨a, vs, e1, _, h, r⟩ := I.st.cell _ _ e0
    rw [hp] at e1
    cases e1
    obtain ⟨v, e1, e2⟩ := atI_rep r e
    exact semix_of ix_list ⟨_, _, _, _, rfl, rfl, SqL.of h, e1, q v e2⟩
  · cases e
/-! slices -/
def SemSl (X : Cx) : V → Option Int → Option Int → Hp → VK → Prop := fun x lo hi H Q => ∀ (pins : List (Addr × Obj)) (s : Shared) (σ : L2.St) (v vl vu : Value) (sl : Addr), Inv X pins σ H s → RelV x v → s.heap.IsSliceOf sl vl vu .none → IsPart vl lo → IsPart vu hi →
    ∃ T id, typeLookup (.type T) "__getitem__" = pure (some (.builtin id)) ∧ s.TypeIs v T ∧ wpAny (model X.prog X.w) X.A (getItem v (.ref sl)) (EP X pins σ Q) X.xe s
theorem sl_sem : L2.SlR X (SemSl X) := fun pins s σ H x v vl vu lo hi sl Q I rx h1 h2 h3 h => h pins s σ v vl vu sl I rx h1 h2 h3
theorem semsl_of {r : V → Option Int → Option Int → Hp → VK → Prop} {x : V} {lo hi : Option Int} (h : L2.SlR X r) (q : r x lo hi H Q) : SemSl X x lo hi H Q := fun pins s σ v vl vu sl I rx h1 h2 h3 => h pins s σ H x v vl vu lo hi sl Q I rx h1 h2 h3 q
theorem cut_rep {xs : List D} {vs : List V} (r : RepA X.K φ G xs vs) (lo hi : Option Int) : RepA X.K φ G (cutD xs lo hi) (cutV vs lo hi) := by
  unfold cutD cutV
  rw [r.length]
  exact (r.drop _).take _
theorem slc_ok {a : D} {r : RX} {x : V} {lo hi : Option Int} (I : SR X.K B φ G s σ H) (ra : RepH X.K φ G H a x) (e : slcD a lo hi = some r) : SemSl X x lo hi H (PX X.K B φ G σ r s) := by
  unfold slcD at e
  split at e
  · cases e
    obtain ⟨p, vs, rfl, h, rr⟩ := ra.lst I.same
    exact semsl_of sl_list ⟨_, _, rfl, SqL.of h, fun l hl => px_fr I hl (cut_rep rr _ _)⟩
  · cases e
    obtain ⟨p, vs, rfl, h, g, rr⟩ := ra.tup I.same
    refine semsl_of sl_tupA ⟨_, _, rfl, h, fun ⟨z1, z2⟩ => ?_, fun _ l hl => px_tup I hl (cut_rep rr _ _)⟩
    have ec : ∀ (ys : List D), ys.length = vs.length → cutD ys lo hi = ys := by
      intro ys hy
      unfold cutD
      rw [hy, z1, z2, List.drop_zero, Nat.sub_zero, ← hy, List.take_length]
    rw [ec _ rr.length]
    exact px_d I (.tup g rr)
  · cases e
    obtain ⟨p, vs, rfl, h, rr⟩ := ra.scr I.same
    exact semsl_of sl_list ⟨_, _, rfl, h, fun l hl => px_fr I hl (cut_rep rr _ _)⟩
  · cases e
end
section
variable {c : CC} {k : Nat} {C : Ctx} {X : Cx} {e : Expr} {ce : CE}
/-! displays -/
theorem nil_sl : SLs C X [] .nil := by
  intro B φ G s σ H ds s' I ev
  simp only [evL] at ev
  cases ev
  exact wa_of pa_nil ⟨φ, G, List.prefix_rfl, Same.refl _, I, .nil⟩
theorem cons_sl {es : List Expr} {ces : CEs} (hs : starEach (e :: es) X.env = (false, eval e X.env) :: starEach es X.env) (h : SE C X e ce) (hr : SLs C X es ces) : SLs C X (e :: es) (.cons ce ces) := by
  intro B φ G s σ H ds s' I ev
  simp only [evL] at ev
  obtain ⟨r, s1, e1, ev⟩ := bindOk ev
  obtain ⟨ds', s2, e2, ev⟩ := bindOk ev
  cases ev
  refine wa_of (pa_cons pe_WE pa_WA hs) ?_
  refine (h.x B φ G s σ H r s1 I e1).mono fun v H1 q => ?_
  obtain ⟨φ1, G1, p1, g1, I1, q1⟩ := q.dat
  exact (hr B φ1 G1 s1 σ H1 ds' _ I1 e2).mono fun vs H2 ⟨φ2, G2, p2, g2, I2, q2⟩ => ⟨φ2, G2, p1.trans p2, g1.trans g2, I2, .cons (Rep.mono p2 g2 q1) q2⟩
theorem nil_so : SOs C X [] .nil := by
  intro B φ G s σ H ds s' I ev
  simp only [evOs] at ev
  cases ev
  exact wa_of pa_nil ⟨φ, G, List.prefix_rfl, Same.refl _, I, .nil⟩
theorem cons_so {es : List Expr} {ces : CEs} (hs : starEach (e :: es) X.env = (false, eval e X.env) :: starEach es X.env) (h : SE C X e ce) (hr : SOs C X es ces) : SOs C X (e :: es) (.cons ce ces) := by
  intro B φ G s σ H ds s' I ev
  simp only [evOs] at ev
  obtain ⟨r, s1, e1, ev⟩ := bindOk ev
  obtain ⟨ds', s2, e2, ev⟩ := bindOk ev
  cases ev
  refine wa_of (pa_cons pe_WE pa_WA hs) ?_
  refine (h.o B φ G s σ H r s1 I e1).mono fun v H1 ⟨φ1, G1, p1, g1, I1, q1⟩ => ?_
  exact (hr B φ1 G1 s1 σ H1 ds' _ I1 e2).mono fun vs H2 ⟨φ2, G2, p2, g2, I2, q2⟩ => ⟨φ2, G2, p1.trans p2, g1.trans g2, I2, .cons (q1.mono p2 g2) q2⟩
theorem tup_se {es : List Expr} {ces : CEs} {n : Nat} {pos : Pos} (h : SLs C X es ces) : SE C X (.Tuple es n pos) (.tup ces) := by
  have hx : SX C X (.Tuple es n pos) (.tup ces) := by
    intro B φ G s σ H r s' I ev
    simp only [evX] at ev
    obtain ⟨ds, s1, e1, ev⟩ := bindOk ev
    split at ev
    · rename_i hl
      cases ev
      refine we_of (pe_tup pa_WA) ?_
      refine (h B φ G s σ H ds _ I e1).mono fun vs H1 ⟨φ1, G1, p1, g1, I1, q1⟩ => ⟨by rw [← q1.length]; exact hl, fun p hp => ?_⟩
      exact (px_tup I1 hp q1).of p1 g1
    · cases ev
  exact se_of hx rfl fun _ => rfl
theorem lst_se {es : List Expr} {ces : CEs} {pos : Pos} (h : SLs C X es ces) : SE C X (.List es pos) (.lst ces) := by
  have hx : SX C X (.List es pos) (.lst ces) := by
    intro B φ G s σ H r s' I ev
    simp only [evX] at ev
    obtain ⟨ds, s1, e1, ev⟩ := bindOk ev
    split at ev
    · rename_i hl
      cases ev
      refine we_of (pe_lst pa_WA) ?_
      refine (h B φ G s σ H ds _ I e1).mono fun vs H1 ⟨φ1, G1, p1, g1, I1, q1⟩ => ⟨by rw [← q1.length]; exact hl, fun p hp => ?_⟩
      exact (px_fr I1 hp q1).of p1 g1
    · cases ev
  exact se_of hx rfl fun _ => rfl
/-- a new list of the store -/
theorem SR.alloc {K : PySem.W.Frag} {B : Bs} {φ : List Addr} {G H : Hp} {s : S} {σ : L2.St} {p : Addr} {ds : List D} {vs : List V} (I : SR K B φ G s σ H) (hp : H p = none) (r : RepA K φ G ds vs) :
    SR K B (φ ++ [p]) G { s with st := s.st ++ [ds] } σ (upd H p (.lst vs)) ∧ φ <+: φ ++ [p] ∧ (φ ++ [p])[s.st.length]? = some p := by
  have np : p ∉ φ := I.st.notin hp
  have pre : φ <+: φ ++ [p] := List.prefix_append _ _
  have gp : G p = none := I.same.free hp
  refine ⟨I.step ⟨pre, Same.refl _, fun a u e _ => by rw [upd_ne (ne_of_none e hp)]; exact e, fun a _ _ g => g, fun a h => ?_⟩ (same_lay hp I.same) ⟨by simp [I.st.len], ?_, fun n es e => ?_⟩, pre, by rw [I.st.len]; simp⟩
  · rcases List.mem_append.mp h with q | q
    · exact .inl q
    · have e : a = p := by simpa using q
      rw [e]; exact .inr hp
  · rw [List.nodup_append]
    exact ⟨I.st.nd, by simp, fun a ha b hb => by
      have e : b = p := by simpa using hb
      rw [e]
      exact fun z => np (z ▸ ha)⟩
  · by_cases hn : n < s.st.length
    · rw [List.getElem?_append_left hn] at e
      obtain ⟨a, ws, e1, g1, h1, r1⟩ := I.st.cell n es e
      refine ⟨a, ws, ?_, g1, by rw [upd_ne (ne_of_none h1 hp)]; exact h1, RepA.mono pre (Same.refl _) r1⟩
      rw [List.getElem?_append_left (by rw [← I.st.len]; exact hn)]; exact e1
    · have hl := (List.getElem?_eq_some_iff.mp e).1
      have en : n = s.st.length := by simp at hl; omega
      subst en
      rw [List.getElem?_append_right (Nat.le_refl _), Nat.sub_self] at e
      cases e
      exact ⟨p, vs, by rw [I.st.len]; simp, gp, upd_same, RepA.mono pre (Same.refl _) r⟩
theorem lstL_se {es : List Expr} {ces : CEs} {pos : Pos} (h : SLs C X es ces) : SE C X (.List es pos) (.lstL ces) := by
  have hx : SX C X (.List es pos) (.lstL ces) := by
    intro B φ G s σ H r s' I ev
    simp only [evX] at ev
    obtain ⟨ds, s1, e1, ev⟩ := bindOk ev
    split at ev
    · rename_i hl
      cases ev
      refine we_of (pe_lst pa_WA) ?_
      refine (h B φ G s σ H ds _ I e1).mono fun vs H1 ⟨φ1, G1, p1, g1, I1, q1⟩ => ⟨by rw [← q1.length]; exact hl, fun p hp => ?_⟩
      obtain ⟨I2, pre, hlook⟩ := I1.alloc hp q1
      exact ⟨_, G1, p1.trans pre, g1, I2, .loc hlook⟩
    · cases ev
  exact se_of hx rfl fun _ => rfl
theorem idx_se {a b : Expr} {ca cb : CE} {pos : Pos} (g : Good c k C.call X) (hs : PlainIx b) (ha : SE C X a ca) (hb : SE C X b cb) : SE C X (.Subscript a b pos) (.idx ca cb) := by
  have hx : SX C X (.Subscript a b pos) (.idx ca cb) := by
    intro B φ G s σ H r s' I ev
    simp only [evX] at ev
    obtain ⟨x, s1, e1, ev⟩ := bindOk ev
    obtain ⟨y, s2, e2, ev⟩ := bindOk ev
    obtain ⟨dx, dy, q1, q2, q3, rfl⟩ := twoOk ev
    obtain ⟨d, q4, rfl⟩ := omapOk q3
    refine we_of (pe_ix ix_sem pe_WE pe_WE hs) ?_
    refine we_two ha.o hb.o I e1 e2 fun φ2 G2 v u H2 p g2 I2 r1 r2 => ?_
    exact idx_ok I2 g.hu (r1.res I2 q1) (r2.res I2 q2) q4 fun w rw' => (px_d I2 rw').of p g2
  exact se_of hx rfl fun _ => rfl
/-! slices -/
def WO (X : Cx) (oe : Option Expr) : TO := fun σ H Q => match oe with
  | none => Q none H
  | some e => WE X e σ H fun x H1 => ∃ i, x = .int i ∧ Q (some i) H1
theorem po_WO {oe : Option Expr} : PO X oe (WO X oe) := by
  cases oe with
  | none => exact po_none
  | some e => exact po_some pe_WE
def SP' (C : Ctx) (X : Cx) (oe : Option Expr) (co : CO) : Prop := ∀ (B : Bs) (φ : List Addr) (G : Hp) (s : S) (σ : L2.St) (H : Hp) (l : Option Int) (s' : S), SR X.K B φ G s σ H → evP C co s = .ok l s' →
  ∀ Q : Option Int → Hp → Prop, (∀ H' φ' G', φ <+: φ' → Same G G' → SR X.K B φ' G' s' σ H' → Q l H') → WO X oe σ H Q
theorem non_sp : SP' C X none .non := by
  intro B φ G s σ H l s' I ev Q q
  simp only [evP] at ev
  cases ev
  exact q H φ G List.prefix_rfl (Same.refl _) I
theorem som_sp (h : SE C X e ce) : SP' C X (some e) (.som ce) := by
  intro B φ G s σ H l s' I ev Q q
  simp only [evP] at ev
  obtain ⟨i, s1, e1, ev⟩ := bindOk ev
  cases ev
  exact (si_of h.x I e1).mono fun v H' ⟨qv, φ1, G1, p, g, I1⟩ => ⟨i, qv, q H' φ1 G1 p g I1⟩
theorem slc_se {a : Expr} {lo hi : Option Expr} {ca : CE} {cl ch : CO} {p2 pos : Pos} (ha : SE C X a ca) (hl : SP' C X lo cl) (hh : SP' C X hi ch) : SE C X (.Subscript a (.Slice lo hi none p2) pos) (.slc ca cl ch) := by
  have hx : SX C X (.Subscript a (.Slice lo hi none p2) pos) (.slc ca cl ch) := by
    intro B φ G s σ H r s' I ev
    simp only [evX] at ev
    obtain ⟨x, s1, e1, ev⟩ := bindOk ev
    obtain ⟨l, s2, e2, ev⟩ := bindOk ev
    obtain ⟨u, s3, e3, ev⟩ := bindOk ev
    obtain ⟨ev9, rfl⟩ := optOk ev
    obtain ⟨dx, q1, q2⟩ := obindOk ev9
    refine we_of (pe_slice sl_sem pe_WE po_WO po_WO) ?_
    refine (ha.o B φ G s σ H x s1 I e1).mono fun v H1 ⟨φ1, G1, p1, g1, I1, r1⟩ => ?_
    refine hl B φ1 G1 s1 σ H1 l s2 I1 e2 _ fun H2 φ2 G2 p2 g2 I2 => ?_
    refine hh B φ2 G2 s2 σ H2 u _ I2 e3 _ fun H3 φ3 G3 p3 g3 I3 => ?_
    intro pins sh σ' v' vl vu sl I' rx h1 h2 h3
    obtain ⟨T, id, t1, t2, t3⟩ := slc_ok I3 ((r1.mono (p2.trans p3) (g2.trans g3)).res I3 q1) q2 pins sh σ' v' vl vu sl I' rx h1 h2 h3
    exact ⟨T, id, t1, t2, thn t3 fun _ _ ⟨w, H', I'', rw', q⟩ => ⟨w, H', I'', rw', q.of (p1.trans (p2.trans p3)) (g1.trans (g2.trans g3))⟩⟩
  exact se_of hx rfl fun _ => rfl
/-! calls -/
theorem fnOf_ok {x : Str} {i : Nat} (h : fnOf c x = some i) : c.fns[i]? = some x ∧ (x == ("__debug__" : Str)) = false := by
  unfold fnOf at h
  dsimp only at h
  split at h
  · rename_i q
    cases h
    simp only [Bool.and_eq_true, decide_eq_true_eq, Bool.not_eq_true', decide_eq_false_iff_not] at q
    exact ⟨q.1.1, q.1.2⟩
  · cases h
theorem call_se {x : Str} {i : Nat} {e : Expr} {es : List Expr} {ces : CEs} {p pos : Pos} (g : Good c k C.call X) (hg : gloB c.sc x = true) (hi : fnOf c x = some i) (h : SLs C X (e :: es) ces)
    (h1 : starEach (e :: es) X.env = (false, eval e X.env) :: starEach es X.env) (h2 : (backTo pos (starEach es X.env)).any (·.1) = false) : SE C X (.Call (.Name x p) (e :: es) [] pos) (.call i ces) := by
  have hx : SX C X (.Call (.Name x p) (e :: es) [] pos) (.call i ces) := by
    intro B φ G s σ H r s' I ev
    simp only [evX] at ev
    obtain ⟨ds, s1, e1, ev⟩ := bindOk ev
    split at ev
    · rename_i d st hc
      cases ev
      obtain ⟨hf, hdb⟩ := fnOf_ok hi
      obtain ⟨n, f, fd, ps, F, hm, hk, hb, hn⟩ := g.fn i x hf
      have main : WA X (e :: es) σ H fun vs H1 => spOf X.K n C.call i (vs ++ []) H1 (PX X.K B φ G σ (.d d) { s1 with st := st }) E0 := by
        refine (h B φ G s σ H ds s1 I e1).mono fun vs H1 ⟨φ1, G1, p1, g1, I1, q1⟩ => ?_
        rw [List.append_nil]
        refine ⟨by rw [← q1.length]; exact hn _ _ _ hc, φ1, G1, ds, s1.st, d, st, q1, I1.same, I1.st, hc, fun φ' G' H' v x sm st' rv => ?_⟩
        exact ⟨φ', G', p1.trans x.pre, g1.trans x.same, I1.step x sm st', rv⟩
      exact we_of (pe_call F g.room (gloB_gl g hg) hm hk hb .nil pass0 pa_WA hdb h1 h2) main
    · cases ev
  exact se_of hx rfl fun _ => rfl
theorem call0_se {x : Str} {i : Nat} {p pos : Pos} (g : Good c k C.call X) (hg : gloB c.sc x = true) (hi : fnOf c x = some i) : SE C X (.Call (.Name x p) [] [] pos) (.call i .nil) := by
  have hx : SX C X (.Call (.Name x p) [] [] pos) (.call i .nil) := by
    intro B φ G s σ H r s' I ev
    simp only [evX, evL] at ev
    obtain ⟨ds, s1, e1, ev⟩ := bindOk ev
    cases e1
    split at ev
    · rename_i d st hc
      cases ev
      obtain ⟨hf, hdb⟩ := fnOf_ok hi
      obtain ⟨n, f, fd, ps, F, hm, hk, hb, hn⟩ := g.fn i x hf
      refine we_of (pe_call0 F g.room (gloB_gl g hg) hm hk hb .nil pass0 hdb) ?_
      refine ⟨hn _ _ _ hc, φ, G, [], s.st, d, st, .nil, I.same, I.st, hc, fun φ' G' H' v x sm st' rv => ?_⟩
      exact ⟨φ', G', x.pre, x.same, I.step x sm st', rv⟩
    · cases ev
  exact se_of hx rfl fun _ => rfl
end
end DE
end

section
set_option Elab.async false
set_option linter.all false
set_option maxRecDepth 100000
set_option maxHeartbeats 1000000
namespace DE
open PySem L2 PySem.Spec PyProof.Rows
section
variable {K : PySem.W.Frag} {B : Bs} {φ φ' : List Addr} {G G' H H' : Hp} {s s' : S} {σ : L2.St}
/-! lists of one kind -/
theorem intsD_eq : ∀ {xs : List D} {ns : List Int}, intsD xs = some ns → xs = ns.map D.int
  | [], _, h => by cases h; rfl
  | .int i :: r, _, h => by
    obtain ⟨ms, h1, rfl⟩ := omapOk (show (intsD r).map (i :: ·) = _ from h)
    rw [intsD_eq h1]; rfl
  | .non :: _, _, h => by cases h
  | .bl _ :: _, _, h => by cases h
  | .str _ :: _, _, h => by cases h
  | .tup _ :: _, _, h => by cases h
  | .lst _ :: _, _, h => by cases h
  | .dic _ :: _, _, h => by cases h
  | .loc _ :: _, _, h => by cases h
  | .scr _ :: _, _, h => by cases h
theorem blsD_eq : ∀ {xs : List D} {ns : List Bool}, blsD xs = some ns → xs = ns.map D.bl
  | [], _, h => by cases h; rfl
  | .bl i :: r, _, h => by
    obtain ⟨ms, h1, rfl⟩ := omapOk (show (blsD r).map (i :: ·) = _ from h)
    rw [blsD_eq h1]; rfl
  | .non :: _, _, h => by cases h
  | .int _ :: _, _, h => by cases h
  | .str _ :: _, _, h => by cases h
  | .tup _ :: _, _, h => by cases h
  | .lst _ :: _, _, h => by cases h
  | .dic _ :: _, _, h => by cases h
  | .loc _ :: _, _, h => by cases h
  | .scr _ :: _, _, h => by cases h
theorem strsD_eq : ∀ {xs : List D} {ns : List Str}, strsD xs = some ns → xs = ns.map D.str
  | [], _, h => by cases h; rfl
  | .str i :: r, _, h => by
    obtain ⟨ms, h1, rfl⟩ := omapOk (show (strsD r).map (i :: ·) = _ from h)
    rw [strsD_eq h1]; rfl
  | .non :: _, _, h => by cases h
  | .bl _ :: _, _, h => by cases h
  | .int _ :: _, _, h => by cases h
  | .tup _ :: _, _, h => by cases h
  | .lst _ :: _, _, h => by cases h
  | .dic _ :: _, _, h => by cases h
  | .loc _ :: _, _, h => by cases h
  | .scr _ :: _, _, h => by cases h
theorem rep_ints : ∀ {ns : List Int} {vs : List V}, RepA K φ G (ns.map D.int) vs → vs = ns.map V.int
  | [], _, h => by cases h; rfl
  | n :: ns, _, h => by
    cases h with
    | cons h r => cases h; rw [rep_ints r]; rfl
theorem rep_bls : ∀ {ns : List Bool} {vs : List V}, RepA K φ G (ns.map D.bl) vs → vs = ns.map V.bl
  | [], _, h => by cases h; rfl
  | n :: ns, _, h => by
    cases h with
    | cons h r => cases h; rw [rep_bls r]; rfl
theorem rep_strs : ∀ {ns : List Str} {vs : List V}, RepA K φ G (ns.map D.str) vs → vs = ns.map V.str ∧ ∀ x ∈ ns, PyData.strOk x = true
  | [], _, h => by cases h; exact ⟨rfl, by simp⟩
  | n :: ns, _, h => by
    cases h with
    | cons h r =>
      cases h
      obtain ⟨e, q⟩ := rep_strs r
      exact ⟨by rw [e]; rfl, fun x hx => by rcases List.mem_cons.mp hx with rfl | hx; assumption; exact q x hx⟩
theorem strs_rep : ∀ {ns : List Str}, (∀ x ∈ ns, PyData.strOk x = true) → RepA K φ G (ns.map D.str) (ns.map V.str)
  | [], _ => .nil
  | n :: ns, h => .cons (.str _ (h n (by simp))) (strs_rep fun x hx => h x (by simp [hx]))
theorem maxI_spec : ∀ (r : List Int) (m : Int), (maxI m r = m ∨ maxI m r ∈ r) ∧ m ≤ maxI m r ∧ ∀ y ∈ r, y ≤ maxI m r
  | [], m => ⟨.inl rfl, Int.le_refl _, by simp⟩
  | i :: r, m => by
    unfold maxI
    by_cases hc : i > m
    · rw [if_pos hc]
      obtain ⟨h1, h2, h3⟩ := maxI_spec r i
      refine ⟨?_, by omega, fun y hy => ?_⟩
      · rcases h1 with h1 | h1
        · rw [h1]; exact .inr (by simp)
        · exact .inr (by simp [h1])
      · rcases List.mem_cons.mp hy with rfl | hy
        · exact h2
        · exact h3 y hy
    · rw [if_neg hc]
      obtain ⟨h1, h2, h3⟩ := maxI_spec r m
      refine ⟨?_, h2, fun y hy => ?_⟩
      · rcases h1 with h1 | h1
        · exact .inl h1
        · exact .inr (by simp [h1])
      · rcases List.mem_cons.mp hy with rfl | hy
        · omega
        · exact h3 y hy
theorem max_unique {i m : Int} {r : List Int} (h1 : m ∈ i :: r) (h2 : ∀ y ∈ i :: r, y ≤ m) : m = maxI i r := by
  obtain ⟨q1, q2, q3⟩ := maxI_spec r i
  have a : maxI i r ≤ m := by
    rcases q1 with q | q
    · rw [q]; exact h2 i (by simp)
    · exact h2 _ (by simp [q])
  have b : m ≤ maxI i r := by
    rcases List.mem_cons.mp h1 with rfl | h
    · exact q2
    · exact q3 m h
  omega
theorem leS_iff (a b : Str) : leS a b = true ↔ a.cps.toList ≤ b.cps.toList := by
  unfold leS
  rw [PyProof.Rows.ltCps_eq]
  simp
theorem leS_trans (a b c : Str) (h1 : leS a b = true) (h2 : leS b c = true) : leS a c = true := by
  rw [leS_iff] at *
  exact List.le_trans h1 h2
theorem leS_total (a b : Str) : (leS a b || leS b a) = true := by
  rw [Bool.or_eq_true, leS_iff, leS_iff]
  exact List.le_total _ _
theorem leS_anti (a b : Str) (h1 : leS a b = true) (h2 : leS b a = true) : a = b := by
  rw [leS_iff] at *
  have e := List.le_antisymm h1 h2
  cases a; cases b
  simp only at e
  rw [Array.toList_inj.mp e]
theorem rising_pair : ∀ (ys : List Str) (p : Str), risingS p ys = true → (p :: ys).Pairwise fun a b => leS a b = true
  | [], p, _ => by simp
  | x :: r, p, h => by
    simp only [risingS, Bool.and_eq_true] at h
    have ih := rising_pair r x h.2
    have hp : leS p x = true := by unfold leS; exact h.1
    refine List.pairwise_cons.mpr ⟨fun y hy => ?_, ih⟩
    rcases List.mem_cons.mp hy with rfl | hy
    · exact hp
    · exact leS_trans _ _ _ hp ((List.pairwise_cons.mp ih).1 y hy)
theorem sorted_unique {ys xs : List Str} (p : ys.Perm xs) (h : sortedS ys = true) : ys = xs.mergeSort leS := by
  have h1 : ys.Pairwise fun a b => leS a b = true := by
    cases ys with
    | nil => simp
    | cons y r => exact rising_pair r y h
  exact List.Perm.eq_of_pairwise (fun a b _ _ q1 q2 => leS_anti a b q1 q2) h1 (List.pairwise_mergeSort leS_trans leS_total xs) (p.trans (List.mergeSort_perm _ _).symm)
theorem strOk_of (s : String) : PyData.strOk (Str.ofString s) = true := by
  unfold PyData.strOk
  rw [Str.ofString_eq_toList]
  rw [Array.all_eq_true']
  intro x hx
  simp only [List.mem_toArray, List.mem_map] at hx
  obtain ⟨ch, _, rfl⟩ := hx
  have hc := ch.valid
  simp only [UInt32.isValidChar, Nat.isValidChar] at hc
  have : ch.toNat = ch.val.toNat := rfl
  simp only [decide_eq_true_eq]
  omega
theorem foldl_ok {sep : Str} (hs : PyData.strOk sep = true) : ∀ (ps : List Str) (acc : Array Nat), (acc.all (· < 0x110000)) = true → (∀ x ∈ ps, PyData.strOk x = true) → ((ps.foldl (fun acc p => acc ++ sep.cps ++ p.cps) acc).all (· < 0x110000)) = true
  | [], acc, h, _ => h
  | p :: ps, acc, h, q => by
    rw [List.foldl_cons]
    refine foldl_ok hs ps _ ?_ fun x hx => q x (by simp [hx])
    rw [Array.all_append, Array.all_append, Bool.and_eq_true, Bool.and_eq_true]
    exact ⟨⟨h, hs⟩, q p (by simp)⟩
theorem strOk_join {sep : Str} {ps : List Str} (hs : PyData.strOk sep = true) (h : ∀ x ∈ ps, PyData.strOk x = true) : PyData.strOk (Txt.join sep ps) = true := by
  show ((ps.drop 1).foldl (fun acc p => acc ++ sep.cps ++ p.cps) (ps.headD Str.empty).cps).all (· < 0x110000) = true
  refine foldl_ok hs _ _ ?_ fun x hx => h x (List.mem_of_mem_drop hx)
  cases ps with
  | nil => simp [Str.empty]
  | cons p ps => exact h p (by simp)
inductive RepHs (K : PySem.W.Frag) (φ : List Addr) (G H : Hp) : List D → List V → Prop
  | nil : RepHs K φ G H [] []
  | cons {d : D} {v : V} {ds : List D} {vs : List V} : RepH K φ G H d v → RepHs K φ G H ds vs → RepHs K φ G H (d :: ds) (v :: vs)
theorem ROs.res (I : SR K B φ G s σ H) : ∀ {xs : List Op} {vs : List V} {ds : List D}, ROs K φ G σ xs vs → xs.mapM (resO s) = some ds → RepHs K φ G H ds vs
  | _, _, ds, .nil, h => by
    have : ds = [] := by simpa using h.symm
    subst this
    exact .nil
  | x :: xs, _, ds, .cons q r, h => by
    rw [List.mapM_cons] at h
    obtain ⟨d, h1, h⟩ := obindOk h
    obtain ⟨ds', h2, h⟩ := obindOk h
    cases h
    exact .cons (q.res I h1) (ROs.res I r h2)
end
section
variable {X : Cx} {B : Bs} {φ : List Addr} {G H : Hp} {s : S} {σ : L2.St}
def biVal : Bi → Value
  | .len => .builtin "len" | .max => .builtin "max" | .min => .builtin "min" | .sum => .builtin "sum" | .all => .builtin "all" | .any => .builtin "any" | .sorted => .builtin "sorted"
  | .tuple => .type "tuple" | .list => .type "list" | .int => .type "int" | .str => .type "str" | .dict => .type "dict"
theorem rh1 {K : PySem.W.Frag} {d : D} {vs : List V} (h : RepHs K φ G H [d] vs) : ∃ v, vs = [v] ∧ RepH K φ G H d v := by
  cases h with
  | cons h r => cases r; exact ⟨_, rfl, h⟩
theorem rh2 {K : PySem.W.Frag} {d d' : D} {vs : List V} (h : RepHs K φ G H [d, d'] vs) : ∃ v w, vs = [v, w] ∧ RepH K φ G H d v ∧ RepH K φ G H d' w := by
  cases h with
  | cons h r =>
    obtain ⟨w, rfl, h2⟩ := rh1 r
    exact ⟨_, _, rfl, h, h2⟩
theorem bi_ok {b : Bi} {ds : List D} {vs : List V} {r : RX} (hc : X.calm = true) (I : SR X.K B φ G s σ H) (h : RepHs X.K φ G H ds vs) (e : biD b ds = some r) : SemC X (biVal b) vs H (PX X.K B φ G σ r s) := by
  unfold biD at e
  split at e
  · obtain ⟨v, rfl, q⟩ := rh1 h
    obtain ⟨n, e, rfl⟩ := omapOk e
    unfold lenD at e
    split at e
    · cases e
      obtain ⟨a, ws, rfl, h1, _, r⟩ := q.tup I.same
      exact semc_of call_len_seq ⟨_, _, rfl, .inr h1, by rw [← r.length]; exact px_d I (.int _)⟩
    · cases e
      obtain ⟨a, ws, rfl, h1, r⟩ := q.lst I.same
      exact semc_of call_len_seq ⟨_, _, rfl, .inl (SqL.of h1), by rw [← r.length]; exact px_d I (.int _)⟩
    · split at e
      · cases e
        obtain ⟨rfl, ok⟩ := q.str
        exact semc_of call_len_str ⟨_, rfl, by assumption, px_d I (.int _)⟩
      · cases e
    · cases e
  · obtain ⟨v, rfl, q⟩ := rh1 h
    obtain ⟨ns, e1, e⟩ := obindOk e
    rw [intsD_eq e1] at q
    obtain ⟨a, ws, rfl, h1, r⟩ := q.lst I.same
    rw [rep_ints r] at h1
    split at e
    · cases e
    · cases e
      refine semc_of (cr_max hc) ⟨a, _, rfl, SqL.of h1, by simp, fun m h1 h2 => ?_⟩
      rw [max_unique h1 h2]
      exact px_d I (.int _)
  · cases e
    obtain ⟨v, w, rfl, q1, q2⟩ := rh2 h
    cases q1.int; cases q2.int
    exact semc_of (call_max2 hc) ⟨_, _, rfl, px_d I (.int _)⟩
  · cases e
    obtain ⟨v, w, rfl, q1, q2⟩ := rh2 h
    cases q1.int; cases q2.int
    exact semc_of (call_min2 hc) ⟨_, _, rfl, px_d I (.int _)⟩
  · obtain ⟨v, rfl, q⟩ := rh1 h
    obtain ⟨ns, e1, rfl⟩ := omapOk e
    rw [intsD_eq e1] at q
    obtain ⟨a, ws, rfl, h1, r⟩ := q.lst I.same
    rw [rep_ints r] at h1
    exact semc_of (cr_sum hc) ⟨a, _, rfl, SqL.of h1, px_d I (.int _)⟩
  · obtain ⟨v, rfl, q⟩ := rh1 h
    obtain ⟨ns, e1, rfl⟩ := omapOk e
    rw [blsD_eq e1] at q
    obtain ⟨a, ws, rfl, h1, r⟩ := q.lst I.same
    rw [rep_bls r] at h1
    exact semc_of (cr_all hc) ⟨a, _, rfl, SqL.of h1, px_d I (.bl _)⟩
  · obtain ⟨v, rfl, q⟩ := rh1 h
    obtain ⟨ns, e1, rfl⟩ := omapOk e
    rw [blsD_eq e1] at q
    obtain ⟨a, ws, rfl, h1, r⟩ := q.lst I.same
    rw [rep_bls r] at h1
    exact semc_of (cr_any hc) ⟨a, _, rfl, SqL.of h1, px_d I (.bl _)⟩
  · obtain ⟨v, rfl, q⟩ := rh1 h
    obtain ⟨ns, e1, e⟩ := obindOk e
    rw [strsD_eq e1] at q
    split at e
    · cases e
      obtain ⟨a, ws, rfl, h1, r⟩ := q.lst I.same
      obtain ⟨rfl, ok⟩ := rep_strs r
      refine semc_of cr_sortedS ⟨a, ns, rfl, SqL.of h1, by assumption, fun ys p hp hs hn => ?_⟩
      rw [sorted_unique hp hs]
      exact px_fr I hn (strs_rep fun x hx => ok x ((List.mergeSort_perm _ _).mem_iff.mp hx))
    · cases e
  · cases e
    obtain ⟨v, rfl, q⟩ := rh1 h
    obtain ⟨a, ws, rfl, h1, r⟩ := q.lst I.same
    exact semc_of call_tuple_of ⟨a, _, rfl, .inl ⟨SqL.of h1, fun l hl => px_tup I hl r⟩⟩
  · cases e
    obtain ⟨v, rfl, q⟩ := rh1 h
    obtain ⟨a, ws, rfl, h1, g1, r⟩ := q.tup I.same
    exact semc_of call_tuple_of ⟨a, _, rfl, .inr ⟨h1, px_d I (.tup g1 r)⟩⟩
  · cases e
    obtain ⟨v, rfl, q⟩ := rh1 h
    obtain ⟨a, ws, rfl, h1, r⟩ := q.lst I.same
    exact semc_of call_list_of ⟨a, _, rfl, .inl (SqL.of h1), fun l hl => px_fr I hl r⟩
  · cases e
    obtain ⟨v, rfl, q⟩ := rh1 h
    obtain ⟨a, ws, rfl, h1, g1, r⟩ := q.tup I.same
    exact semc_of call_list_of ⟨a, _, rfl, .inr h1, fun l hl => px_fr I hl r⟩
  · cases e
    obtain ⟨v, rfl, q⟩ := rh1 h
    cases q.int
    exact semc_of call_int1 (.inl ⟨_, rfl, px_d I (.int _)⟩)
  · cases e
    obtain ⟨v, rfl, q⟩ := rh1 h
    cases q.bl
    exact semc_of call_int1 (.inr ⟨_, rfl, px_d I (.int _)⟩)
  · split at e
    · cases e
      obtain ⟨v, rfl, q⟩ := rh1 h
      cases q.int
      exact semc_of call_str_int ⟨_, rfl, by assumption, px_d I (.str _ (strOk_of _))⟩
    · cases e
  · cases e
/-! isinstance -/
def tyStr : Ty → String
  | .int => "int" | .bool => "bool" | .str => "str" | .list => "list" | .tuple => "tuple"
def tyName : D → String
  | .non => "NoneType" | .bl _ => "bool" | .int _ => "int" | .str _ => "str" | .tup _ => "tuple" | .lst _ => "list" | .dic _ => "dict" | .loc _ => "list" | .scr _ => "list"
theorem isi_kit {a : D} {v : V} {t : Ty} {b : Bool} (I : SR X.K B φ G s σ H) (q : RepH X.K φ G H a v) (e : isiD s.st a t = some b) : TyX X.K H v (.type (tyName a)) ∧ kitB (tyName a) (tyStr t) = some b := by
  unfold isiD at e
  split at e
  · cases e; cases q.non
    refine ⟨.base .non, ?_⟩
    dsimp only [tyName]
    cases t <;> decide +kernel
  · cases e; cases q.bl
    refine ⟨.base (.bl _), ?_⟩
    dsimp only [tyName]
    cases t <;> decide +kernel
  · cases e; cases q.int
    refine ⟨.base (.int _), ?_⟩
    dsimp only [tyName]
    cases t <;> decide +kernel
  · cases e; obtain ⟨rfl, _⟩ := q.str
    refine ⟨.base (.str _), ?_⟩
    dsimp only [tyName]
    cases t <;> decide +kernel
  · cases e
    obtain ⟨p, ws, rfl, h1, _, _⟩ := q.tup I.same
    have ty : TyX X.K H (.ref p) (.type "tuple") := by
      rcases h1 with (h1 | ⟨o, h1⟩) | ⟨o, its, n, h1, h2, _⟩
      · exact .base (.tup h1)
      · exact .fTuple h1
      · exact .kTuple h1 h2
    refine ⟨ty, ?_⟩
    dsimp only [tyName]
    cases t <;> decide +kernel
  · cases e
    obtain ⟨p, ws, rfl, h1, _⟩ := q.lst I.same
    refine ⟨.base (.lst h1), ?_⟩
    dsimp only [tyName]
    cases t <;> decide +kernel
  · cases e
    obtain ⟨p, ws, rfl, h1, _⟩ := q.dic
    refine ⟨.base (.dK (I.same _ _ h1)), ?_⟩
    dsimp only [tyName]
    cases t <;> decide +kernel
  · cases e
    obtain ⟨p, rfl, h1⟩ := q.loc
    have hn := (List.getElem?_eq_some_iff.mp h1).1
    rw [← I.st.len] at hn
    obtain ⟨a, ws, e1, _, h2, _⟩ := I.st.cell _ _ (List.getElem?_eq_getElem hn)
    rw [h1] at e1
    cases e1
    refine ⟨.base (.lst h2), ?_⟩
    dsimp only [tyName]
    cases t <;> decide +kernel
  · cases e
theorem isi_ok {a : D} {v : V} {t : Ty} {b : Bool} (I : SR X.K B φ G s σ H) (q : RepH X.K φ G H a v) (e : isiD s.st a t = some b) : SemC X (.builtin "isinstance") [v, .ty (tyStr t)] H (PX X.K B φ G σ (.d (.bl b)) s) := by
  obtain ⟨h1, h2⟩ := isi_kit I q e
  exact semc_of call_isi ⟨v, .ty (tyStr t), .type (tyName a), .type (tyStr t), b, rfl, .ty _, h1, kit_ty h2, px_d I (.bl _)⟩
theorem clsV_all : ∀ ts : List Ty, Paired ClsV (ts.map fun t => V.ty (tyStr t)) (ts.map fun t => Value.type (tyStr t))
  | [] => .nil
  | t :: ts => .cons (.ty _) (clsV_all ts)
theorem kit_any {a : D} {v : V} (I : SR X.K B φ G s σ H) (q : RepH X.K φ G H a v) : ∀ {ts : List Ty} {b : Bool}, isiTD s.st a ts = some b → PySem.W.kitAny X.K (.type (tyName a)) (ts.map fun t => Value.type (tyStr t)) = some b
  | [], b, e => by
    cases e
    exact kitAny_nil
  | t :: ts, b, e => by
    simp only [isiTD] at e
    obtain ⟨b1, e1, e2⟩ := obindOk e
    refine kitAny_cons (b := b1) (kit_ty (isi_kit I q e1).2) (fun z => ?_) fun z => ?_
    · subst z
      exact kit_any I q (by simpa using e2)
    · subst z
      simpa using e2.symm
theorem isiTD_ty {a : D} {v : V} (I : SR X.K B φ G s σ H) (q : RepH X.K φ G H a v) {t : Ty} {ts : List Ty} {b : Bool} (e : isiTD s.st a (t :: ts) = some b) : TyX X.K H v (.type (tyName a)) := by
  simp only [isiTD] at e
  obtain ⟨b1, e1, e2⟩ := obindOk e
  exact (isi_kit I q e1).1
end
end DE
end

section
set_option Elab.async false
set_option linter.all false
set_option maxRecDepth 100000
set_option maxHeartbeats 1000000
namespace DE
open PySem L2 PySem.Spec PyProof.Rows
section
variable {K : PySem.W.Frag} {B : Bs} {φ φ' : List Addr} {G G' H H' : Hp} {s s' : S} {σ : L2.St}
/-! slots -/
theorem get_put {s : S} {i j : Nat} {x : Slot} (h : i < s.env.length) : (s.put i x).get j = if j = i then some x else s.get j := by
  unfold S.get S.put
  by_cases e : j = i
  · subst e
    rw [if_pos rfl]
    simp [h]
  · rw [if_neg e]
    simp [List.getElem?_set_ne (Ne.symm e)]
theorem SR.put {i : Nat} {x : Slot} {v : V} (I : SR K B φ G s σ H) (hi : i < s.env.length) (r : SlR K B φ G H x v)
    (no : ∀ xs, x = .own xs → ∀ (j : Nat) (ys : List D), s.get j = some (.own ys) → σ[j]? ≠ some (some v)) : SR K B φ G (s.put i x) (σ.set i (some v)) H := by
  have hl : i < σ.length := by rw [← I.len]; exact hi
  refine ⟨I.ext, I.same, I.st, fun j sl e => ?_, fun j l xs ys w e1 e2 e3 e4 => ?_, by simp [S.put, I.len]⟩
  · rw [get_put hi] at e
    by_cases q : j = i
    · subst q
      rw [if_pos rfl] at e
      cases e
      exact ⟨v, by rw [List.getElem?_set_self hl], r⟩
    · rw [if_neg q] at e
      obtain ⟨w, e1, r1⟩ := I.env j sl e
      exact ⟨w, by rw [List.getElem?_set_ne (Ne.symm q)]; exact e1, r1⟩
  · rw [get_put hi] at e1 e2
    by_cases q : j = i
    · subst q
      by_cases q2 : l = j
      · exact q2.symm
      · rw [if_pos rfl] at e1
        cases e1
        rw [if_neg q2] at e2
        rw [List.getElem?_set_self hl] at e3
        cases e3
        rw [List.getElem?_set_ne (Ne.symm q2)] at e4
        exact absurd e4 (no xs rfl l ys e2)
    · rw [if_neg q] at e1
      rw [List.getElem?_set_ne (Ne.symm q)] at e3
      by_cases q2 : l = i
      · subst q2
        rw [if_pos rfl] at e2
        cases e2
        rw [List.getElem?_set_self hl] at e4
        cases e4
        exact absurd e3 (no ys rfl j xs e1)
      · rw [if_neg q2] at e2
        rw [List.getElem?_set_ne (Ne.symm q2)] at e4
        exact I.dis j l xs ys w e1 e2 e3 e4
/-- a list of one's own is changed in its place -/
theorem SR.setOwn {i : Nat} {xs ys : List D} {a : Addr} {ws : List V} (I : SR K B φ G s σ H) (e : s.get i = some (.own xs)) (ea : σ[i]? = some (some (.ref a))) (r : RepA K φ G ys ws) :
    SR K B φ G (s.put i (.own ys)) σ (upd H a (.lst ws)) := by
  obtain ⟨v, e1, a', vs, e2, hb, hg, np, hh, ra⟩ := I.env i _ e
  rw [ea] at e1
  cases e1
  cases e2
  have hi : i < s.env.length := by
    unfold S.get at e
    cases q : s.env[i]? with
    | none => rw [q] at e; cases e
    | some _ => exact (List.getElem?_eq_some_iff.mp q).1
  have ng : ∀ b o, G b = some o → b ≠ a := fun b o q => ne_of_none q hg
  refine ⟨⟨I.ext.pre, I.ext.same, fun b o q n => ?_, I.ext.newG, I.ext.newP⟩, fun b o q => by rw [upd_ne (ng b o q)]; exact I.same b o q, ⟨I.st.len, I.st.nd, fun n ds q => ?_⟩, fun j sl q => ?_, fun j l zs ys' w e1 e2 e3 e4 => ?_, by simp [S.put, I.len]⟩
  · rw [upd_ne (ne_of_none q hb)]; exact I.ext.frame b o q n
  · obtain ⟨b, us, q1, q2, q3, q4⟩ := I.st.cell n ds q
    have ne : b ≠ a := fun z => np (z ▸ List.mem_of_getElem? q1)
    exact ⟨b, us, q1, q2, by rw [upd_ne ne]; exact q3, q4⟩
  · rw [get_put hi] at q
    by_cases z : j = i
    · subst z
      rw [if_pos rfl] at q
      cases q
      exact ⟨.ref a, ea, a, ws, rfl, hb, hg, np, upd_same, r⟩
    · rw [if_neg z] at q
      obtain ⟨w, w1, w2⟩ := I.env j sl q
      refine ⟨w, w1, ?_⟩
      cases sl with
      | val d => exact w2
      | own zs =>
        obtain ⟨b, us, r1, r2, r3, r4, r5, r6⟩ := w2
        subst r1
        have ne : b ≠ a := fun y => by
          subst y
          exact z (I.dis j i zs xs _ q e w1 ea)
        exact ⟨b, us, rfl, r2, r3, r4, by rw [upd_ne ne]; exact r5, r6⟩
      | ro zs => exact w2
  · rw [get_put hi] at e1 e2
    have f1 : ∃ us, s.get j = some (.own us) := by
      by_cases z : j = i
      · exact ⟨xs, by rw [z]; exact e⟩
      · rw [if_neg z] at e1; exact ⟨_, e1⟩
    have f2 : ∃ us, s.get l = some (.own us) := by
      by_cases z : l = i
      · exact ⟨xs, by rw [z]; exact e⟩
      · rw [if_neg z] at e2; exact ⟨_, e2⟩
    obtain ⟨us1, f1⟩ := f1
    obtain ⟨us2, f2⟩ := f2
    exact I.dis j l us1 us2 w f1 f2 e3 e4
end

/-! targets -/
section
variable {c : CC} {k : Nat} {C : Ctx} {X : Cx} {e : Expr} {ce : CE}
def WG (X : Cx) (t : Expr) : TG := fun v σ H Q => ∀ (pins : List (Addr × Obj)) (s : Shared) (u : Value), Inv X pins σ H s → RelV v u → wpAny (model X.prog X.w) X.A (assign t X.env u) (fun _ s' => ∃ σ' H', Inv X pins σ' H' s' ∧ Q σ' H') X.xe s
theorem pg_WG {t : Expr} : PG X t (WG X t) := ⟨fun pins s σ H v u Q I r h => h pins s u I r⟩
theorem wg_of {t : Expr} {g : TG} {v : V} {σ : L2.St} {H : Hp} {Q : L2.St → Hp → Prop} (h : PG X t g) (q : g v σ H Q) : WG X t v σ H Q := fun pins s u I r => h.run pins s σ H v u Q I r q
/-- a target takes a value -/
def SGo (X : Cx) (t : Expr) (ct : CT) : Prop := ∀ (B : Bs) (φ : List Addr) (G : Hp) (s : S) (σ : L2.St) (H : Hp) (r : RX) (v : V) (s' : S), SR X.K B φ G s σ H → RRX X.K B φ G s σ H r v → asgT ct r s = some s' →
  ∀ Q : L2.St → Hp → Prop, (∀ σ', SR X.K B φ G s' σ' H → (∀ j, j ∉ tgtS ct → σ'[j]? = σ[j]?) → σ'.length = σ.length → Q σ' H) → WG X t v σ H Q
def SGs (X : Cx) (ts : List Expr) (cts : CTs) : Prop := ∀ (B : Bs) (φ : List Addr) (G : Hp) (s : S) (σ : L2.St) (H : Hp) (ds : List D) (vs : List V) (s' : S), SR X.K B φ G s σ H → RepA X.K φ G ds vs → asgTs cts ds s = some s' →
  ∀ Q : L2.St → Hp → Prop, (∀ σ', SR X.K B φ G s' σ' H → (∀ j, j ∉ tgtSs cts → σ'[j]? = σ[j]?) → σ'.length = σ.length → Q σ' H) →
    ∀ (pins : List (Addr × Obj)) (sh : Shared) (us : List Value), Inv X pins σ H sh → Vals vs us → wpAny (model X.prog X.w) X.A (assignInOrder ((assignEach ts X.env).map (·.2)) us) (fun _ s' => ∃ σ' H', Inv X pins σ' H' s' ∧ Q σ' H') X.xe sh
end
end DE
end

section
set_option Elab.async false
set_option linter.all false
set_option maxRecDepth 100000
set_option maxHeartbeats 1000000
namespace DE
open PySem L2 PySem.Spec PyProof.Rows
section
variable {c : CC} {k : Nat} {C : Ctx} {X : Cx} {e : Expr} {ce : CE}
theorem put?_ok {s s' : S} {i : Nat} {x : Slot} (h : s.put? i x = some s') : i < s.env.length ∧ s' = s.put i x := by
  unfold S.put? at h
  split at h
  · cases h; exact ⟨by assumption, rfl⟩
  · cases h
theorem asgN {K : PySem.W.Frag} {B : Bs} {φ : List Addr} {G H : Hp} {s s' : S} {σ : L2.St} {r : RX} {v : V} {i : Nat} (I : SR K B φ G s σ H) (rv : RRX K B φ G s σ H r v) (ev : asgT (.name i) r s = some s') : SR K B φ G s' (σ.set i (some v)) H := by
  cases r with
  | d d =>
    obtain ⟨hl, rfl⟩ := put?_ok (show s.put? i (.val d) = some s' by simpa [asgT] using ev)
    exact I.put hl rv (fun xs h => by cases h)
  | fr xs =>
    obtain ⟨hl, rfl⟩ := put?_ok (show s.put? i (.own xs) = some s' by simpa [asgT] using ev)
    obtain ⟨p, vs, rfl, b, g1, np, h, ra, no⟩ := rv
    exact I.put hl ⟨p, vs, rfl, b, g1, np, h, ra⟩ fun ys h j zs e => by
      cases h
      exact no j zs e
theorem name_sg {x : Str} {pos : Pos} {i : Nat} (g : Good c k C.call X) (hl : locB c.sc x = true) (hf : (c.fnb x || isLocal c.sc x) = true) (hs : slotOf c x = some i) : SGo X (.Name x pos) (.name i) := by
  intro B φ G s σ H r v s' I rv ev Q q
  have hfn : X.fn x = true ∨ X.env.scope.names.lookup x = some .local := by
    rw [Bool.or_eq_true] at hf
    rcases hf with h | h
    · exact .inl (g.fnv x h)
    · refine .inr ?_
      unfold isLocal at h
      rw [g.sc]
      split at h
      · assumption
      · cases h
  have hN : X.N.Nodup := by rw [g.hN]; exact g.nd
  have hi : X.N[i]? = some x := by rw [g.hN]; exact (slotOf_ok hs).1
  have hx : Loc X.env.scope x := by rw [g.sc]; exact locB_loc hl
  have key : ∀ sl, s.put? i sl = some s' → SlR X.K B φ G H sl v → (∀ xs, sl = .own xs → ∀ (j : Nat) (ys : List D), s.get j = some (.own ys) → σ[j]? ≠ some (some v)) → WG X (.Name x pos) v σ H Q := by
    intro sl e1 e2 e3
    obtain ⟨hlen, rfl⟩ := put?_ok e1
    refine wg_of (pg_name (i := i) hN hi hx hfn) ?_
    refine q _ (I.put hlen e2 e3) (fun j hj => ?_) (by simp)
    have hj' : j ≠ i := by simpa [tgtS] using hj
    rw [List.getElem?_set_ne (Ne.symm hj')]
  cases r with
  | d d => exact key (.val d) (by simpa [asgT] using ev) rv (fun xs h => by cases h)
  | fr xs =>
    obtain ⟨p, vs, rfl, b, g1, np, h, ra, no⟩ := rv
    exact key (.own xs) (by simpa [asgT] using ev) ⟨p, vs, rfl, b, g1, np, h, ra⟩ fun ys h j zs e => by
      cases h
      exact no j zs e
theorem nil_sgs : SGs X [] .nil := by
  intro B φ G s σ H ds vs s' I rv ev Q q pins sh us J rr
  cases rv with
  | nil =>
    simp only [asgTs] at ev
    cases ev
    exact pgs_nil.run pins sh σ H [] us Q J rr ⟨rfl, q σ I (fun _ _ => rfl) rfl⟩
  | cons _ _ => simp [asgTs] at ev
theorem cons_sgs {t : Expr} {ts : List Expr} {ct : CT} {cts : CTs} (h : SGo X t ct) (hr : SGs X ts cts)
    (hs : (assignEach (t :: ts) X.env).map (·.2) = assign t X.env :: (assignEach ts X.env).map (·.2)) : SGs X (t :: ts) (.cons ct cts) := by
  intro B φ G s σ H ds vs s' I rv ev Q q pins sh us J rr
  cases rv with
  | nil => simp [asgTs] at ev
  | @cons d v ds vs r1 r2 =>
    cases rr with
    | @cons _ u _ us' q1 q2 =>
      simp only [asgTs] at ev
      obtain ⟨s1, e1, ev⟩ := obindOk ev
      rw [hs]
      refine assignInOrder_cons (thn (h B φ G s σ H (.d d) v s1 I r1 e1 (fun σ1 H1 => H1 = H ∧ SR X.K B φ G s1 σ1 H ∧ (∀ j, j ∉ tgtS ct → σ1[j]? = σ[j]?) ∧ σ1.length = σ.length) (fun σ1 I1 k1 k2 => ⟨rfl, I1, k1, k2⟩) pins sh u J q1) fun _ sh1 z => ?_)
      obtain ⟨σ1, H1, J1, rfl, I1, k1, k2⟩ := z
      refine hr B φ G s1 σ1 H1 ds vs s' I1 r2 ev Q (fun σ2 I2 l1 l2 => q σ2 I2 (fun j hj => ?_) (l2.trans k2)) pins sh1 us' J1 q2
      simp only [tgtSs, List.mem_append, not_or] at hj
      rw [l1 j hj.2, k1 j hj.1]
theorem tup_sg {ts : List Expr} {cts : CTs} {n : Nat} {pos : Pos} (g : Good c k C.call X) (h : SGs X ts cts) (hl : ∀ ds s s', asgTs cts ds s = some s' → ds.length = ts.length)
    (hn : (assignEach ts X.env).length = ts.length) (hst : (assignEach ts X.env).findIdx? (·.1) = none) : SGo X (.Tuple ts n pos) (.tup cts) := by
  intro B φ G s σ H r v s' I rv ev Q q
  cases r with
  | fr xs => simp [asgT] at ev
  | d d =>
    cases d with
    | tup xs =>
      simp only [asgT] at ev
      have rv' : Rep X.K φ G (.tup xs) v := rv
      cases rv' with
      | @tup a vs _ ht ra =>
        intro pins sh u J ru
        cases ru
        obtain ⟨its, rv2, ht2, hz⟩ := J.tuple (sqT_same I.same ht)
        have e1 : xs.length = ts.length := hl xs s s' ev
        refine assign_Tuple_tuple (J.ok.hd g.calm) ht2 (by have := rv2.length; have := ra.length; simp; omega) hst fun h' hx => ?_
        have J1 : Inv X pins σ H { sh with heap := h' } := J.kept (t' := sh.toks) fun b o e => hx b o (Nat.ne_of_lt (Heap.lt_size e)) e
        have := h B φ G s σ H xs vs s' I ra ev Q q pins _ its J1 rv2
        simpa using this
    | _ => simp [asgT] at ev
/-- the targets of the compile step -/
theorem star_as {t : Expr} {m : Nat} {ct : CT} (h : compT c m t = some ct) (ts : List Expr) (env : PySem.Env) : assignEach (t :: ts) env = (false, assign t env) :: assignEach ts env := by
  cases m with
  | zero => simp [compT] at h
  | succ m => cases t <;> first | rfl | simp [compT] at h
theorem compTs_each : ∀ {m : Nat} {ts : List Expr} {cts : CTs} (env : PySem.Env), compTs c m ts = some cts → (assignEach ts env).length = ts.length ∧ (assignEach ts env).findIdx? (·.1) = none ∧ ∀ ds s s', asgTs cts ds s = some s' → ds.length = ts.length
  | 0, _, _, _, h => by simp [compTs] at h
  | m + 1, [], cts, env, h => by
    simp only [compTs] at h
    cases h
    refine ⟨rfl, rfl, fun ds s s' e => ?_⟩
    cases ds with
    | nil => rfl
    | cons _ _ => simp [asgTs] at e
  | m + 1, t :: ts, cts, env, h => by
    simp only [compTs] at h
    obtain ⟨ct, h1, h⟩ := obindOk h
    obtain ⟨cts', h2, rfl⟩ := omapOk h
    obtain ⟨e1, e2, e3⟩ := compTs_each env h2
    rw [star_as h1]
    refine ⟨by simp [e1], by rw [List.findIdx?_cons, e2]; rfl, fun ds s s' e => ?_⟩
    cases ds with
    | nil => simp [asgTs] at e
    | cons d ds =>
      simp only [asgTs] at e
      obtain ⟨s1, _, e⟩ := obindOk e
      simp [e3 ds s1 s' e]
mutual
theorem compT_sg (g : Good c k C.call X) : ∀ (m : Nat) (t : Expr) (ct : CT), compT c m t = some ct → SGo X t ct
  | 0, _, _, h => by simp [compT] at h
  | m + 1, t, ct, h => by
    cases t <;> simp only [compT] at h <;> try cases h
    case Name x pos =>
      split at h
      · rename_i q
        rw [Bool.and_eq_true] at q
        obtain ⟨i, h1, rfl⟩ := omapOk h
        exact name_sg g q.1 q.2 h1
      · cases h
    case Tuple es n pos =>
      obtain ⟨cts, h1, rfl⟩ := omapOk h
      obtain ⟨e1, e2, e3⟩ := compTs_each X.env h1
      exact tup_sg g (compTs_sg g m es cts h1) e3 e1 e2
theorem compTs_sg (g : Good c k C.call X) : ∀ (m : Nat) (ts : List Expr) (cts : CTs), compTs c m ts = some cts → SGs X ts cts
  | 0, _, _, h => by simp [compTs] at h
  | m + 1, [], cts, h => by
    simp only [compTs] at h
    cases h
    exact nil_sgs
  | m + 1, t :: ts, cts, h => by
    simp only [compTs] at h
    obtain ⟨ct, h1, h⟩ := obindOk h
    obtain ⟨cts', h2, rfl⟩ := omapOk h
    exact cons_sgs (compT_sg g m t ct h1) (compTs_sg g m ts cts' h2) (by rw [star_as h1]; rfl)
end
end
end DE
end

section
set_option Elab.async false
set_option linter.all false
set_option maxRecDepth 100000
set_option maxHeartbeats 1000000
namespace DE
open PySem L2 PySem.Spec PyProof.Rows
/-! What is walked. -/
def Wk (K : PySem.W.Frag) (φ : List Addr) (G H : Hp) (J : It) (items : List D) (pk : Bool) : Prop :=
  ∀ φ' G' H', φ <+: φ' → Same G G' → Same G' H' → (pk = true → Ext φ G H φ' G' H') → ∀ i : Nat,
    (∀ d, items[i]? = some d → J.go i H' ∧ ∀ x H'', J.yld i H' x H'' → ∃ G'', ((H'' = H' ∧ G'' = G') ∨ ∃ T o, H' T = none ∧ H'' = upd H' T o ∧ G'' = upd G' T o) ∧ Rep K φ' G'' d x) ∧
    (items.length ≤ i → J.stop i H')
def WI (X : Cx) (tg it : Expr) : TI := fun σ H R => ∀ (pins : List (Addr × Obj)) (s : Shared), Inv X pins σ H s →
  wpAny (model X.prog X.w) X.A (eval it X.env) (fun v s1 => wpAny (model X.prog X.w) X.A (pyIter v) (PIE X pins σ tg R) X.xe s1) X.xe s
theorem pi_WI {X : Cx} {tg it : Expr} : PI X tg it (WI X tg it) := ⟨fun pins s σ H R I h => h pins s I⟩
theorem wi_of {X : Cx} {tg it : Expr} {wi : TI} {σ : L2.St} {H : Hp} {R : It → Hp → Prop} (h : PI X tg it wi) (q : wi σ H R) : WI X tg it σ H R := fun pins s I => h.run pins s σ H R I q
def SIt (C : Ctx) (X : Cx) (tg it : Expr) (ci : CI) (pk : Bool) : Prop := ∀ (B : Bs) (φ : List Addr) (G : Hp) (s : S) (σ : L2.St) (H : Hp) (items : List D) (s1 : S), SR X.K B φ G s σ H → evI C ci s = .ok items s1 →
  WI X tg it σ H fun J H1 => ∃ φ1 G1, φ <+: φ1 ∧ Same G G1 ∧ SR X.K B φ1 G1 s1 σ H1 ∧ Wk X.K φ1 G1 H1 J items pk
section
variable {K : PySem.W.Frag} {B : Bs} {φ φ' : List Addr} {G G' H H' : Hp} {s s' : S} {σ : L2.St}
end
section
variable {c : CC} {k : Nat} {C : Ctx} {X : Cx} {e : Expr} {ce : CE}
/-- where an operand's list stands later -/
theorem RepH.later {K : PySem.W.Frag} {φ φ' : List Addr} {G G' H H' : Hp} {xs : List D} {v : V} {pk : Bool} (r : RepH K φ G H (.lst xs) v) (np : pk = false → Rep K φ G (.lst xs) v) (p : φ <+: φ') (sg : Same G G') (sm : Same G' H') (x : pk = true → Ext φ G H φ' G' H') :
    ∃ a vs, v = .ref a ∧ H' a = some (.lst vs) ∧ RepA K φ' G' xs vs := by
  have one : Rep K φ G (.lst xs) v → ∃ a vs, v = .ref a ∧ H' a = some (.lst vs) ∧ RepA K φ' G' xs vs := fun r => by
    cases r with
    | lst h ra => exact ⟨_, _, rfl, sm _ _ (sg _ _ h), RepA.mono p sg ra⟩
  cases pk with
  | false => exact one (np rfl)
  | true =>
    rcases r with r | ⟨ys, a, vs, e, rfl, h, ra, na⟩
    · exact one r
    · cases e
      exact ⟨a, vs, rfl, (x rfl).frame a _ h na, RepA.mono p sg ra⟩
/-! the kinds -/
theorem wk_list {K : PySem.W.Frag} {φ : List Addr} {G H : Hp} {xs : List D} {a : Addr} {pk : Bool} (r : RepH K φ G H (.lst xs) (.ref a)) (np : pk = false → Rep K φ G (.lst xs) (.ref a)) : Wk K φ G H (Itl K a) xs pk := by
  intro φ' G' H' p sg sm x i
  obtain ⟨b, vs, e, h, ra⟩ := r.later np p sg sm x
  cases e
  refine ⟨fun d hd => ?_, fun hl => ⟨vs, SqL.of h, by rw [← ra.length]; exact hl⟩⟩
  obtain ⟨v, hv, rv⟩ := ra.get hd
  refine ⟨⟨vs, v, SqL.of h, hv⟩, fun y H'' q => ?_⟩
  obtain ⟨rfl, q⟩ := q
  have := q vs (SqL.of h)
  rw [hv] at this
  cases this
  exact ⟨G', .inl ⟨rfl, rfl⟩, rv⟩
theorem wk_tup {K : PySem.W.Frag} {φ : List Addr} {G H : Hp} {xs : List D} {vs : List V} {a : Addr} {pk : Bool} (h : SqT K G a vs) (r : RepA K φ G xs vs) : Wk K φ G H (Itt K a) xs pk := by
  intro φ' G' H' p sg sm x i
  have h' : SqT K H' a vs := sqT_same sm (sqT_same sg h)
  have ra : RepA K φ' G' xs vs := RepA.mono p sg r
  refine ⟨fun d hd => ?_, fun hl => ⟨vs, h', by rw [← ra.length]; exact hl⟩⟩
  obtain ⟨v, hv, rv⟩ := ra.get hd
  refine ⟨⟨vs, v, h', hv⟩, fun y H'' q => ?_⟩
  obtain ⟨rfl, q⟩ := q
  have := q vs h'
  rw [hv] at this
  cases this
  exact ⟨G', .inl ⟨rfl, rfl⟩, rv⟩
theorem wk_range {K : PySem.W.Frag} {φ : List Addr} {G H : Hp} {lo : Int} {n : Nat} {pk : Bool} : Wk K φ G H (Itr lo n) (rangeD lo n) pk := by
  intro φ' G' H' p sg sm x i
  have hl : (rangeD lo n).length = n := by simp [rangeD]
  refine ⟨fun d hd => ?_, fun q => by rw [hl] at q; exact q⟩
  have hi : i < n := by
    have := (List.getElem?_eq_some_iff.mp hd).1
    omega
  refine ⟨hi, fun y H'' q => ?_⟩
  obtain ⟨rfl, rfl⟩ := q
  unfold rangeD at hd
  rw [List.getElem?_map, List.getElem?_range hi] at hd
  cases hd
  exact ⟨G', .inl ⟨rfl, rfl⟩, .int _⟩
theorem enumF_get : ∀ (xs : List D) (n i : Nat) (d : D), (enumF n xs)[i]? = some d → ∃ x, xs[i]? = some x ∧ d = .tup [.int ((n + i : Nat) : Int), x]
  | [], n, i, d, h => by simp [enumF] at h
  | x :: r, n, 0, d, h => by
    simp [enumF] at h
    exact ⟨x, rfl, h.symm⟩
  | x :: r, n, i + 1, d, h => by
    simp only [enumF, List.getElem?_cons_succ] at h ⊢
    obtain ⟨y, h1, h2⟩ := enumF_get r (n + 1) i d h
    exact ⟨y, h1, by rw [h2]; congr 4; omega⟩
theorem enumF_len : ∀ (xs : List D) (n : Nat), (enumF n xs).length = xs.length
  | [], _ => rfl
  | x :: r, n => by simp [enumF, enumF_len r]
theorem wk_enum {K : PySem.W.Frag} {φ : List Addr} {G H : Hp} {xs : List D} {a : Addr} {pk : Bool} (r : RepH K φ G H (.lst xs) (.ref a)) (np : pk = false → Rep K φ G (.lst xs) (.ref a)) : Wk K φ G H (Ite K a) (enumD xs) pk := by
  intro φ' G' H' p sg sm x i
  obtain ⟨b, vs, e, h, ra⟩ := r.later np p sg sm x
  cases e
  refine ⟨fun d hd => ?_, fun hl => ⟨vs, SqL.of h, by rw [← ra.length, ← enumF_len xs 0]; exact hl⟩⟩
  obtain ⟨y, hy, rfl⟩ := enumF_get xs 0 i d hd
  obtain ⟨v, hv, rv⟩ := ra.get hy
  refine ⟨⟨vs, v, SqL.of h, hv⟩, fun z H'' q => ?_⟩
  obtain ⟨T, u, rfl, hT, rfl, q⟩ := q
  have := q vs (SqL.of h)
  rw [hv] at this
  cases this
  refine ⟨upd G' T (.tup [.int (i : Nat), v]), .inr ⟨T, _, hT, rfl, rfl⟩, ?_⟩
  rw [Nat.zero_add]
  exact .tup (.inl (.inl upd_same)) (RepA.mono List.prefix_rfl (same_upd hT sm) (.cons (.int _) (.cons rv .nil)))
theorem zipD_get : ∀ (xs ys : List D) (i : Nat) (d : D), (zipD xs ys)[i]? = some d → ∃ x y, xs[i]? = some x ∧ ys[i]? = some y ∧ d = .tup [x, y]
  | [], _, i, d, h => by simp [zipD] at h
  | _ :: _, [], i, d, h => by simp [zipD] at h
  | x :: xs, y :: ys, 0, d, h => by
    simp [zipD] at h
    exact ⟨x, y, rfl, rfl, h.symm⟩
  | x :: xs, y :: ys, i + 1, d, h => by
    simp only [zipD, List.getElem?_cons_succ] at h ⊢
    exact zipD_get xs ys i d h
theorem zipD_len : ∀ (xs ys : List D) (i : Nat), (zipD xs ys).length ≤ i → xs.length ≤ i ∨ ys.length ≤ i
  | [], _, i, h => .inl (by simp)
  | _ :: _, [], i, h => .inr (by simp)
  | x :: xs, y :: ys, 0, h => by simp [zipD] at h
  | x :: xs, y :: ys, i + 1, h => by
    simp only [zipD, List.length_cons] at h ⊢
    rcases zipD_len xs ys i (by omega) with q | q
    · exact .inl (by omega)
    · exact .inr (by omega)
theorem wk_zip {K : PySem.W.Frag} {φ : List Addr} {G H : Hp} {xs ys : List D} {a b : Addr} {pk : Bool} (r : RepH K φ G H (.lst xs) (.ref a)) (np : pk = false → Rep K φ G (.lst xs) (.ref a))
    (r2 : RepH K φ G H (.lst ys) (.ref b)) (np2 : pk = false → Rep K φ G (.lst ys) (.ref b)) : Wk K φ G H (Itz K a b) (zipD xs ys) pk := by
  intro φ' G' H' p sg sm x i
  obtain ⟨_, vs, e, h, ra⟩ := r.later np p sg sm x
  cases e
  obtain ⟨_, ws, e, h2, ra2⟩ := r2.later np2 p sg sm x
  cases e
  refine ⟨fun d hd => ?_, fun hl => ⟨vs, ws, SqL.of h, SqL.of h2, by rw [← ra.length, ← ra2.length]; exact zipD_len xs ys i hl⟩⟩
  obtain ⟨y1, y2, hy1, hy2, rfl⟩ := zipD_get xs ys i d hd
  obtain ⟨v, hv, rv⟩ := ra.get hy1
  obtain ⟨w, hw, rw'⟩ := ra2.get hy2
  refine ⟨⟨vs, ws, v, w, SqL.of h, SqL.of h2, hv, hw⟩, fun z H'' q => ?_⟩
  obtain ⟨T, u1, u2, rfl, hT, rfl, q1, q2⟩ := q
  have e1 := q1 vs (SqL.of h)
  have e2 := q2 ws (SqL.of h2)
  rw [hv] at e1
  rw [hw] at e2
  cases e1
  cases e2
  exact ⟨upd G' T (.tup [v, w]), .inr ⟨T, _, hT, rfl, rfl⟩, .tup (.inl (.inl upd_same)) (RepA.mono List.prefix_rfl (same_upd hT sm) (.cons rv (.cons rw' .nil)))⟩
theorem wk_zipT {K : PySem.W.Frag} {φ : List Addr} {G H : Hp} {xs ys : List D} {vs ws : List V} {a b : Addr} {pk : Bool} (h : SqT K G a vs) (r : RepA K φ G xs vs) (h2 : SqT K G b ws) (r2 : RepA K φ G ys ws) : Wk K φ G H (RZ.ItzT K a b) (zipD xs ys) pk := by
  intro φ' G' H' p sg sm x i
  have k1 : SqT K H' a vs := sqT_same sm (sqT_same sg h)
  have k2 : SqT K H' b ws := sqT_same sm (sqT_same sg h2)
  have ra : RepA K φ' G' xs vs := RepA.mono p sg r
  have ra2 : RepA K φ' G' ys ws := RepA.mono p sg r2
  refine ⟨fun d hd => ?_, fun hl => ⟨vs, ws, k1, k2, by rw [← ra.length, ← ra2.length]; exact zipD_len xs ys i hl⟩⟩
  obtain ⟨y1, y2, hy1, hy2, rfl⟩ := zipD_get xs ys i d hd
  obtain ⟨v, hv, rv⟩ := ra.get hy1
  obtain ⟨w, hw, rw'⟩ := ra2.get hy2
  refine ⟨⟨vs, ws, v, w, k1, k2, hv, hw⟩, fun z H'' q => ?_⟩
  obtain ⟨T, u1, u2, rfl, hT, rfl, q1, q2⟩ := q
  have e1 := q1 vs k1
  have e2 := q2 ws k2
  rw [hv] at e1
  rw [hw] at e2
  cases e1
  cases e2
  exact ⟨upd G' T (.tup [v, w]), .inr ⟨T, _, hT, rfl, rfl⟩, .tup (.inl (.inl upd_same)) (RepA.mono List.prefix_rfl (same_upd hT sm) (.cons rv (.cons rw' .nil)))⟩

theorem wk_str {K : PySem.W.Frag} {φ : List Addr} {G H : Hp} {z : Str} {pk : Bool} (hz : PyData.strOk z = true) : Wk K φ G H (Its z) (z.cps.toList.map fun c => .str ⟨#[c]⟩) pk := by
  intro φ' G' H' p sg sm x i
  refine ⟨fun d hd => ?_, fun q => ?_⟩
  · rw [List.getElem?_map, Array.getElem?_toList] at hd
    cases hc : z.cps[i]? with
    | none => rw [hc] at hd; cases hd
    | some c =>
      rw [hc] at hd
      cases hd
      have hi : i < z.cps.size := (Array.getElem?_eq_some_iff.mp hc).1
      refine ⟨hi, fun y H'' q => ?_⟩
      obtain ⟨rfl, c', h1, rfl⟩ := q
      rw [hc] at h1
      cases h1
      refine ⟨G', .inl ⟨rfl, rfl⟩, .str _ ?_⟩
      have := Array.all_eq_true'.mp hz c (Array.mem_of_getElem? hc)
      show (#[c].all (· < 0x110000)) = true
      simpa using this
  · rw [List.length_map, Array.length_toList] at q
    exact q
/-- an operand that is no look at one's own list is frozen -/
theorem asO_d {r : Res RX} {s s1 : S} {x : Op} (np : isPk ce = false) (h : asO ce r s = .ok x s1) : ∃ d, x = .d d := by
  rw [asO_np _ _ np] at h
  obtain ⟨r, s2, _, h⟩ := bindOk h
  cases h
  exact ⟨_, rfl⟩
theorem resO_np {x : Op} {s : S} {d : D} {K : PySem.W.Frag} {φ : List Addr} {G : Hp} {σ : L2.St} {v : V} (h : ∃ d, x = .d d) (r : ROp K φ G σ x v) (e : resO s x = some d) : Rep K φ G d v := by
  obtain ⟨d', rfl⟩ := h
  cases e
  exact r
theorem seq_it {tg it : Expr} {pk : Bool} (h : SE C X it ce) (np : pk = false → isPk ce = false) : SIt C X tg it (.seq ce) pk := by
  intro B φ G s σ H items s1 I ev
  simp only [evI] at ev
  obtain ⟨x, s2, e1, ev⟩ := bindOk ev
  obtain ⟨ev9, rfl⟩ := optOk ev
  obtain ⟨dx, q1, q2⟩ := obindOk ev9
  unfold seqD at q2
  split at q2
  · cases q2
    refine wi_of (pi_tup pe_WE) ?_
    refine (h.o B φ G s σ H x _ I e1).mono fun v H1 ⟨φ1, G1, p, g, I1, r⟩ => ?_
    obtain ⟨a, vs, rfl, h1, h2, ra⟩ := (r.res I1 q1).tup I1.same
    exact ⟨a, rfl, ⟨vs, h1⟩, φ1, G1, p, g, I1, wk_tup h2 ra⟩
  · cases q2
    refine wi_of (pi_list pe_WE) ?_
    refine (h.o B φ G s σ H x _ I e1).mono fun v H1 ⟨φ1, G1, p, g, I1, r⟩ => ?_
    obtain ⟨a, vs, rfl, h1, ra⟩ := (r.res I1 q1).lst I1.same
    exact ⟨a, rfl, ⟨vs, SqL.of h1⟩, φ1, G1, p, g, I1, wk_list (r.res I1 q1) fun z => resO_np (asO_d (np z) e1) r q1⟩
  · cases q2
    refine wi_of (pi_str pe_WE) ?_
    refine (h.o B φ G s σ H x _ I e1).mono fun v H1 ⟨φ1, G1, p, g, I1, r⟩ => ?_
    obtain ⟨rfl, hk⟩ := (r.res I1 q1).str
    exact ⟨_, rfl, φ1, G1, p, g, I1, wk_str hk⟩
  · cases q2
theorem range_it1 {tg a : Expr} {p pos : Pos} {pk : Bool} (g : Good c k C.call X) (hg : gloB c.sc "range" = true) (h : SE C X a ce) (hs : starEach [a] X.env = [(false, eval a X.env)]) : SIt C X tg (.Call (.Name "range" p) [a] [] pos) (.range ce) pk := by
  intro B φ G s σ H items s1 I ev
  simp only [evI] at ev
  obtain ⟨j, s2, e1, ev⟩ := bindOk ev
  split at ev
  · rename_i hj
    cases ev
    refine wi_of (pi_range1 (gloB_gl g hg) (g.bi _ (by simp [biNames])) (pa_cons pe_WE pa_nil hs) hs) ?_
    exact (si_of h.x I e1).mono fun v H1 ⟨q, φ1, G1, p, g1, I1⟩ => ⟨j, by rw [q], by omega, by omega, φ1, G1, p, g1, I1, wk_range⟩
  · cases ev
theorem range_it2 {tg a b : Expr} {cb : CE} {p pos : Pos} {pk : Bool} (g : Good c k C.call X) (hg : gloB c.sc "range" = true) (h : SE C X a ce) (h2 : SE C X b cb) (hs : starEach [a, b] X.env = [(false, eval a X.env), (false, eval b X.env)]) (hs2 : starEach [b] X.env = [(false, eval b X.env)]) :
    SIt C X tg (.Call (.Name "range" p) [a, b] [] pos) (.range2 ce cb) pk := by
  intro B φ G s σ H items s1 I ev
  simp only [evI] at ev
  obtain ⟨i, s2, e1, ev⟩ := bindOk ev
  obtain ⟨j, s3, e2, ev⟩ := bindOk ev
  split at ev
  · rename_i hj
    cases ev
    refine wi_of (pi_range2 (gloB_gl g hg) (g.bi _ (by simp [biNames])) (pa_cons pe_WE (pa_cons pe_WE pa_nil hs2) (by rw [hs, hs2])) hs hs2) ?_
    refine (si_of h.x I e1).mono fun v H1 ⟨q, φ1, G1, p, g1, I1⟩ => ?_
    exact (si_of h2.x I1 e2).mono fun v2 H2 ⟨q2, φ2, G2, p2, g2, I2⟩ => ⟨i, j, by rw [q, q2], ⟨by omega, by omega, by omega, by omega⟩, φ2, G2, p.trans p2, g1.trans g2, I2, wk_range⟩
  · cases ev
theorem enum_it {a : Expr} {elts : List Expr} {kk : Nat} {tpos p pos : Pos} {pk : Bool} (g : Good c k C.call X) (hg : gloB c.sc "enumerate" = true) (h : SE C X a ce) (np : pk = false → isPk ce = false) (hs : starEach [a] X.env = [(false, eval a X.env)]) :
    SIt C X (.Tuple elts kk tpos) (.Call (.Name "enumerate" p) [a] [] pos) (.enum ce) pk := by
  intro B φ G s σ H items s1 I ev
  simp only [evI] at ev
  obtain ⟨x, s2, e1, ev⟩ := bindOk ev
  obtain ⟨ev9, rfl⟩ := optOk ev
  obtain ⟨dx, q1, q2⟩ := obindOk ev9
  unfold enumV at q2
  split at q2
  · cases q2
    refine wi_of (pi_enum (gloB_gl g hg) (g.bi _ (by simp [biNames])) (pa_cons pe_WE pa_nil hs) hs) ?_
    refine (h.o B φ G s σ H x _ I e1).mono fun v H1 ⟨φ1, G1, p, g1, I1, r⟩ => ?_
    obtain ⟨a, vs, rfl, h1, ra⟩ := (r.res I1 q1).lst I1.same
    exact ⟨a, vs, rfl, SqL.of h1, φ1, G1, p, g1, I1, wk_enum (r.res I1 q1) fun z => resO_np (asO_d (np z) e1) r q1⟩
  · cases q2
theorem zip_it {a b : Expr} {cb : CE} {elts : List Expr} {kk : Nat} {tpos p pos : Pos} {pk : Bool} (g : Good c k C.call X) (hg : gloB c.sc "zip" = true) (h : SE C X a ce) (h2 : SE C X b cb) (np : pk = false → isPk ce = false) (np2 : pk = false → isPk cb = false)
    (hs : starEach [a, b] X.env = (false, eval a X.env) :: starEach [b] X.env) (hs2 : starEach [b] X.env = [(false, eval b X.env)]) : SIt C X (.Tuple elts kk tpos) (.Call (.Name "zip" p) [a, b] [] pos) (.zip ce cb) pk := by
  intro B φ G s σ H items s1 I ev
  simp only [evI] at ev
  obtain ⟨x, s2, e1, ev⟩ := bindOk ev
  obtain ⟨y, s3, e2, ev⟩ := bindOk ev
  obtain ⟨dx, dy, q1, q2, q3, rfl⟩ := twoOk ev
  refine wi_of (RZ.pi_zipA (gloB_gl g hg) (g.bi _ (by simp [biNames])) (pa_cons pe_WE (pa_cons pe_WE pa_nil hs2) hs) hs (by rw [hs2]; rfl)) ?_
  refine we_two h.o h2.o I e1 e2 fun φ2 G2 v u H2 p g2 I2 r1 r2 => ?_
  unfold zipV at q3
  split at q3
  · cases q3
    obtain ⟨a, vs, rfl, h1, ra⟩ := (r1.res I2 q1).lst I2.same
    obtain ⟨b, ws, rfl, k1, rb⟩ := (r2.res I2 q2).lst I2.same
    exact ⟨a, b, vs, ws, rfl, .inl ⟨SqL.of h1, SqL.of k1, φ2, G2, p, g2, I2, wk_zip (r1.res I2 q1) (fun z => resO_np (asO_d (np z) e1) r1 q1) (r2.res I2 q2) fun z => resO_np (asO_d (np2 z) e2) r2 q2⟩⟩
  · cases q3
    obtain ⟨a, vs, rfl, h1, g1, ra⟩ := (r1.res I2 q1).tup I2.same
    obtain ⟨b, ws, rfl, k1, l1, rb⟩ := (r2.res I2 q2).tup I2.same
    exact ⟨a, b, vs, ws, rfl, .inr ⟨h1, k1, φ2, G2, p, g2, I2, wk_zipT g1 ra l1 rb⟩⟩
  · cases q3
end
end DE
end

section
set_option Elab.async false
set_option linter.all false
set_option maxRecDepth 100000
set_option maxHeartbeats 2000000
namespace DE
open PySem L2 PySem.Spec PyProof.Rows
section
variable {K : PySem.W.Frag} {B : Bs} {φ φ' : List Addr} {G G' H H' : Hp} {s s' : S} {σ : L2.St}
/-! the block's slots -/
theorem wipeE_len (e : Env) : ∀ vs : List Nat, (wipeE e vs).length = e.length
  | [] => rfl
  | v :: vs => by unfold wipeE; rw [List.length_set, wipeE_len e vs]
theorem wipeE_get {e : Env} {i : Nat} {x : Slot} : ∀ {vs : List Nat}, (wipeE e vs)[i]? = some (some x) → e[i]? = some (some x) ∧ i ∉ vs
  | [], h => ⟨h, by simp⟩
  | v :: vs, h => by
    unfold wipeE at h
    by_cases hi : v = i
    · subst hi
      by_cases hv : v < (wipeE e vs).length
      · rw [List.getElem?_set_self hv] at h; cases h
      · rw [List.getElem?_eq_none (by simpa using hv)] at h; cases h
    · rw [List.getElem?_set_ne hi] at h
      obtain ⟨h1, h2⟩ := wipeE_get h
      exact ⟨h1, by simp only [List.mem_cons, not_or]; exact ⟨fun e => hi e.symm, h2⟩⟩
theorem wipe_out' {σ : L2.St} {i : Nat} : ∀ {vs : List Nat}, i ∉ vs → (wipe σ vs)[i]? = σ[i]?
  | [], _ => rfl
  | v :: vs, h => by
    simp only [List.mem_cons, not_or] at h
    unfold wipe
    rw [List.getElem?_set_ne (Ne.symm h.1), wipe_out' h.2]
theorem wipe_in {σ : L2.St} {i : Nat} : ∀ {vs : List Nat}, i ∈ vs → i < σ.length → (wipe σ vs)[i]? = some none
  | v :: vs, h, hl => by
    unfold wipe
    by_cases e : v = i
    · subst e
      rw [List.getElem?_set_self (by rw [wipe_length]; exact hl)]
    · rw [List.getElem?_set_ne e]
      rcases List.mem_cons.mp h with q | q
      · exact absurd q.symm e
      · exact wipe_in q hl
theorem wipe_same {σ σ2 : L2.St} {vs : List Nat} (hl : σ2.length = σ.length) (h : ∀ j, j ∉ vs → σ2[j]? = σ[j]?) : wipe σ2 vs = wipe σ vs := by
  apply List.ext_getElem?
  intro i
  by_cases q : i ∈ vs
  · by_cases hi : i < σ.length
    · rw [wipe_in q (by omega), wipe_in q hi]
    · rw [List.getElem?_eq_none (by rw [wipe_length]; omega), List.getElem?_eq_none (by rw [wipe_length]; omega)]
  · rw [wipe_out' q, wipe_out' q, h i q]
theorem wipe_idem {σ : L2.St} {vs : List Nat} : wipe (wipe σ vs) vs = wipe σ vs := wipe_same (wipe_length _ _) fun j hj => wipe_out' hj
theorem compEnv_get {own : List Nat} {st : Store} {i : Nat} {x : Slot} (h : (⟨compEnv own s.env, st⟩ : S).get i = some x) : i ∉ own ∧ ∃ y, s.get i = some y ∧ (x = y ∨ ∃ xs, y = .own xs ∧ x = .ro xs) ∧ ∀ xs, x ≠ .own xs := by
  have h' : (wipeE (s.env.map roS) own)[i]? = some (some x) := by
    have h0 : ((wipeE (s.env.map roS) own)[i]?).bind id = some x := h
    cases q : (wipeE (s.env.map roS) own)[i]? with
    | none => rw [q] at h0; cases h0
    | some o => rw [q] at h0; have : o = some x := h0; rw [this]
  obtain ⟨h1, h2⟩ := wipeE_get h'
  rw [List.getElem?_map] at h1
  refine ⟨h2, ?_⟩
  cases q : s.env[i]? with
  | none => rw [q] at h1; cases h1
  | some o =>
    rw [q] at h1
    have h3 : roS o = some x := Option.some.inj h1
    cases o with
    | none => cases h3
    | some y =>
      refine ⟨y, by unfold S.get; rw [q]; rfl, ?_⟩
      cases y with
      | val d => cases h3; exact ⟨.inl rfl, fun _ z => by cases z⟩
      | own xs => cases h3; exact ⟨.inr ⟨xs, rfl, rfl⟩, fun _ z => by cases z⟩
      | ro xs => cases h3; exact ⟨.inl rfl, fun _ z => by cases z⟩
/-- a block begins: what is one's own is only read -/
theorem SR.block {φ1 : List Addr} {G1 H1 : Hp} {st : Store} {own : List Nat} (I : SR K B φ1 G1 s σ H1) (x : Ext φ1 G1 H1 φ G H) (sm : Same G H) (st' : StR K φ G st H) :
    SR K ⟨φ, G, H⟩ φ G ⟨compEnv own s.env, st⟩ (wipe σ own) H := by
  refine ⟨Ext.refl _ _ _, sm, st', fun i sl e => ?_, fun i j xs ys v e1 _ _ _ => ?_, ?_⟩
  · obtain ⟨hi, y, e1, e2, _⟩ := compEnv_get e
    obtain ⟨v, e3, r⟩ := I.env i y e1
    refine ⟨v, by rw [wipe_out' hi]; exact e3, ?_⟩
    have far : ∀ (a : Addr) (vs : List V), H1 a = some (.lst vs) → a ∉ φ1 → H a = some (.lst vs) ∧ a ∉ φ := fun a vs h n => ⟨x.frame a _ h n, fun z => by
      rcases x.newP a z with z | z
      · exact n z
      · rw [h] at z; cases z⟩
    rcases e2 with rfl | ⟨xs, rfl, rfl⟩
    · cases sl with
      | val d => exact Rep.mono x.pre x.same r
      | own xs => exact absurd rfl ((compEnv_get e).2.choose_spec.2.2 xs)
      | ro xs =>
        obtain ⟨a, vs, q1, q2, q3, q4⟩ := r
        have h1 := I.ext.frame a _ q2 q3
        have n1 : a ∉ φ1 := fun z => by
          rcases I.ext.newP a z with z | z
          · exact q3 z
          · rw [q2] at z; cases z
        obtain ⟨f1, f2⟩ := far a vs h1 n1
        exact ⟨a, vs, q1, f1, f2, RepA.mono x.pre x.same q4⟩
    · obtain ⟨a, vs, q1, q2, q3, q4, q5, q6⟩ := r
      obtain ⟨f1, f2⟩ := far a vs q5 q4
      exact ⟨a, vs, q1, f1, f2, RepA.mono x.pre x.same q6⟩
  · exact absurd rfl ((compEnv_get e1).2.choose_spec.2.2 xs)
  · show (wipeE _ _).length = _
    rw [wipeE_len, wipe_length, List.length_map, I.len]
/-- the list at D, made after the base, is changed -/
theorem Ext.at {φ1 : List Addr} {G1 H1 : Hp} {D : Addr} {o : HO} (x : Ext φ1 G1 H1 φ G H) (hD : H1 D = none) : Ext φ1 G1 H1 φ G (upd H D o) :=
  ⟨x.pre, x.same, fun a u e n => by rw [upd_ne (ne_of_none e hD)]; exact x.frame a u e n, x.newG, x.newP⟩
theorem StR.at' {st : Store} {D : Addr} {o : HO} (h : StR K φ G st H) (nD : D ∉ φ) : StR K φ G st (upd H D o) := by
  refine ⟨h.len, h.nd, fun n ds e => ?_⟩
  obtain ⟨a, vs, e1, g, q, r⟩ := h.cell n ds e
  have ne : a ≠ D := fun z => nD (z ▸ List.mem_of_getElem? e1)
  exact ⟨a, vs, e1, g, by rw [upd_ne ne]; exact q, r⟩
theorem same_at {D : Addr} {o : HO} (sm : Same G H) (g : G D = none) : Same G (upd H D o) := fun a u e => by
  rw [upd_ne (ne_of_none e g)]; exact sm a u e
end

section
variable {c : CC} {k : Nat} {C : Ctx} {X : Cx} {e : Expr} {ce : CE}
def STs (C : Ctx) (X : Cx) (es : List Expr) (ces : CEs) : Prop := ∀ (B : Bs) (φ : List Addr) (G : Hp) (s : S) (σ : L2.St) (H : Hp) (b : Bool) (s' : S), SR X.K B φ G s σ H → evBs C ces s = .ok b s' →
  ∀ (pins : List (Addr × Obj)) (sh : Shared), Inv X pins σ H sh →
    wpAny (model X.prog X.w) X.A (forIn es true fun c r => if r = true then do let ok ← isTrue c X.env (eval c X.env); pure (ForInStep.yield ok) else pure (ForInStep.yield r)) (TP X pins σ (PB X.K B φ G σ b s')) X.xe sh
theorem nil_sts : STs C X [] .nil := by
  intro B φ G s σ H b s' I ev pins sh J
  simp only [evBs] at ev
  cases ev
  exact pts_nil.run pins sh σ H _ J ⟨rfl, φ, G, List.prefix_rfl, Same.refl _, I⟩
theorem one_sts (h : SE C X e ce) : STs C X [e] (.cons ce .nil) := by
  intro B φ G s σ H b s' I ev pins sh J
  simp only [evBs] at ev
  exact (pts_one pt_WT).run pins sh σ H _ J (h.t B φ G s σ H b s' I ev)
/-- uniform over the blocks -/
structure BlkX (X Y : Cx) (scope : Scope) : Prop where
  ex : ∃ s H D cl fp, Y = X.blk s H scope (compEnvC scope cl D X.env) fp
theorem Good.blk {scope : Scope} {Y : Cx} (g : Good c k C.call X) (h : BlkX X Y scope) : Good (blkCC c scope) k C.call Y := by
  obtain ⟨s, H, D, cl, fp, rfl⟩ := h.ex
  refine ⟨g.hN, g.nd, ?_, g.calm, PassesOwn.never, ?_, g.room, g.bi, g.glb, g.fn⟩
  · show relabel scope X.env = relS scope c.sc
    rw [← g.sc]; rfl
  · intro x hx; exact hx
theorem BlkX.same {scope : Scope} {Y : Cx} (h : BlkX X Y scope) : Y.K = X.K := by
  obtain ⟨s, H, D, cl, fp, rfl⟩ := h.ex
  rfl
/-- THE COMPREHENSION -/
theorem comp_core {scope : Scope} {tg it elt : Expr} {ifs : List Expr} {ct : CT} {ci : CI} {cs : CEs} {own : List Nat} (g : Good c k C.call X)
    (hi : SIt C X tg it ci true) (hg : ∀ Y, BlkX X Y scope → SGo Y tg ct) (ht : ∀ Y, BlkX X Y scope → STs C Y ifs cs) (he : ∀ Y, BlkX X Y scope → SE C Y elt ce)
    (hown : ∀ j ∈ tgtS ct, j ∈ own) {B : Bs} {φ : List Addr} {G : Hp} {s : S} {σ : L2.St} {H : Hp} {r : RX} {s' : S} (I : SR X.K B φ G s σ H) (ev : evX C (.comp own ct ci cs ce) s = .ok r s') {Qf : VK} (hQ : ∀ v H', PX X.K B φ G σ r s' v H' → Qf v H') :
    tLc (WI X tg it) (fun v σ H Q => ∀ Y, BlkX X Y scope → WG Y tg v σ H Q)
      (fun σ H Q => ∀ Y, BlkX X Y scope → ∀ (pins : List (Addr × Obj)) (sh : Shared), Inv Y pins σ H sh →
        wpAny (model Y.prog Y.w) Y.A (forIn ifs true fun c r => if r = true then do let ok ← isTrue c Y.env (eval c Y.env); pure (ForInStep.yield ok) else pure (ForInStep.yield r)) (TP Y pins σ Q) Y.xe sh)
      (fun σ H Q => ∀ Y, BlkX X Y scope → WE Y elt σ H Q) own σ H Qf := by
  simp only [evX] at ev
  obtain ⟨items, s1, e1, ev⟩ := bindOk ev
  split at ev
  · rename_i ds stF hcl
    cases ev
    intro pins sh J
    refine thn (hi B φ G s σ H items s1 I e1 pins sh J) fun v sh1 z => thn z fun itv sh2 ⟨itA, fp, tn, Jt, H1, q1, q2, q3, q4, q5, q6⟩ => ⟨itA, fp, tn, Jt, H1, q1, q2, q3, q4, q5, ?_⟩
    obtain ⟨φ1, G1, p1, g1, I1, wk⟩ := q6
    intro D hD
    refine ⟨fun i m H => ∃ φ2 G2 st acc accV, i ≤ items.length ∧ m = items.length - i ∧ Ext φ1 G1 H1 φ2 G2 H ∧ Same G2 H ∧ StR X.K φ2 G2 st H ∧ D ∉ φ2 ∧ G2 D = none ∧ H D = some (.lst accV) ∧ RepA X.K φ2 G2 acc accV ∧
      compL (compEnv own s1.env) (fun x s => asgT ct (.d x) s) (evBs C cs) (fun s => asD (evX C ce s)) (items.drop i) acc st = some (ds, stF), ?_, ?_⟩
    · refine ⟨items.length, φ1, G1, s1.st, [], [], Nat.zero_le _, by simp, ext_lay hD (I1.st.notin hD), same_lay hD I1.same, I1.st.lay hD, I1.st.notin hD, I1.same.free hD, upd_same, .nil, ?_⟩
      rw [List.drop_zero]; exact hcl
    · rintro i m H2 ⟨φ2, G2, st, acc, accV, hi', rfl, x, sm, hst, nD, gD, hDv, ra, hc⟩
      obtain ⟨w1, w2⟩ := wk φ2 G2 H2 x.pre x.same sm (fun _ => x) i
      by_cases hlt : i < items.length
      · obtain ⟨d0, hd0⟩ : ∃ d, items[i]? = some d := ⟨items[i], List.getElem?_eq_getElem hlt⟩
        obtain ⟨w3, w4⟩ := w1 d0 hd0
        refine .inr ⟨w3, fun H' => ∃ m', m' < items.length - i ∧ (∃ φ2 G2 st acc accV, i + 1 ≤ items.length ∧ m' = items.length - (i + 1) ∧ Ext φ1 G1 H1 φ2 G2 H' ∧ Same G2 H' ∧ StR X.K φ2 G2 st H' ∧ D ∉ φ2 ∧ G2 D = none ∧ H' D = some (.lst accV) ∧ RepA X.K φ2 G2 acc accV ∧
          compL (compEnv own s1.env) (fun x s => asgT ct (.d x) s) (evBs C cs) (fun s => asD (evX C ce s)) (items.drop (i + 1)) acc st = some (ds, stF)), fun H' z => z, fun xv H'' y => ?_⟩
        obtain ⟨G3, hor, rx⟩ := w4 xv H'' y
        have hdrop : items.drop i = d0 :: items.drop (i + 1) := by
          rw [List.drop_eq_getElem_cons hlt]
          rw [List.getElem?_eq_getElem hlt] at hd0
          cases hd0
          rfl
        rw [hdrop] at hc
        -- the state at the item's heap
        have nx : Ext φ1 G1 H1 φ2 G3 H'' ∧ Same G3 H'' ∧ StR X.K φ2 G3 st H'' ∧ G3 D = none ∧ H'' D = some (.lst accV) ∧ Same G2 G3 := by
          rcases hor with ⟨rfl, rfl⟩ | ⟨T, o, hT, rfl, rfl⟩
          · exact ⟨x, sm, hst, gD, hDv, Same.refl _⟩
          · have ne : D ≠ T := ne_of_none hDv hT
            refine ⟨x.trans (?_ : StR X.K φ2 G2 st H2) (ext_new hT sm (hst.notin hT)) fun a ha => ?_, same_new sm, hst.new hT sm, by rw [upd_ne ne]; exact gD, by rw [upd_ne ne]; exact hDv, same_upd hT sm⟩
            · exact hst
            · have := (hst.at ha)
              have na : a ≠ T := fun z => this.2 (by rw [z]; exact hT)
              rw [upd_ne na]; exact this.1
        obtain ⟨x3, sm3, hst3, gD3, hD3, sg23⟩ := nx
        have IB : SR X.K ⟨φ2, G3, H''⟩ φ2 G3 ⟨compEnv own s1.env, st⟩ (wipe σ own) H'' := I1.block x3 sm3 hst3
        unfold compL at hc
        split at hc
        · cases hc
        · rename_i s2 ea
          intro Y hY
          have eK : Y.K = X.K := hY.same
          refine hg Y hY _ _ _ _ _ _ (.d d0) xv s2 (by rw [eK]; exact IB) (by rw [eK]; exact rx) ea _ fun σ2 I2 k1 k2 => ?_
          rw [eK] at I2
          have hw : wipe σ2 own = wipe σ own := by
            rw [← wipe_idem (σ := σ)]
            exact wipe_same (by rw [k2]) fun j hj => k1 j fun z => hj (hown j z)
          refine ⟨hw, ?_⟩
          intro Y hY pins' sh' J'
          have eK : Y.K = X.K := hY.same
          -- what stays of the new list through the block
          have keep : ∀ {φ4 : List Addr} {G4 H4 : Hp} {s4 : S}, φ2 <+: φ4 → Same G3 G4 → SR X.K ⟨φ2, G3, H''⟩ φ4 G4 s4 σ2 H4 → H4 D = some (.lst accV) ∧ G4 D = none ∧ D ∉ φ4 ∧ Ext φ1 G1 H1 φ4 G4 H4 := by
            intro φ4 G4 H4 s4 p4 g4 I4
            have n4 : D ∉ φ4 := fun z => by
              rcases I4.ext.newP D z with z | z
              · exact nD z
              · have z' : H'' D = none := z
                rw [hD3] at z'; cases z'
            exact ⟨I4.ext.frame D _ hD3 nD, I4.ext.newG D (by show H'' D ≠ none; rw [hD3]; exact Option.some_ne_none _) nD gD3, n4, x3.trans hst3 I4.ext fun a ha => (I4.st.at (p4.subset ha)).1⟩
          split at hc
          · rename_i s3 et
            split at hc
            · rename_i d1 s4 ee
              split at hc
              · rename_i hlen
                refine thn (ht Y hY ⟨φ2, G3, H''⟩ φ2 G3 s2 σ2 H'' true s3 (by rw [eK]; exact I2) et pins' sh' J') fun b sh2' ⟨H3, J3, hb, φ3, G4, p3, g3, I3⟩ => ⟨H3, J3, ?_⟩
                subst hb
                rw [if_pos rfl]
                intro Y2 hY2
                have eK2 : Y2.K = X.K := hY2.same
                refine (sd_of (he Y2 hY2).x (B := ⟨φ2, G3, H''⟩) (φ := φ3) (G := G4) (by rw [eK2, ← eK]; exact I3) ee).mono fun y' H4 ⟨φ5, G5, p5, g5, I5, ry⟩ => ?_
                rw [eK2] at I5 ry
                obtain ⟨f1, f2, f3, f4⟩ := keep (p3.trans p5) (g3.trans g5) I5
                refine ⟨accV, f1, by rw [← ra.length]; exact hlen, items.length - (i + 1), by omega, φ5, G5, s4.st, acc ++ [d1], accV ++ [y'], hlt, rfl, f4.at hD, same_at I5.same f2, I5.st.at' f3, f3, f2, upd_same, ?_, hc⟩
                exact (RepA.mono (p3.trans p5) (sg23.trans (g3.trans g5)) ra).append (.one ry)
              · cases hc
            · cases hc
          · rename_i s3 et
            refine thn (ht Y hY ⟨φ2, G3, H''⟩ φ2 G3 s2 σ2 H'' false s3 (by rw [eK]; exact I2) et pins' sh' J') fun b sh2' ⟨H3, J3, hb, φ3, G4, p3, g3, I3⟩ => ⟨H3, J3, ?_⟩
            subst hb
            rw [if_neg Bool.false_ne_true]
            rw [eK] at I3
            obtain ⟨f1, f2, f3, f4⟩ := keep p3 g3 I3
            exact ⟨items.length - (i + 1), by omega, φ3, G4, s3.st, acc, accV, hlt, rfl, f4, I3.same, I3.st, f3, f2, f1, RepA.mono p3 (sg23.trans g3) ra, hc⟩
          · cases hc
      · have ei : i = items.length := by omega
        subst ei
        rw [List.drop_length] at hc
        have hc' : some (acc, st) = some (ds, stF) := by simpa [compL] using hc
        cases hc'
        refine .inl ⟨w2 (Nat.le_refl _), hQ _ _ ⟨φ2, G2, p1.trans x.pre, g1.trans x.same, I1.step x sm hst, D, accV, rfl, I1.base_none hD, gD, nD, hDv, ra, fun j ys ej => I1.notown hD j ys ej⟩⟩
  · cases ev
end
end DE
end

section
set_option Elab.async false
set_option linter.all false
set_option maxRecDepth 100000
set_option maxHeartbeats 1000000
namespace DE
open PySem L2 PySem.Spec PyProof.Rows HT
/-! t[::-1], t a tuple -/
section
variable {prog : Program} {w : World} {A : Around} {E : Value → Shared → Prop} {s : Shared}
theorem places_rev (n : Nat) : Builtin.Slice.slicePlaces ((n : Int) - 1) (-1) (-1) = n := by
  unfold Builtin.Slice.slicePlaces
  rw [if_neg (by omega)]
  by_cases h : (n : Int) - 1 > -1
  · rw [if_pos h]
    have : -(-1 : Int) = 1 := rfl
    rw [this, Int.ediv_one]
    omega
  · rw [if_neg h]
    omega
theorem sliceApplied_rev {sl : Addr} {vs : Value} {n : Nat} {Q : Int × Int × Nat → Shared → Prop} (hs : s.heap.IsSliceOf sl .none .none vs) (ps : IsPart vs (some (-1)))
    (h : Q ((n : Int) - 1, -1, n) s) : wpAny (model prog w) A (Builtin.Slice.sliceApplied (.ref sl) (pure (n : Int))) Q E s := by
  obtain ⟨os, hos, hcs, hds⟩ := id hs
  unfold Builtin.Slice.sliceApplied Builtin.Slice.sliceFields
  refine wpAny_bind (wpAny_bind (wpAny_field hos hds (x := .none) rfl (wpAny_bind (wpAny_field hos hds (x := .none) rfl (wpAny_bind (wpAny_field hos hds (x := vs) rfl (wpAny_pure ?_)))))))
  refine wpAny_bind (slicePart_ ps ?_)
  show wpAny _ _ (if ((-1 : Int) == 0) = true then _ else _) _ _ s
  rw [if_neg (by decide)]
  refine wpAny_bind (slicePart_none (wpAny_bind (slicePart_none (wpAny_bind (wpAny_pure ?_)))))
  show wpAny _ _ (pure (((n : Int) - 1), (-1 : Int), Builtin.Slice.slicePlaces ((n : Int) - 1) (-1) (-1))) _ _ s
  rw [places_rev]
  exact wpAny_pure h
theorem fmCongr {α β : Type} {f g : α → Option β} : ∀ {l : List α}, (∀ x ∈ l, f x = g x) → l.filterMap f = l.filterMap g
  | [], _ => rfl
  | x :: r, h => by
    rw [List.filterMap_cons, List.filterMap_cons, h x (by simp), fmCongr fun y hy => h y (by simp [hy])]
theorem pick_rev (xs : Array Value) : ((List.range xs.size).filterMap fun (m : Nat) => xs[(((xs.size : Nat) : Int) - 1 + (m : Int) * (-1)).toNat]?).toArray = xs.toList.reverse.toArray := by
  congr 1
  apply List.ext_getElem?
  intro i
  have key : ∀ m, m < xs.size → xs[(((xs.size : Nat) : Int) - 1 + (m : Int) * (-1)).toNat]? = xs.toList.reverse[m]? := fun m hm => by
    rw [List.getElem?_reverse (by simpa using hm)]
    have : (((xs.size : Nat) : Int) - 1 + (m : Int) * (-1)).toNat = xs.size - 1 - m := by omega
    rw [this]
    simp
  have all : (List.range xs.size).filterMap (fun (m : Nat) => xs[(((xs.size : Nat) : Int) - 1 + (m : Int) * (-1)).toNat]?) = (List.range xs.size).filterMap (fun (m : Nat) => xs.toList.reverse[m]?) := by
    exact fmCongr fun m hm => key m (List.mem_range.mp hm)
  rw [all]
  have e : (List.range xs.toList.reverse.length).filterMap (fun (m : Nat) => xs.toList.reverse[m]?) = xs.toList.reverse := by
    generalize xs.toList.reverse = l
    induction l with
    | nil => rfl
    | cons x r ih =>
      rw [List.length_cons, List.range_succ_eq_map, List.filterMap_cons]
      simp only [List.getElem?_cons_zero, List.filterMap_map]
      congr 1
  have hl : xs.toList.reverse.length = xs.size := by simp
  rw [hl] at e
  rw [e]
theorem getItem_tuple_rev {t sl : Addr} {items : Array Value} {vs : Value} {Q : Value → Shared → Prop} (ht : IsTup s.heap t items) (hs : s.heap.IsSliceOf sl .none .none vs) (ps : IsPart vs (some (-1)))
    (h : Q (.ref s.heap.objs.size) { s with heap := s.heap.push { cls := .type "tuple", data := .seq items.toList.reverse.toArray } })
    (hsz : items.size ≤ sizeLine) : wpAny (model prog w) A (getItem (.ref t) (.ref sl)) Q E s := by
  have htake : sizeOk (.seq items.toList.reverse.toArray) := by
    show items.toList.reverse.toArray.size ≤ sizeLine
    simpa using hsz
  obtain ⟨os, hos, hcs, hds⟩ := id hs
  have hTs : s.TypeIs (.ref sl) "slice" := ⟨os, hos, hcs⟩
  unfold getItem
  try with_reducible refine wpAny_holding ?_
  first | refine wpAny_bind (wpAny_pure ?_) | skip
  refine wpAny_bind (wpAny_sequenceKey ht.typeIs (by decide) ?_)
  refine wpAny_bind (wpAny_callSpecial?_slot (name := Str.ofString "__getitem__") ht.typeIs PyProof.Rows.slot_tuple_getitem
    (wpAny_call_entry PyProof.Rows.slot_tuple_getitem ht.typeIs entry_tuple_getitem ?_ (args_tuple_getitem _ _)))
  show wpAny _ _ (Builtin.Tuple.tupleItemsOf (.ref t) >>= _) _ _ s
  refine wpAny_bind (tupleItemsOf_ ht ?_)
  refine wpAny_bind (wpAny_typeOf hTs ?_)
  rw [if_pos (by decide)]
  refine wpAny_bind (sliceApplied_rev hs ps ?_)
  have hno : ¬ (((((items.size : Nat) : Int) - 1) == 0 && (-1 : Int) == 1 && items.size == items.size) = true) := by
    intro q
    rw [Bool.and_eq_true, Bool.and_eq_true] at q
    exact absurd q.1.2 (by decide)
  show wpAny _ _ (if ((((items.size : Nat) : Int) - 1) == 0 && (-1 : Int) == 1 && items.size == items.size) = true then _ else _) _ _ s
  rw [if_neg hno, pick_rev]
  first
    | exact wpAny_bind (m := Builtin.Tuple.tupleExact _) (wpAny_newObj_type (wpAny_pure ⟨_, rfl, wpAny_pure h⟩) htake)
    | exact wpAny_bind (m := Builtin.Tuple.tupleExact _) (wpAny_newObj_type (wpAny_bind (wpAny_pure (wpAny_pure ⟨_, rfl, wpAny_pure h⟩))) htake)
    | exact wpAny_bind (wpAny_bind (m := Builtin.Tuple.tupleExact _) (wpAny_newObj_type (wpAny_pure (wpAny_pure ⟨_, rfl, wpAny_pure h⟩)) htake))
    | exact wpAny_bind (wpAny_bind (m := Builtin.Tuple.tupleExact _) (wpAny_newObj_type (wpAny_pure ⟨_, rfl, wpAny_pure h⟩) htake))
end
section
variable {X : Cx}
def tRevT (K : PySem.W.Frag) (te : TE) : TE := fun σ H Q => te σ H fun x H1 => ∃ a xs, x = .ref a ∧ SqT K H1 a xs ∧ ∀ p, H1 p = none → Q (.ref p) (upd H1 p (.tup xs.reverse))
theorem pe_revT {e : Expr} {te : TE} {k : Nat} {p1 p2 p3 pos : Pos} (he : PE X e te) : PE X (.Subscript e (.Slice none none (some (.UnaryOp .USub (.Constant (.int 1) k p1) p2)) p3) pos) (tRevT X.K te) := by
  refine ⟨fun pins s σ H Q I h => ?_⟩
  refine Subscript_ (thn (he.run pins s σ H _ I h) fun v s1 ⟨x, H1, I1, r1, q1⟩ => ?_)
  obtain ⟨a, xs, ex, hx, q⟩ := q1
  subst ex
  cases r1
  have hst : PO X (some (.UnaryOp .USub (.Constant (.int 1) k p1) p2)) (tPart (tUn (rU fun i => .int (-i)) (tC (.int 1)))) := po_some (pe_un un_neg pe_int)
  refine wpAny_Slice (thn (po_none.run pins s1 σ H1 (fun o H2 => o = none ∧ H2 = H1) I1 ⟨rfl, rfl⟩) fun vl s2 ⟨l, H2, I2, pl, el, e2⟩ => ?_)
  subst el e2
  refine thn (po_none.run pins s2 σ H2 (fun o H3 => o = none ∧ H3 = H2) I2 ⟨rfl, rfl⟩) fun vu s3 ⟨u, H3, I3, pu, eu, e3⟩ => ?_
  subst eu e3
  refine thn (hst.run pins s3 σ H3 (fun o H4 => o = some (-1) ∧ H4 = H3) I3 ⟨1, rfl, -1, rfl, rfl, rfl⟩) fun vs s4 ⟨o, H4, I4, ps, eo, e4⟩ => ?_
  subst eo e4
  have I5 : Inv X pins σ H4 { s4 with heap := s4.heap.push { cls := .type "slice", data := .fields #[vl, vu, vs] } } := I4.kept (t' := s4.toks) fun b ob q => Heap.get?_push_of_some _ q
  obtain ⟨its, r, ht, hz⟩ := I5.tuple hx
  have hlen := r.length
  cases pl
  cases pu
  show wpAny (model X.prog X.w) X.A (subscriptTail e (.Slice none none (some (.UnaryOp .USub (.Constant (.int 1) k p1) p2)) p3) (.ref a) (.ref s4.heap.objs.size)) (EP X pins σ Q) X.xe { s4 with heap := s4.heap.push { cls := .type "slice", data := .fields #[.none, .none, vs] } }
  refine tail_any (ops := [.ref a, .ref s4.heap.objs.size]) ht.typeIs (PyProof.Rows.slot_tuple_getitem.lookup) ?_ (by with_unfolding_all rfl)
  refine getItem_tuple_rev ht (Heap.IsSliceOf.new _ .none .none vs) ps ?_ (by rw [List.size_toArray]; omega)
  refine ⟨.ref _, _, I5.laid (t' := s4.toks) (o := .tup xs.reverse) (fun b ob q => Heap.get?_push_of_some _ q) (Nat.le_refl _) ?_, rfl, q _ (I5.hok.fresh (Nat.le_refl _))⟩
  exact ⟨by rw [List.length_reverse]; omega, _, r.reverse, _, Heap.get?_push_size _ rfl, rfl, 0, by simp⟩
end
end DE
end

section
set_option Elab.async false
set_option linter.all false
set_option maxRecDepth 100000
set_option maxHeartbeats 3200000
namespace DE
open PySem L2 PySem.Spec PyProof.Rows
/-! sorted(set(xs)), xs a list of texts -/
def keyS (e : Int × Value) : Str := match e.2 with | .str k _ => k | _ => Str.empty
def GoodS (w : World) (e : Int × Value) : Prop := ∃ k tk, e.2 = Value.str k tk ∧ e.1 = hashStr w k
/-- the set of texts at a, its members L in some order; its table rises and can be walked -/
def SetRS (w : World) (h : Heap) (a : Addr) (L : List Str) : Prop :=
  ∃ o es ep t, h.get? a = some o ∧ o.ExactSet ∧ o.data = .set es ep t ∧ (∀ e ∈ es.toList, GoodS w e) ∧ (es.toList.map keyS).Perm L ∧ L.Nodup ∧
    es.size < scanBound ∧ t.fits es.size = true ∧ Ris t.place.toList ∧ (w.params.followText "set-order" = true ∨ t.led = true)
section
variable {P : Program} {w : World} {h h' : Heap} {a : Addr} {L : List Str}
theorem SetRS.at (R : SetRS w h a L) (k : ∀ o, h.get? a = some o → h'.get? a = some o) : SetRS w h' a L := by
  obtain ⟨o, es, ep, t, ho, r⟩ := R
  exact ⟨o, es, ep, t, k o ho, r⟩
theorem goodS_elems {l : List (Int × Value)} (g : ∀ e ∈ l, GoodS w e) : ElemsOf (strKind P w) l := fun e he => by
  obtain ⟨k, tk, h1, h2⟩ := g e he
  exact ⟨⟨k, by rw [h1]; exact PySem.Froz.is_str k tk, h2⟩, by rw [h1] <;> rfl⟩
theorem goodS_is {e : Int × Value} (g : GoodS w e) (k : Str) : (strKind P w).is k e.2 = true ↔ keyS e = k := by
  obtain ⟨k0, tk, h1, _⟩ := g
  unfold keyS
  rw [h1]
  constructor
  · intro q
    exact (strKind P w).inj (.str k0 tk) k0 k (PySem.Froz.is_str k0 tk) q
  · intro q
    dsimp only at q
    subst q
    exact PySem.Froz.is_str k0 tk
theorem goodS_mem {l : List (Int × Value)} (g : ∀ e ∈ l, GoodS w e) (k : Str) : k ∈ l.map keyS ↔ ∃ e ∈ l, (strKind P w).is k e.2 = true := by
  rw [List.mem_map]
  constructor
  · rintro ⟨e, he, q⟩
    exact ⟨e, he, (goodS_is (g e he) k).2 q⟩
  · rintro ⟨e, he, q⟩
    exact ⟨e, he, (goodS_is (g e he) k).1 q⟩
end
section
variable {P : Program} {w : World} {A : Around} {E : Value → Shared → Prop} {s : Shared} {a : Addr} {L : List Str}
theorem setS_tail {g : Bool → Sem Unit} (hg : ∀ (b : Bool) (s₁ : Shared) (Q' : Unit → Shared → Prop), Q' () s₁ → wpAny (model P w) A (g b) Q' E s₁)
    {o : Obj} {es : Array (Int × Value)} {ep : Nat} {t : SetTable} (ho : s.heap.get? a = some o) (hex : o.ExactSet) (hd : o.data = .set es ep t)
    {es1 : Array (Int × Value)} {t2 : SetTable} (g1 : ∀ e ∈ es1.toList, GoodS w e) (p1 : (es1.toList.map keyS).Perm L) (nd1 : L.Nodup)
    (hb1 : es1.size < scanBound) (hf2 : t2.fits es1.size = true) (hr : Ris t2.place.toList) (hl : w.params.followText "set-order" = true ∨ t2.led = true) {wasDummy : Bool} {R : Option Bool → Shared → Prop}
    (hR : ∀ h', Heap.SameBut a s.heap h' → SetRS w h' a L → R (some true) { s with heap := h' }) :
    wpAny (model P w) A (do
        storeSet a es1 t2
        if (!wasDummy && t2.tooFull) = true then do
            g (relayAll t2 es1 (SetTable.grown es1.size)).2.2
            storeSet a (relayAll t2 es1 (SetTable.grown es1.size)).1 (relayAll t2 es1 (SetTable.grown es1.size)).2.1
            pure (some true)
          else pure (some true)) R E s := by
  refine wpAny_bind (wpAny_storeSet_of ho hd ?_ (fits_of_scanBound hb1))
  have ho1 := store_at (es' := es1) (t' := t2) ho hd
  have sb1 := Heap.SameBut.update s.heap a (Obj.putSet es1 t2)
  split
  · have pm := relayAll_perm t2 es1 (SetTable.grown es1.size)
    have hf3 := relayAll_fits t2 es1 (SetTable.grown es1.size)
    have hr3 := relayAll_ris t2 es1 (SetTable.grown es1.size)
    have hl3 := relayAll_led t2 es1 (SetTable.grown es1.size)
    generalize relayAll t2 es1 (SetTable.grown es1.size) = Z at pm hf3 hr3 hl3 ⊢
    obtain ⟨es2, t3, gave⟩ := Z
    dsimp only at pm hf3 hr3 hl3 ⊢
    have hsz : es2.size = es1.size := by rw [← Array.length_toList, pm.length_eq, Array.length_toList]
    have hb2 : es2.size < scanBound := by rw [hsz]; exact hb1
    refine wpAny_bind (hg _ _ _ ?_)
    refine wpAny_bind (wpAny_storeSet_of ho1 rfl ?_ (fits_of_scanBound hb2))
    have ho2 := store_at (es' := es2) (t' := t3) ho1 rfl
    refine wpAny_pure (hR _ (sb1.trans (Heap.SameBut.update _ a _)) ?_)
    exact ⟨_, es2, _, t3, ho2, hex, rfl, fun e he => g1 e (pm.mem_iff.mp he), (pm.map keyS).trans p1, nd1, hb2, hf3, hr3,
      hl.imp id fun z => by rw [hl3]; exact z⟩
  · exact wpAny_pure (hR _ sb1 ⟨_, es1, _, t2, ho1, hex, rfl, g1, p1, nd1, hb1, hf2, hr, hl⟩)
theorem setS_add {k : Str} {tk : Tok} {Q : Bool → Shared → Prop} (R : SetRS w s.heap a L) (room : L.length + 1 < scanBound)
    (hQ : ∀ b h', Heap.SameBut a s.heap h' → SetRS w h' a (addL L k) → Q b { s with heap := h' }) :
    wpAny (model P w) A (setAddHashed a (.str k tk) ((strKind P w).hash k)) Q E s := by
  obtain ⟨o, es, ep, t, ho, hex, hd, g, pl, nd, hb, hf, hr, hl⟩ := R
  have hkey : (strKind P w).is k (.str k tk) = true := PySem.Froz.is_str k tk
  have hsc : (Value.str k tk).scannable = true := rfl
  have hel : ElemsOf (strKind P w) es.toList := goodS_elems g
  unfold setAddHashed setAddHashedIn
  refine wpAny_holding (wpAny_bind (wpAny_setState_of ho hd hf ?_))
  dsimp only
  rw [byScan_of hsc hb hel]
  simp only [↓reduceIte]
  unfold setAddByScan
  refine wpAny_bind ?_
  refine wpAny_bind (wpAny_rule ?_)
  refine wpAny_bind (wpAny_setScan_of hkey ho hd hf hel ?_)
  cases hfi : List.findIdx? (fun e => (strKind P w).is k e.2) es.toList with
  | some j =>
    dsimp only
    obtain ⟨hj, pj, _⟩ := List.findIdx?_eq_some_iff_getElem.mp hfi
    have hk : k ∈ L := pl.mem_iff.mp ((goodS_mem (P := P) (w := w) g k).2 ⟨es.toList[j], List.getElem_mem hj, pj⟩)
    refine wpAny_pure (wpAny_pure ?_)
    refine hQ _ s.heap (Heap.SameBut.refl a s.heap) ?_
    unfold addL
    rw [if_pos hk]
    exact ⟨o, es, ep, t, ho, hex, hd, g, pl, nd, hb, hf, hr, hl⟩
  | none =>
    dsimp only
    have hnk : k ∉ L := fun z => by
      obtain ⟨e, he, q⟩ := (goodS_mem (P := P) (w := w) g k).1 (pl.mem_iff.mpr z)
      have c := List.findIdx?_eq_none_iff.mp hfi e he
      rw [q] at c
      cases c
    have hgw : ∀ (b : Bool) {s₁ : Shared} {Q' : Unit → Shared → Prop}, Q' () s₁ → wpAny (model P w) A (match b with | true => rule "set.scan.the-table-gave-way" | false => pure ()) Q' E s₁ :=
      fun b s₁ Q' q => by cases b <;> first | exact wpAny_pure q | exact wpAny_rule q
    have pm := layNew_perm t es ((strKind P w).hash k) (.str k tk)
    have hf1 := layNew_fits t es ((strKind P w).hash k) (.str k tk)
    have hr1 := layNew_ris t es ((strKind P w).hash k) (.str k tk) hr
    have hl1 := layNew_led t es ((strKind P w).hash k) (.str k tk)
    generalize layNew t es ((strKind P w).hash k) (.str k tk) = Z at pm hf1 hr1 hl1 ⊢
    obtain ⟨es1, t1, wasDummy, gave⟩ := Z
    dsimp only at pm hf1 hr1 hl1 ⊢
    rw [Array.toList_push] at pm
    have pc : es1.toList.Perm (((strKind P w).hash k, Value.str k tk) :: es.toList) := pm.trans (List.perm_append_singleton _ _)
    have pk : (es1.toList.map keyS).Perm (addL L k) := by
      unfold addL
      rw [if_neg hnk]
      exact (pc.map keyS).trans (pl.cons k)
    have g1 : ∀ e ∈ es1.toList, GoodS w e := fun e he => by
      rcases List.mem_cons.mp (pc.mem_iff.mp he) with z | z
      · rw [z]; exact ⟨k, tk, rfl, rfl⟩
      · exact g e z
    have nd1 : (addL L k).Nodup := by
      unfold addL
      rw [if_neg hnk]
      exact List.nodup_cons.mpr ⟨hnk, nd⟩
    have hn : es.size = L.length := by rw [← Array.length_toList, ← List.length_map (f := keyS), pl.length_eq]
    have hsz : es1.size = L.length + 1 := by rw [← Array.length_toList, pc.length_eq, List.length_cons, Array.length_toList, hn]
    have hb1 : es1.size < scanBound := by rw [hsz]; exact room
    have hled : w.params.followText "set-order" = true ∨ t1.led = true := hl.imp id fun z => by rw [hl1]; exact z
    refine wpAny_bind (hgw _ ?_)
    split
    · refine wpAny_bind ?_
      rw [hashByValue_scannable 8 hsc]
      refine wpAny_pure ?_
      refine setS_tail ?_ ho hex hd g1 pk nd1 hb1 ?_ ?_ ?_ ?_
      · intro b s₁ Q' q; cases b <;> first | exact wpAny_pure q | exact wpAny_rule q
      · first | (split <;> first | exact hf1 | exact SetTable.fits_plain_off hf1) | exact hf1
      · first | (split <;> exact hr1) | exact hr1
      · first | (split <;> exact hled) | exact hled
      · intro h' sb r; dsimp only; exact wpAny_pure (hQ _ h' sb r)
    · refine wpAny_bind (wpAny_pure ?_)
      simp only [↓reduceIte]
      refine setS_tail ?_ ho hex hd g1 pk nd1 hb1 hf1 hr1 hled ?_
      · intro b s₁ Q' q; cases b <;> first | exact wpAny_pure q | exact wpAny_rule q
      · intro h' sb r; dsimp only; exact wpAny_pure (hQ _ h' sb r)
theorem addL_len (L : List Str) (k : Str) : (addL L k).length ≤ L.length + 1 := by
  unfold addL
  split
  · omega
  · simp
theorem setL_snoc (ks : List Str) (k : Str) : setL (ks ++ [k]) = addL (setL ks) k := by
  unfold setL
  rw [List.foldl_append]
  rfl
theorem setL_len (ks : List Str) : (setL ks).length ≤ ks.length := by
  have : ∀ (ks : List Str) (acc : List Str), (ks.foldl addL acc).length ≤ acc.length + ks.length := by
    intro ks
    induction ks with
    | nil => intro acc; simp
    | cons k r ih =>
      intro acc
      rw [List.foldl_cons]
      have := ih (addL acc k)
      have := addL_len acc k
      simp only [List.length_cons]
      omega
  have q := this ks []
  simp only [List.length_nil, Nat.zero_add] at q
  exact q
end
section
variable {prog : Program} {w : World} {A : Around} {R : Result → Shared → Prop} {I : Addr} {fp wr : List Addr} {G : Array GenState → Array GenState → Prop} {n : Nat} {P : Nat → Value → Prop} {St : Nat → Shared → Prop}
theorem loopS (W : WalksS prog w A.in1 I fp wr G n P St) (S : Addr) (hSf : S ∉ fp)
    (ks : List Str) (hn : n = ks.length) (hval : ∀ i v, P i v → ∃ k t, ks[i]? = some k ∧ v = .str k t) (hb : n + 1 < scanBound) :
    ∀ (k i : Nat) (s : Shared), n - i = k → i ≤ n → St i s →
      SetRS w s.heap S (setL (ks.take i)) →
      (∀ s', Moved (S :: wr) G s s' → SetRS w s'.heap S (setL ks) → R (.ok (.ret .none)) s') →
      codeAny (model prog w) A (.builtin "set.update.loop" ⟨[.ref S, .ref I], []⟩) R s := by
  have hSw : S ∉ wr := fun h => hSf (W.sub _ h)
  have hsub : ∀ b ∈ wr, b ∈ S :: wr := fun b hb => List.mem_cons_of_mem _ hb
  intro k
  induction k with
  | zero =>
    intro i s hk hi hst hS hR
    have hin : i = n := by omega
    subst hin
    refine codeAny_builtin PyProof.Rows.F.entry_set_update_loop ?_
    rw [Around.under_plainId PyProof.Rows.F.plain_set_update_loop _]
    show wpAny _ A.in1 (pyNext (.ref I) >>= _) _ _ s
    refine wpAny_bind (W.done s _ _ hst fun s' hm => ?_)
    show wpAny _ A.in1 (ret Value.none) _ _ s'
    rw [hn, List.take_length] at hS
    exact wpAny_pure (hR s' (hm.mono hsub) (hS.at fun o ho => hm.heap S o hSw ho))
  | succ k ih =>
    intro i s hk hi hst hS hR
    have hlt : i < n := by omega
    refine codeAny_builtin PyProof.Rows.F.entry_set_update_loop ?_
    rw [Around.under_plainId PyProof.Rows.F.plain_set_update_loop _]
    show wpAny _ A.in1 (pyNext (.ref I) >>= _) _ _ s
    refine wpAny_bind (W.item i s _ _ hlt hst fun v s' hP hst' hm => ?_)
    obtain ⟨x, t, hx, rfl⟩ := hval i v hP
    have hS' : SetRS w s'.heap S (setL (ks.take i)) := hS.at fun o ho => hm.heap S o hSw ho
    show wpAny _ A.in1 (holding [Value.str x t] (setAdd S (.str x t)) >>= _) _ _ s'
    refine wpAny_bind (wpAny_holding ?_)
    unfold setAdd
    refine wpAny_holding ?_
    refine wpAny_bind ((strKind prog w).pyHash (k := x) (PySem.Froz.is_str x t) ?_)
    have hroom : (setL (ks.take i)).length + 1 < scanBound := by
      have := setL_len (ks.take i)
      rw [List.length_take] at this
      omega
    refine setS_add (s := { s' with toks := s'.toks + 1 }) hS' hroom fun b h' hsb hS2 => ?_
    have hSi : SetRS w h' S (setL (ks.take (i + 1))) := by
      have e : ks.take (i + 1) = ks.take i ++ [x] := by
        rw [List.take_add_one, hx] <;> rfl
      rw [e, setL_snoc]
      exact hS2
    refine wpAny_pure ⟨plainId_quiet PyProof.Rows.F.plain_set_update_loop _, ih (i + 1) _ (by omega) hlt (W.frame _ s' _ _ hst' (Nat.le_succ _) fun b hb o e => ?_) hSi fun s'' hm'' hS'' => ?_⟩
    · rw [hsb.2 b (fun h : b = S => hSf (by rw [← h]; exact hb))]; exact e
    · refine hR s'' (Moved.trans W.gtrans ((hm.mono hsub).then_heap (Nat.le_succ _) fun b o hb e => ?_) hm'') hS''
      rw [hsb.2 b (fun h : b = S => hb (by rw [h]; exact List.mem_cons_self))]; exact e
end
theorem StrsAre.str_at : ∀ {vs : List Value} {ks : List Str}, StrsAre vs ks → ∀ (i : Nat) (v : Value), vs[i]? = some v → ∃ k t, ks[i]? = some k ∧ v = .str k t
  | _, _, .nil, i, v, h => by simp at h
  | _, _, .cons y t hr, 0, v, h => by simp at h; exact ⟨y, t, rfl, h.symm⟩
  | _, _, .cons y t hr, i + 1, v, h => by
    simp only [List.getElem?_cons_succ] at h ⊢
    exact StrsAre.str_at hr i v h
section
variable {prog : Program} {w : World} {A : Around} {E : Value → Shared → Prop} {s : Shared}
theorem code_setn (a : Value) {Q₁ : Value → Shared → Prop}
    (h : Q₁ (.ref s.heap.objs.size) { s with heap := s.heap.push { cls := .type "set", dict := none, data := .set #[] 0 (.fresh 0 0 (!w.params.followText "set-order")) } }) :
    codeAny (model prog w) A (.call (.builtin "set.__new__") ⟨[.type "set", a], []⟩) (wants Q₁ E) s := by
  refine codeAny_of_tree ?_
  show wpAny _ A.in1 (do checkBuiltinCall "set.__new__" ⟨[.type "set", a], []⟩; again (.builtin "set.__new__" ⟨[.type "set", a], []⟩)) _ _ s
  refine wpAny_bind (wpAny_of_eq (PySem.F.newCall_set_1 a) (wpAny_pure ⟨plainId_quiet PySem.F.plain_set_new _, codeAny_builtin PySem.F.entry_set_new ?_⟩))
  rw [Around.under_plainId PySem.F.plain_set_new _]
  unfold Builtin.«set.__new__» Builtin.Frozenset.newClass
  have hsub := sub_set_self
  obtain ⟨hp, g, d, tk, os⟩ := s
  dsimp only
  wp_walk
  refine wpAny_askSetting (wpAny_pure ?_)
  dsimp only
  simp only [newObj]
  refine wpAny_bind (wpAny_alloc (wpAny_pure ?_))
  exact wpAny_pure h
theorem freshS {h : Heap} {a : Addr} (w : World) (hg : h.get? a = some { cls := .type "set", dict := none, data := .set #[] 0 (.fresh 0 0 (!w.params.followText "set-order")) }) : SetRS w h a [] :=
  ⟨_, #[], 0, _, hg, ⟨rfl, rfl, rfl⟩, rfl, (fun e he => by simp at he), (by simp), (by simp), (by decide), (by rfl), List.Pairwise.nil, by
    show _ ∨ (!w.params.followText "set-order") = true
    cases w.params.followText "set-order"
    · exact .inr rfl
    · exact .inl rfl⟩
theorem call_setS {l : Addr} {items : Array Value} {ks : List Str} {Q : Value → Shared → Prop}
    (hh : A.handled = none) (hl : s.heap.IsList l items) (hi : StrsAre items.toList ks) (hb : items.size + 1 < scanBound)
    (h : ∀ (h' : Heap) (tk : Nat), SetRS w h' s.heap.objs.size (setL ks) → s.heap.objs.size < h'.objs.size →
      (∀ b o, b < s.heap.objs.size → s.heap.get? b = some o → h'.get? b = some o) → Q (.ref s.heap.objs.size) { s with heap := h', toks := tk }) :
    wpAny (model prog w) A (call (.type "set") [.ref l]) Q E s := by
  obtain ⟨c, tl, hmro⟩ := PySem.F.called_set.mro
  have hmade := PySem.F.called_set.made
  have hsub := PySem.F.called_set.sub
  refine wpAny_call (codeAny_of_tree ?_)
  show wpAny _ _ (callAny (.type "set") _) _ _ _
  refine wpAny_pure ⟨Code.quiet_builtin _ (by decide +kernel), codeAny_builtin PySem.F.entry_type_call ?_⟩
  rw [Around.under_plain (weight_type_call_type "set" [.ref l] []) rfl]
  have h1 := PySem.F.called_set.notType
  have h2 := PySem.F.called_set.canCreate
  have hct := PySem.F.typeCall_set_1 (.ref l)
  repeat (any_goals (first | assumption | wp_step))
  refine codeAny_mono (code_setn (.ref l) (E := E) (Q₁ := fun obj s₁ => obj = .ref s.heap.objs.size ∧ s₁ = { s with heap := s.heap.push { cls := .type "set", dict := none, data := .set #[] 0 (.fresh 0 0 (!w.params.followText "set-order")) } }) ⟨rfl, rfl⟩) fun r s₁ hr => ?_
  generalize hld : (!w.params.followText "set-order") = led at hr
  cases r with
  | error e => exact hr
  | ok fl =>
    cases fl with
    | ret obj =>
      obtain ⟨rfl, rfl⟩ := hr
      have hS : (s.heap.push { cls := .type "set", dict := none, data := .set #[] 0 (.fresh 0 0 led) }).get? s.heap.objs.size = some { cls := .type "set", dict := none, data := .set #[] 0 (.fresh 0 0 led) } := Heap.get?_push_size _ rfl
      have hT : Shared.TypeIs { s with heap := s.heap.push { cls := .type "set", dict := none, data := .set #[] 0 (.fresh 0 0 led) } } (.ref s.heap.objs.size) "set" := ⟨_, hS, rfl⟩
      have hli := PySem.F.called_set.init.lookup
      have hbi := PySem.F.called_set.init.bind (.ref s.heap.objs.size)
      repeat (any_goals (first | assumption | wp_step))
      refine codeAny_mono (codeAny_call_builtin (R := wants (fun r s₂ => r = .none ∧ ∃ h' tk, s₂ = { s with heap := h', toks := tk } ∧
          SetRS w h' s.heap.objs.size (setL ks) ∧ (∀ b o, b < s.heap.objs.size → s.heap.get? b = some o → h'.get? b = some o)) E) PySem.F.called_set.init.plain PySem.F.entry_set_init (check_set_init_1 hT ?_)) fun r₂ s₂ hr₂ => ?_
      · obtain ⟨ol, hol, hcl, nl, hdl⟩ := hl
        obtain ⟨ocls, odict, odata, oslots⟩ := ol
        simp only at hcl hdl
        subst hcl; subst hdl
        have hol' : (s.heap.push { cls := .type "set", dict := none, data := .set #[] 0 (.fresh 0 0 led) }).get? l = some { cls := .type "list", dict := odict, data := .seq items nl, slots := oslots } := Heap.get?_push_of_some _ hol
        have hsls := PySem.F.sub_list_set
        have hslf := PySem.F.sub_list_frozenset
        have hne : (Value.type "list" == Value.type "dict") = false := by decide
        have hl1 : (s.heap.push { cls := .type "set", dict := none, data := .set #[] 0 (.fresh 0 0 led) }).IsList l items := ⟨_, hol', rfl, nl, rfl⟩
        unfold Builtin.«set.__init__» noKeywords Builtin.Frozenset.updateFrom
        generalize hPI : pyIter = PI
        wp_walk
        subst hPI
        refine wpAny_pyIter_list hl1 ?_
        refine wpAny_bind (wpAny_runValue ?_)
        have hlS : l < s.heap.objs.size := Heap.lt_size hol
        have hh3 : A.in1.in1.in1.handled = none := by simp [hh]
        have hneI : l ≠ (s.heap.push { cls := .type "set", dict := none, data := .set #[] 0 (.fresh 0 0 led) }).objs.size := by
          rw [Heap.size_push]; exact Nat.ne_of_lt (Nat.lt_succ_of_lt hlS)
        have hSf : s.heap.objs.size ∉ [(s.heap.push { cls := .type "set", dict := none, data := .set #[] 0 (.fresh 0 0 led) }).objs.size, l] := by
          rw [Heap.size_push]; simp only [List.mem_cons, List.mem_singleton, List.not_mem_nil, or_false, not_or]
          exact ⟨Nat.ne_of_lt (Nat.lt_succ_self _), Nat.ne_of_gt hlS⟩
        have hval : ∀ (i : Nat) (v : Value), items[i]? = some v → ∃ k t, ks[i]? = some k ∧ v = .str k t := fun i v hv =>
          StrsAre.str_at hi i v (by rw [Array.getElem?_toList]; exact hv)
        have hkl : items.size = ks.length := by rw [← Array.length_toList]; exact StrsAre.length hi
        refine loopS ((Walks.list hh3 _ l hneI items).toS) s.heap.objs.size
          hSf ks hkl hval hb (items.size - 0) 0 _ (by omega) (Nat.zero_le _)
          ⟨⟨_, Heap.get?_push_size _ rfl, rfl, rfl⟩, (hl1.push _)⟩ ?hS0 ?hR
        case hS0 =>
          have hget : ((s.heap.push { cls := .type "set", dict := none, data := .set #[] 0 (.fresh 0 0 led) }).push { cls := .type "list_iterator", data := .fields #[.ref l, .int 0 0] }).get? s.heap.objs.size
              = some { cls := .type "set", dict := none, data := .set #[] 0 (.fresh 0 0 led) } := Heap.get?_push_of_some _ hS
          subst hld
          exact freshS w hget
        case hR =>
          intro s' hm hS'
          obtain ⟨h', g', d', tk', os'⟩ := s'
          have eg : g' = s.gens := hm.gens
          have ed : d' = s.drawn := hm.drawn
          have eo : os' = s.os := hm.os
          subst eg; subst ed; subst eo
          show wpAny _ _ _ _ _ _
          refine wpAny_pure ?_
          show wpAny _ _ (ret Value.none) _ _ _
          refine wpAny_pure ⟨rfl, h', tk', rfl, hS', fun b o hb e => ?_⟩
          have hb1 : b ≠ s.heap.objs.size := Nat.ne_of_lt hb
          have hb2 : b ≠ (s.heap.push { cls := .type "set", dict := none, data := .set #[] 0 (.fresh 0 0 led) }).objs.size := by
            rw [Heap.size_push]; exact Nat.ne_of_lt (Nat.lt_succ_of_lt hb)
          exact hm.heap b o (by simp only [List.mem_cons, List.mem_singleton, List.not_mem_nil, or_false, not_or]; exact ⟨hb1, hb2⟩) (Heap.get?_push_of_some _ (Heap.get?_push_of_some _ e))
      · cases r₂ with
        | error e => exact hr₂
        | ok fl₂ =>
          cases fl₂ with
          | ret r =>
            obtain ⟨rfl, h', tk, rfl, hS', hk'⟩ := hr₂
            repeat (any_goals (first | assumption | wp_step))
            exact h _ _ hS' (by obtain ⟨o, _, _, _, ho, _⟩ := hS'; exact Heap.lt_size ho) hk'
          | _ => exact hr₂.elim
    | _ => exact hr.elim
theorem strs_of : ∀ (l : List (Int × Value)), (∀ e ∈ l, GoodS w e) → StrsAre (l.map (·.2)) (l.map keyS)
  | [], _ => .nil
  | e :: l, h => by
    obtain ⟨k, tk, h1, _⟩ := h e List.mem_cons_self
    have := strs_of l fun u hu => h u (List.mem_cons_of_mem _ hu)
    simp only [List.map_cons, keyS, h1]
    exact .cons k tk this
theorem strs_perm {vs ws : List Value} (p : vs.Perm ws) : ∀ {ks : List Str}, StrsAre ws ks → ∃ ks', StrsAre vs ks' ∧ ks'.Perm ks := by
  induction p with
  | nil => intro ks h; exact ⟨ks, h, .refl _⟩
  | cons x p ih =>
    intro ks h
    cases h with
    | cons y t r =>
      obtain ⟨ks', h1, h2⟩ := ih r
      exact ⟨_, .cons y t h1, h2.cons y⟩
  | swap x y l =>
    intro ks h
    cases h with
    | cons a t r =>
      cases r with
      | cons b u r => exact ⟨_, .cons b u (.cons a t r), .swap a b _⟩
  | trans p q ih1 ih2 =>
    intro ks h
    obtain ⟨k1, h1, h2⟩ := ih2 h
    obtain ⟨k2, h3, h4⟩ := ih1 h1
    exact ⟨k2, h3, h4.trans h2⟩
theorem sorted_setS {a : Addr} {L : List Str} {Q : Value → Shared → Prop} (R : SetRS w s.heap a L) (hh : A.handled = none) (h64 : L.length < 64)
    (hQ : ∀ s' p (out : Array Value) (c : Nat) (ys : List Str), (∀ b o, s.heap.get? b = some o → s'.heap.get? b = some o) → s'.gens = s.gens → s'.os = s.os → s.heap.objs.size ≤ p →
      s'.heap.get? p = some (seqObj "list" out c) → StrsAre out.toList ys → ys.Perm L → sortedS ys = true → Q (.ref p) s') :
    wpAny (model prog w) A (call (.builtin "sorted") [.ref a]) Q E s := by
  obtain ⟨o, es, ep, t, ho, hex, hd, g, pl, nd, hb, hf, hr, hl⟩ := R
  refine Calls.call_function_entry kind_sorted plain_sorted entry_sorted (args_sorted1 _) ?_
  unfold Builtin.«sorted»
  refine wpAny_bind (m := checkCount "sorted" 1 1 _) (wpAny_pure ?_)
  refine wpAny_bind (collect_set (A := A.in1) hh ⟨o, ho, hex.1, hd⟩ hf hb hr hl fun s1 vs k1 hz g1 o1 pm => ?_)
  have hvl : vs.length < 64 := by
    rw [pm.length_eq, List.length_map, ← List.length_map (f := keyS), pl.length_eq]; exact h64
  obtain ⟨ks, hS, hp⟩ := strs_perm pm (strs_of _ g)
  refine wpAny_bind (wpAny_newList ?_ (by rw [sizeLine_eq]; omega))
  have hoL : (s1.heap.push (seqObj "list" vs.toArray 0)).get? s1.heap.objs.size = some (seqObj "list" vs.toArray 0) := Heap.get?_push_size _ rfl
  refine wpAny_bind (wpAny_holding (wpAny_call_entry slot_list_sort ⟨_, hoL, rfl⟩ entry_list_sort (list_sort_treeK strKind_oneLt hoL hS.keysOf (fun v₁ v₂ rest e => keyKind_strs (by rw [← e]; exact hS)) hvl fun st' a1 a2 => ⟨_, rfl, ?_⟩) (args_list_sort _)))
  obtain ⟨ys, b1, b2, b3⟩ := sorted_out_str hS a1 a2
  obtain ⟨c, hc⟩ := sortedHeap_at (vs := vs) (out := (arrOf st').map (·.2)) hoL
  refine wpAny_pure ⟨_, rfl, hQ _ s1.heap.objs.size _ c ys (fun b u e => ?_) g1 o1 hz hc b1 (b2.trans (hp.trans pl)) b3⟩
  have q := k1 b u e
  have hlt := Heap.lt_size q
  show (sortedHeap (s1.heap.push (seqObj "list" vs.toArray 0)) s1.heap.objs.size vs _).get? b = some u
  rw [sortedHeap_old (Nat.ne_of_lt hlt) (by rw [size_push']; exact Nat.lt_succ_of_lt hlt)]
  exact Heap.get?_push_of_some _ q
end
/-- the set of texts, as an object of the hand layer -/
def SetX (w : World) (a : Addr) (L : List Str) : HO := .ext fun h => SetRS w h a L
section
variable {X : Cx}
theorem setX_new {w : World} {P : Program} {H : Hp} {h : Heap} {a : Addr} {L : List Str} (R : SetRS w h a L) : ObjOk P w H h a (SetX w a L) := by
  have ⟨o, _, _, _, ho, _⟩ := R
  exact ⟨R, ⟨o, ho⟩, fun h1 h2 p k => SetRS.at p k⟩
theorem setX_get {pins : List (Addr × Obj)} {σ : L2.St} {H : Hp} {s : Shared} {a : Addr} {L : List Str} (I : Inv X pins σ H s) (ha : H a = some (SetX X.w a L)) : SetRS X.w s.heap a L := (I.hok a _ ha).1
/-- set(xs) -/
def rSetX (K : PySem.W.Frag) (w : World) : List V → Hp → VK → Prop := fun vs H Q => ∃ (l : Addr) (ks : List Str), vs = [.ref l] ∧ SqL K H l (ks.map V.str) ∧ ks.length + 1 < scanBound ∧ ∀ p, H p = none → Q (.ref p) (upd H p (SetX w p (setL ks)))
theorem cr_setX (hc : X.calm = true) : CallR X (.type "set") (rSetX X.K X.w) := by
  intro pins s σ H vs us Q I r h
  obtain ⟨l, ks, rfl, hs, hb, q⟩ := h
  obtain ⟨its, rv, hl, _⟩ := I.list hs
  rw [Vals.ref1 r]
  have hlen := rv.length
  rw [List.length_map] at hlen
  refine call_setS (I.ok.hd hc) hl.isList rv.strs (by rw [List.size_toArray, ← hlen]; exact hb) fun h' tk R lt k => ?_
  exact ⟨.ref _, upd H s.heap.objs.size (SetX X.w s.heap.objs.size (setL ks)), I.laid (t' := tk) (fun b u e => k b u (Heap.lt_size e) e) (Nat.le_refl _) (setX_new R), rfl, q _ (I.hok.fresh (Nat.le_refl _))⟩
/-- sorted of such a set -/
def rSortX (w : World) : List V → Hp → VK → Prop := fun vs H Q => ∃ (a : Addr) (L : List Str), vs = [V.ref a] ∧ H a = some (SetX w a L) ∧ L.length < 64 ∧
  ∀ (ys : List Str) (p : Addr), ys.Perm L → sortedS ys = true → H p = none → Q (.ref p) (upd H p (.lst (ys.map V.str)))
theorem cr_sortX (hc : X.calm = true) : CallR X (.builtin "sorted") (rSortX X.w) := by
  intro pins s σ H vs us Q I r h
  obtain ⟨a, L, rfl, ha, h64, q⟩ := h
  have R := setX_get I ha
  rw [Vals.ref1 r]
  refine sorted_setS R (I.ok.hd hc) h64 fun s' p out c ys k g o hp hg hi hperm hs => ?_
  have hlen : (ys.map V.str).length ≤ sizeLine := by rw [List.length_map, hperm.length_eq, sizeLine_eq]; omega
  have hn : H p = none := I.hok.fresh hp
  have J : Inv X pins σ (upd H p (.lst (ys.map V.str))) { s with heap := s'.heap, gens := s'.gens, drawn := s'.drawn, toks := s'.toks } :=
    I.call (ch := []) (Un.laid k hp hn) (I.hok.laid k hp ⟨hlen, out.toList, c, vals_of_strs hi, hg⟩) (by rw [g]; exact I.bare) (fun _ z => nomatch z)
  have e : s' = { s with heap := s'.heap, gens := s'.gens, drawn := s'.drawn, toks := s'.toks } := by
    cases s'
    cases s
    cases o
    rfl
  rw [e]
  exact ⟨.ref p, _, J, rfl, q ys p hperm hs hn⟩
end
end DE
end

section
set_option Elab.async false
set_option linter.all false
set_option maxRecDepth 100000
set_option maxHeartbeats 2000000
namespace DE
open PySem L2 PySem.Spec PyProof.Rows
section
variable {c : CC} {k : Nat} {C : Ctx} {X : Cx} {e : Expr} {ce : CE}
/-! built-ins by name -/
theorem biTab_ok : ∀ p ∈ biTab, p.2.1 ≠ 0 ∧ p.1 ∈ biNames ∧ bootBuiltins p.1 = some (biVal p.2.2) ∧ p.1 ≠ "__name__" ∧ (p.1 == ("__debug__" : Str)) = false := by decide +kernel
theorem biOf_ok {x : Str} {n : Nat} {b : Bi} (h : biOf x n = some b) : n ≠ 0 ∧ x ∈ biNames ∧ bootBuiltins x = some (biVal b) ∧ x ≠ "__name__" ∧ (x == ("__debug__" : Str)) = false := by
  unfold biOf at h
  obtain ⟨p, h1, rfl⟩ := omapOk h
  have hm := List.mem_of_find?_eq_some h1
  have hp := List.find?_some h1
  simp only [Bool.and_eq_true, decide_eq_true_eq] at hp
  obtain ⟨rfl, rfl⟩ := hp
  exact biTab_ok p hm
theorem bi_se {x : Str} {b : Bi} {e : Expr} {es : List Expr} {ces : CEs} {p pos : Pos} (g : Good c k C.call X) (hg : gloB c.sc x = true) (hb : biOf x (es.length + 1) = some b) (h : SOs C X (e :: es) ces)
    (h1 : starEach (e :: es) X.env = (false, eval e X.env) :: starEach es X.env) (h2 : (backTo pos (starEach es X.env)).any (·.1) = false) : SE C X (.Call (.Name x p) (e :: es) [] pos) (.bi b ces) := by
  have hx : SX C X (.Call (.Name x p) (e :: es) [] pos) (.bi b ces) := by
    intro B φ G s σ H r s' I ev
    simp only [evX] at ev
    obtain ⟨xs, s1, e1, ev⟩ := bindOk ev
    obtain ⟨ev9, rfl⟩ := optOk ev
    obtain ⟨ds, q1, q2⟩ := obindOk ev9
    obtain ⟨_, hn, hv, hd1, hd2⟩ := biOf_ok hb
    have main : WA X (e :: es) σ H fun vs H1 => SemC X (biVal b) vs H1 (PX X.K B φ G σ r s1) := by
      refine (h B φ G s σ H xs s1 I e1).mono fun vs H1 ⟨φ1, G1, p1, g1, I1, r1⟩ => ?_
      intro pins sh σ' us J rv
      exact thn (bi_ok g.calm I1 (r1.res I1 q1) q2 pins sh σ' us J rv) fun _ _ ⟨w, H', I'', rw', q⟩ => ⟨w, H', I'', rw', q.of p1 g1⟩
    cases b with
    | len => exact we_of (pe_callB cr_sem (gloB_gl g hg) (g.bi x hn) hv pa_WA hd1 hd2 h1 h2) main
    | max => exact we_of (pe_callB cr_sem (gloB_gl g hg) (g.bi x hn) hv pa_WA hd1 hd2 h1 h2) main
    | min => exact we_of (pe_callB cr_sem (gloB_gl g hg) (g.bi x hn) hv pa_WA hd1 hd2 h1 h2) main
    | sum => exact we_of (pe_callB cr_sem (gloB_gl g hg) (g.bi x hn) hv pa_WA hd1 hd2 h1 h2) main
    | all => exact we_of (pe_callB cr_sem (gloB_gl g hg) (g.bi x hn) hv pa_WA hd1 hd2 h1 h2) main
    | any => exact we_of (pe_callB cr_sem (gloB_gl g hg) (g.bi x hn) hv pa_WA hd1 hd2 h1 h2) main
    | sorted => exact we_of (pe_callB cr_sem (gloB_gl g hg) (g.bi x hn) hv pa_WA hd1 hd2 h1 h2) main
    | tuple => exact we_of (pe_callTy cr_sem (gloB_gl g hg) (g.bi x hn) hv pa_WA hd1 hd2 h1 h2) main
    | list => exact we_of (pe_callTy cr_sem (gloB_gl g hg) (g.bi x hn) hv pa_WA hd1 hd2 h1 h2) main
    | int => exact we_of (pe_callTy cr_sem (gloB_gl g hg) (g.bi x hn) hv pa_WA hd1 hd2 h1 h2) main
    | str => exact we_of (pe_callTy cr_sem (gloB_gl g hg) (g.bi x hn) hv pa_WA hd1 hd2 h1 h2) main
    | dict => exact we_of (pe_callTy cr_sem (gloB_gl g hg) (g.bi x hn) hv pa_WA hd1 hd2 h1 h2) main
  exact se_of hx rfl fun _ => rfl
theorem tyTab_ok : ∀ p ∈ tyTab, p.1 ∈ biNames ∧ bootBuiltins p.1 = some (.type (tyStr p.2)) ∧ p.1 ≠ "__name__" ∧ (p.1 == ("__debug__" : Str)) = false := by decide +kernel
theorem tyOf_ok {x : Str} {t : Ty} (h : tyOf x = some t) : x ∈ biNames ∧ bootBuiltins x = some (.type (tyStr t)) ∧ x ≠ "__name__" ∧ (x == ("__debug__" : Str)) = false := by
  unfold tyOf at h
  obtain ⟨p, h1, rfl⟩ := omapOk h
  have hm := List.mem_of_find?_eq_some h1
  have hp := List.find?_some h1
  simp only [decide_eq_true_eq] at hp
  subst hp
  exact tyTab_ok p hm
theorem isi_se {a : Expr} {t : Str} {ty : Ty} {ca : CE} {p pt pos : Pos} (g : Good c k C.call X) (hg : gloB c.sc "isinstance" = true) (hgt : gloB c.sc t = true) (hty : tyOf t = some ty) (h : SE C X a ca)
    (h1 : starEach [a, .Name t pt] X.env = (false, eval a X.env) :: starEach [.Name t pt] X.env) : SE C X (.Call (.Name "isinstance" p) [a, .Name t pt] [] pos) (.isi ca ty) := by
  have hx : SX C X (.Call (.Name "isinstance" p) [a, .Name t pt] [] pos) (.isi ca ty) := by
    intro B φ G s σ H r s' I ev
    simp only [evX] at ev
    obtain ⟨x, s1, e1, ev⟩ := bindOk ev
    obtain ⟨ev9, rfl⟩ := optOk ev
    obtain ⟨dx, q1, q2⟩ := obindOk ev9
    obtain ⟨b, q3, rfl⟩ := omapOk q2
    obtain ⟨hn, hv, hd1, hd2⟩ := tyOf_ok hty
    refine we_of (pe_callB cr_sem (gloB_gl g hg) (g.bi _ (by simp [biNames])) boot_isinstance (pa_cons pe_WE (pa_cons (pe_bltn (v := .ty (tyStr ty)) (gloB_gl g hgt) (g.bi t hn) hv rfl hd1 hd2) pa_nil rfl) h1) (by decide +kernel) (by decide +kernel) h1 rfl) ?_
    refine (h.o B φ G s σ H x s1 I e1).mono fun v H1 ⟨φ1, G1, p1, g1, I1, r1⟩ => ?_
    intro pins sh σ' us J rv
    exact thn (isi_ok I1 (r1.res I1 q1) q3 pins sh σ' us J rv) fun _ _ ⟨w, H', I'', rw', q⟩ => ⟨w, H', I'', rw', q.of p1 g1⟩
  exact se_of hx rfl fun _ => rfl
theorem setL_sub (ks : List Str) : ∀ y ∈ setL ks, y ∈ ks := by
  have : ∀ (ks acc : List Str) (y : Str), y ∈ ks.foldl addL acc → y ∈ acc ∨ y ∈ ks := by
    intro ks
    induction ks with
    | nil => intro acc y h; exact .inl h
    | cons k r ih =>
      intro acc y h
      rw [List.foldl_cons] at h
      rcases ih _ _ h with h | h
      · unfold addL at h
        split at h
        · exact .inl h
        · rcases List.mem_cons.mp h with rfl | h
          · exact .inr (by simp)
          · exact .inl h
      · exact .inr (by simp [h])
  intro y h
  rcases this ks [] y h with h | h
  · cases h
  · exact h
theorem tysOf_pa (g : Good c k C.call X) : ∀ {ts : List Expr} {tys : List Ty}, tysOf c ts = some tys → ∃ t : TA, PA X ts t ∧ ∀ σ H R, R (tys.map fun t => V.ty (tyStr t)) H → t σ H R
  | [], tys, h => by
    cases h
    exact ⟨_, pa_nil, fun σ H R q => q⟩
  | e :: r, tys, h => by
    unfold tysOf at h
    split at h
    · cases ‹_ = []›
    · rename_i t pt r' hq
      cases hq
      split at h
      · rename_i hgt
        obtain ⟨ty, h1, h⟩ := obindOk h
        obtain ⟨tys', h2, rfl⟩ := omapOk h
        obtain ⟨hn, hv, hd1, hd2⟩ := tyOf_ok h1
        obtain ⟨ta, q1, q2⟩ := tysOf_pa g h2
        exact ⟨_, pa_cons (pe_bltn (v := .ty (tyStr ty)) (gloB_gl g hgt) (g.bi t hn) hv rfl hd1 hd2) q1 rfl, fun σ H R q => q2 _ _ _ q⟩
      · cases h
    · cases h
theorem tysOf_len : ∀ {ts : List Expr} {tys : List Ty}, tysOf c ts = some tys → tys.length = ts.length
  | [], tys, h => by cases h; rfl
  | e :: r, tys, h => by
    unfold tysOf at h
    split at h
    · cases ‹_ = []›
    · rename_i hq
      cases hq
      split at h
      · obtain ⟨ty, h1, h⟩ := obindOk h
        obtain ⟨tys', h2, rfl⟩ := omapOk h
        simp [tysOf_len h2]
      · cases h
    · cases h
theorem isiT_se {a : Expr} {ts : List Expr} {tys : List Ty} {ca : CE} {n : Nat} {p pt pos : Pos} (g : Good c k C.call X) (hg : gloB c.sc "isinstance" = true) (hty : tysOf c ts = some tys) (hlen : 0 < tys.length ∧ tys.length ≤ 100) (h : SE C X a ca)
    (h1 : starEach [a, .Tuple ts n pt] X.env = (false, eval a X.env) :: starEach [.Tuple ts n pt] X.env) : SE C X (.Call (.Name "isinstance" p) [a, .Tuple ts n pt] [] pos) (.isiT ca tys) := by
  have hx : SX C X (.Call (.Name "isinstance" p) [a, .Tuple ts n pt] [] pos) (.isiT ca tys) := by
    intro B φ G s σ H r s' I ev
    simp only [evX] at ev
    obtain ⟨x, s1, e1, ev⟩ := bindOk ev
    obtain ⟨ev9, rfl⟩ := optOk ev
    obtain ⟨dx, q1, q2⟩ := obindOk ev9
    obtain ⟨b, q3, rfl⟩ := omapOk q2
    obtain ⟨ta, pa, hta⟩ := tysOf_pa g hty
    refine we_of (pe_callB cr_sem (gloB_gl g hg) (g.bi _ (by simp [biNames])) boot_isinstance (pa_cons pe_WE (pa_cons (pe_tup pa) pa_nil rfl) h1) (by decide +kernel) (by decide +kernel) h1 rfl) ?_
    refine (h.o B φ G s σ H x s1 I e1).mono fun v H1 ⟨φ1, G1, p1, g1, I1, r1⟩ => ?_
    refine hta _ _ _ ⟨by rw [List.length_map, sizeLine_eq]; omega, fun T hT => ?_⟩
    intro pins sh σ' us J rv
    have I2 := I1.new (o := .tup (tys.map fun t => V.ty (tyStr t))) hT
    have rr := (r1.mono List.prefix_rfl (same_upd (o := .tup (tys.map fun t => V.ty (tyStr t))) hT I1.same)).res I2 q1
    cases tys with
    | nil =>
      simp at hlen
    | cons t tys =>
      exact thn (semc_of call_isiT ⟨v, T, _, _, _, b, rfl, upd_same, clsV_all _, isiTD_ty I2 rr q3, kit_any I2 rr q3, px_d I2 (.bl _)⟩ pins sh σ' us J rv) fun _ _ ⟨w, H', I'', rw', q⟩ =>
        ⟨w, H', I'', rw', (q.of List.prefix_rfl (same_upd (o := .tup ((t :: tys).map fun t => V.ty (tyStr t))) hT I1.same)).of p1 g1⟩
  exact se_of hx rfl fun _ => rfl
theorem sset_se {a : Expr} {ca : CE} {p p2 pos pos2 : Pos} (g : Good c k C.call X) (hg : gloB c.sc "sorted" = true) (hg2 : gloB c.sc "set" = true) (h : SE C X a ca)
    (h1 : starEach [a] X.env = [(false, eval a X.env)]) : SE C X (.Call (.Name "sorted" p) [.Call (.Name "set" p2) [a] [] pos2] [] pos) (.sset ca) := by
  have hx : SX C X (.Call (.Name "sorted" p) [.Call (.Name "set" p2) [a] [] pos2] [] pos) (.sset ca) := by
    intro B φ G s σ H r s' I ev
    simp only [evX] at ev
    obtain ⟨x, s1, e1, ev⟩ := bindOk ev
    obtain ⟨ev9, rfl⟩ := optOk ev
    obtain ⟨dx, q1, q2⟩ := obindOk ev9
    unfold ssetD at q2
    split at q2
    · obtain ⟨ss, q3, q4⟩ := obindOk q2
      rw [strsD_eq q3] at q1
      split at q4
      · rename_i hl
        cases q4
        refine we_of (pe_callB (cr_sortX g.calm) (gloB_gl g hg) (g.bi _ (by simp [biNames])) (by decide +kernel) (pa_cons (pe_callTy (cr_setX g.calm) (gloB_gl g hg2) (g.bi _ (by simp [biNames])) (by decide +kernel) (pa_cons pe_WE pa_nil h1) (by decide +kernel) (by decide +kernel) h1 rfl) pa_nil rfl) (by decide +kernel) (by decide +kernel) rfl rfl) ?_
        refine (h.o B φ G s σ H x s1 I e1).mono fun v H1 ⟨φ1, G1, p1, g1, I1, r1⟩ => ?_
        obtain ⟨l, ws, rfl, hl1, ra⟩ := (r1.res I1 q1).lst I1.same
        obtain ⟨rfl, ok⟩ := rep_strs ra
        have hlen := setL_len ss
        refine ⟨l, ss, rfl, SqL.of hl1, by unfold scanBound; omega, fun q hq => ⟨q, setL ss, rfl, upd_same, by omega, fun ys p0 hp hs hn => ?_⟩⟩
        have I2 := I1.lay (o := SetX X.w q (setL ss)) hq
        rw [sorted_unique hp hs]
        have ok2 : ∀ y ∈ (setL ss).mergeSort leS, PyData.strOk y = true := fun y hy => ok y (setL_sub ss y ((List.mergeSort_perm _ _).mem_iff.mp hy))
        exact (px_fr I2 hn (strs_rep ok2)).of p1 g1
      · cases q4
    · cases q2
  exact se_of hx rfl fun _ => rfl
theorem ss_of (h : SX C X e ce) {B : Bs} {φ : List Addr} {G : Hp} {s : S} {σ : L2.St} {H : Hp} {i : Str} {s' : S} (I : SR X.K B φ G s σ H) (ev : asS (evX C ce s) = .ok i s') :
    WE X e σ H fun v H' => v = .str i ∧ PyData.strOk i = true ∧ ∃ φ' G', φ <+: φ' ∧ Same G G' ∧ SR X.K B φ' G' s' σ H' := by
  obtain ⟨r, s1, e1, e2⟩ := bindOk ev
  have : r = .d (.str i) ∧ s1 = s' := by
    split at e2
    · cases e2; exact ⟨rfl, rfl⟩
    · cases e2
  obtain ⟨rfl, rfl⟩ := this
  exact (h B φ G s σ H _ _ I e1).mono fun v H' ⟨φ1, G1, p, sg, I1, q⟩ => by
    cases (show Rep X.K φ1 G1 (.str i) v from q)
    exact ⟨rfl, by assumption, φ1, G1, p, sg, I1⟩
theorem notCall0_base {o : Expr} (h : notCall0 o = true) (x : Str) (env : PySem.Env) (w : Sem Value) : attributeBase o x env w = w := by
  cases o <;> first | rfl | cases h
theorem join_se {o a : Expr} {co ca : CE} {ap pos : Pos} (ho : SE C X o co) (ha : SE C X a ca) (hb : notCall0 o = true) (hl : (ap.endLine == pos.line) = true) (h1 : starEach [a] X.env = [(false, eval a X.env)]) :
    SE C X (.Call (.Attribute o "join" ap) [a] [] pos) (.join co ca) := by
  have hx : SX C X (.Call (.Attribute o "join" ap) [a] [] pos) (.join co ca) := by
    intro B φ G s σ H r s' I ev
    simp only [evX] at ev
    obtain ⟨sep, s1, e1, ev⟩ := bindOk ev
    obtain ⟨y, s2, e2, ev⟩ := bindOk ev
    obtain ⟨ev9, rfl⟩ := optOk ev
    obtain ⟨dy, q1, q2⟩ := obindOk ev9
    refine we_of (pe_bm PySem.F.plainAttrs_str PySem.F.slot_str_join PySem.F.type_str_join mt_join pe_WE (pa_cons pe_WE pa_nil h1) (notCall0_base hb _ _ _) (by rw [h1]; rfl) hl h1 rfl) ?_
    refine (ss_of ho.x I e1).mono fun v H1 ⟨qv, ok, φ1, G1, p1, g1, I1⟩ => ⟨by rw [qv]; rfl, ?_⟩
    refine (ha.o B φ1 G1 s1 σ H1 y s2 I1 e2).mono fun u H2 ⟨φ2, G2, p2, g2, I2, r2⟩ => ?_
    split at q2
    · obtain ⟨ss, q3, q4⟩ := obindOk q2
      split at q4
      · rename_i hz
        cases q4
        have r3 := r2.res I2 q1
        rw [strsD_eq q3] at r3
        obtain ⟨l, ws, rfl, h3, ra⟩ := r3.lst I2.same
        obtain ⟨rfl, oks⟩ := rep_strs ra
        exact ⟨sep, l, ss, qv, rfl, .inl (SqL.of h3), hz, φ2, G2, p1.trans p2, g1.trans g2, I2, .str _ (strOk_join ok oks)⟩
      · cases q4
    · cases q2
  exact se_of hx rfl fun _ => rfl
theorem pop_se {x : Str} {i : Nat} {px ap pos : Pos} (g : Good c k C.call X) (hv : visB c.sc x = true) (hs : slotOf c x = some i) (hl : (ap.endLine == pos.line) = true) : SE C X (.Call (.Attribute (.Name x px) "pop" ap) [] [] pos) (.pop i) := by
  have hx : SX C X (.Call (.Attribute (.Name x px) "pop" ap) [] [] pos) (.pop i) := by
    intro B φ G s σ H r s' I ev
    simp only [evX] at ev
    split at ev
    · rename_i xs hg
      split at ev
      · rename_i y hy
        cases ev
        obtain ⟨v, e1, a, vs, rfl, hb, hG, np, hH, ra⟩ := I.env i _ hg
        refine we_of (pe_bm0 PySem.F.plainAttrs_list PySem.F.slot_list_pop PySem.F.type_list_pop mt_pop pe_WE rfl hl) ?_
        refine name_we g hv hs e1 ⟨.inl ⟨rfl, _, SqL.of hH⟩, ?_⟩
        obtain ⟨u, hu, ru⟩ := ra.get hy
        exact ⟨a, vs, u, rfl, rfl, hH, by rw [← ra.length]; exact hu, φ, G, List.prefix_rfl, Same.refl _, I.setOwn hg e1 ra.dropLast, ru⟩
      · cases ev
    · cases ev
  exact se_of hx rfl fun _ => rfl
/-- a comprehension as a value -/
theorem comp_se {scope : Scope} {tg it elt : Expr} {ifs : List Expr} {ct : CT} {ci : CI} {cs : CEs} {own : List (Str × Nat)} {pos : Pos} (g : Good c k C.call X) (ok : BlkOk X.N X.env.scope scope own) (hset : ∀ x, foldedSetIterable it X.env x = pure x)
    (hi : SIt C X tg it ci true) (hg : ∀ Y, BlkX X Y scope → SGo Y tg ct) (ht : ∀ Y, BlkX X Y scope → STs C Y ifs cs) (he : ∀ Y, BlkX X Y scope → SE C Y elt ce)
    (hown : ∀ j ∈ tgtS ct, j ∈ own.map (·.2)) : SE C X (.ListComp elt [⟨tg, it, ifs, 0⟩] scope pos) (.comp (own.map (·.2)) ct ci cs ce) := by
  have hx : SX C X (.ListComp elt [⟨tg, it, ifs, 0⟩] scope pos) (.comp (own.map (·.2)) ct ci cs ce) := by
    intro B φ G s σ H r s' I ev
    have core := comp_core g hi hg ht he hown I ev (fun _ _ z => z)
    exact we_of (pe_lc g.calm (by rw [g.hN]; exact g.nd) pi_WI ok
      (fun s H D cl fp => ⟨fun pins s' σ H' v u Q J r h => h _ ⟨⟨s, H, D, cl, fp, rfl⟩⟩ pins s' u J r⟩)
      (fun s H D cl fp => ⟨fun pins s' σ H' Q J h => h _ ⟨⟨s, H, D, cl, fp, rfl⟩⟩ pins s' J⟩)
      (fun s H D cl fp => ⟨fun pins s' σ H' Q J h => h _ ⟨⟨s, H, D, cl, fp, rfl⟩⟩ pins s' J⟩) hset) core
  exact se_of hx rfl fun _ => rfl
end
end DE
end

section
set_option Elab.async false
set_option linter.all false
set_option maxRecDepth 100000
set_option maxHeartbeats 4000000
namespace DE
open PySem L2 PySem.Spec PyProof.Rows
section
variable {k : Nat} {C : Ctx}
theorem star_E {c : CC} {m : Nat} {pk : Bool} {e : Expr} {ce : CE} (h : compE c m pk e = some ce) (es : List Expr) (env : PySem.Env) : starEach (e :: es) env = (false, eval e env) :: starEach es env := by
  cases m with
  | zero => simp [compE] at h
  | succ m => cases e <;> first | rfl | simp [compE] at h
theorem back_any {c : CC} {pk : Bool} {pos : Pos} {env : PySem.Env} : ∀ {m : Nat} {es : List Expr} {ces : CEs}, compL' c m pk es = some ces → (backTo pos (starEach es env)).any (·.1) = false
  | 0, _, _, h => by simp [compL'] at h
  | m + 1, [], _, _ => rfl
  | m + 1, e :: es, ces, h => by
    simp only [compL'] at h
    obtain ⟨x, h1, h⟩ := obindOk h
    obtain ⟨xs, h2, rfl⟩ := omapOk h
    rw [star_E h1]
    exact back_any h2
theorem set_E {c : CC} {m : Nat} {pk : Bool} {e : Expr} {ce : CE} (h : compE c m pk e = some ce) (env : PySem.Env) (x : Value) : foldedSetIterable e env x = pure x := by
  cases m with
  | zero => simp [compE] at h
  | succ m => cases e <;> first | rfl | simp [compE] at h
structure IH (k : Nat) (C : Ctx) (m : Nat) : Prop where
  e : ∀ (c : CC) (pk : Bool) (e : Expr) (ce : CE) (X : Cx), Good c k C.call X → compE c m pk e = some ce → SE C X e ce
  l : ∀ (c : CC) (pk : Bool) (es : List Expr) (ces : CEs) (X : Cx), Good c k C.call X → compL' c m pk es = some ces → SLs C X es ces ∧ SOs C X es ces
  o : ∀ (c : CC) (oe : Option Expr) (co : CO) (X : Cx), Good c k C.call X → compO c m oe = some co → SP' C X oe co
  i : ∀ (c : CC) (pk : Bool) (tg it : Expr) (ci : CI) (X : Cx), Good c k C.call X → compI c m pk (isTup tg) it = some ci → SIt C X tg it ci pk
theorem npk_ok {pk : Bool} {x : CE} (h : npk pk x = true) : pk = false → isPk x = false := by
  intro e
  subst e
  simpa [npk] using h
theorem ih_l {m : Nat} (ih : IH k C m) (c : CC) (pk : Bool) (es : List Expr) (ces : CEs) (X : Cx) (g : Good c k C.call X) (h : compL' c (m + 1) pk es = some ces) : SLs C X es ces ∧ SOs C X es ces := by
  cases es with
  | nil =>
    simp only [compL'] at h
    cases h
    exact ⟨nil_sl, nil_so⟩
  | cons e es =>
    simp only [compL'] at h
    obtain ⟨x, h1, h⟩ := obindOk h
    obtain ⟨xs, h2, rfl⟩ := omapOk h
    obtain ⟨q1, q2⟩ := ih.l c pk es xs X g h2
    have q := ih.e c pk e x X g h1
    exact ⟨cons_sl (star_E h1 _ _) q q1, cons_so (star_E h1 _ _) q q2⟩
theorem ih_o {m : Nat} (ih : IH k C m) (c : CC) (oe : Option Expr) (co : CO) (X : Cx) (g : Good c k C.call X) (h : compO c (m + 1) oe = some co) : SP' C X oe co := by
  cases oe with
  | none =>
    simp only [compO] at h
    cases h
    exact non_sp
  | some e =>
    simp only [compO] at h
    obtain ⟨x, h1, rfl⟩ := omapOk h
    exact som_sp (ih.e c false e x X g h1)
theorem sts_of {m : Nat} (ih : ∀ n, n < m → IH k C n) (c : CC) (es : List Expr) (ces : CEs) (X : Cx) (g : Good c k C.call X) (h : compL' c m false es = some ces) : STs C X es ces := by
  cases m with
  | zero => simp [compL'] at h
  | succ m =>
    cases es with
    | nil =>
      simp only [compL'] at h
      cases h
      exact nil_sts
    | cons e es =>
      simp only [compL'] at h
      obtain ⟨x, h1, h⟩ := obindOk h
      obtain ⟨xs, h2, rfl⟩ := omapOk h
      cases m with
      | zero => simp [compE] at h1
      | succ m =>
        cases es with
        | nil =>
          simp only [compL'] at h2
          cases h2
          exact one_sts ((ih (m + 1) (Nat.lt_succ_self _)).e c false e x X g h1)
        | cons e2 es2 =>
          simp only [compL'] at h2
          obtain ⟨x2, h3, h2⟩ := obindOk h2
          obtain ⟨xs2, h4, rfl⟩ := omapOk h2
          intro B φ G s σ H b s' I ev
          simp only [evBs] at ev
          cases ev
theorem ih_i {m : Nat} (ih : IH k C m) (c : CC) (pk : Bool) (tg it : Expr) (ci : CI) (X : Cx) (g : Good c k C.call X) (h : compI c (m + 1) pk (isTup tg) it = some ci) : SIt C X tg it ci pk := by
  have seq : ∀ {ci : CI}, ((compE c m pk it).bind fun x => if npk pk x then some (CI.seq x) else none) = some ci → SIt C X tg it ci pk := by
    intro ci h
    obtain ⟨x, h1, h⟩ := obindOk h
    split at h
    · rename_i hn
      cases h
      exact seq_it (ih.e c pk it x X g h1) (npk_ok hn)
    · cases h
  unfold compI at h
  split at h
  · rename_i f pf a pos
    split at h
    · rename_i hf
      simp only [Bool.and_eq_true, decide_eq_true_eq] at hf
      obtain ⟨hg, rfl⟩ := hf
      obtain ⟨x, h1, rfl⟩ := omapOk h
      exact range_it1 g hg (ih.e c false a x X g h1) (star_E h1 _ _)
    · split at h
      · rename_i hf
        simp only [Bool.and_eq_true, decide_eq_true_eq] at hf
        obtain ⟨hg, rfl⟩ := hf
        split at h
        · rename_i ht
          obtain ⟨x, h1, h⟩ := obindOk h
          split at h
          · rename_i hn
            cases h
            cases tg <;> simp [isTup] at ht
            exact enum_it g hg (ih.e c pk a x X g h1) (npk_ok hn) (star_E h1 _ _)
          · cases h
        · cases h
      · exact seq h
  · rename_i f pf a b pos
    split at h
    · rename_i hf
      simp only [Bool.and_eq_true, decide_eq_true_eq] at hf
      obtain ⟨hg, rfl⟩ := hf
      obtain ⟨x, h1, h⟩ := obindOk h
      obtain ⟨y, h2, rfl⟩ := omapOk h
      exact range_it2 g hg (ih.e c false a x X g h1) (ih.e c false b y X g h2) (by rw [star_E h1, star_E h2]; rfl) (by rw [star_E h2]; rfl)
    · split at h
      · rename_i hf
        simp only [Bool.and_eq_true, decide_eq_true_eq] at hf
        obtain ⟨hg, rfl⟩ := hf
        split at h
        · rename_i ht
          obtain ⟨x, h1, h⟩ := obindOk h
          obtain ⟨y, h2, h⟩ := obindOk h
          split at h
          · rename_i hn
            rw [Bool.and_eq_true] at hn
            cases h
            cases tg <;> simp [isTup] at ht
            exact zip_it g hg (ih.e c pk a x X g h1) (ih.e c pk b y X g h2) (npk_ok hn.1) (npk_ok hn.2) (star_E h1 _ _) (by rw [star_E h2]; rfl)
          · cases h
        · cases h
      · exact seq h
  · cases h
  · exact seq h
theorem plainIx_of {b : Expr} (h1 : ∀ l u st p, b ≠ .Slice l u st p) : PlainIx b := by
  intro o i
  cases b <;> first | rfl | exact absurd rfl (h1 _ _ _ _)
theorem isM1_eq {st : Expr} (h : isM1 st = true) : ∃ n p p2, st = .UnaryOp .USub (.Constant (.int 1) n p) p2 := by
  unfold isM1 at h
  split at h
  · exact ⟨_, _, _, rfl⟩
  · cases h
theorem rev_se {c : CC} {X : Cx} {a : Expr} {ca : CE} {n : Nat} {p1 p2 p3 pos : Pos} (ha : SE C X a ca) : SE C X (.Subscript a (.Slice none none (some (.UnaryOp .USub (.Constant (.int 1) n p1) p2)) p3) pos) (.rev ca) := by
  have hx : SX C X (.Subscript a (.Slice none none (some (.UnaryOp .USub (.Constant (.int 1) n p1) p2)) p3) pos) (.rev ca) := by
    intro B φ G s σ H r s' I ev
    simp only [evX] at ev
    obtain ⟨x, s1, e1, ev⟩ := bindOk ev
    obtain ⟨ev9, rfl⟩ := optOk ev
    obtain ⟨dx, q1, q2⟩ := obindOk ev9
    unfold revD at q2
    split at q2
    · cases q2
      refine we_of (pe_revL pe_WE) ?_
      refine (ha.o B φ G s σ H x _ I e1).mono fun v H1 ⟨φ1, G1, p, g, I1, r1⟩ => ?_
      obtain ⟨l, vs, rfl, h1, ra⟩ := (r1.res I1 q1).lst I1.same
      exact ⟨l, vs, rfl, SqL.of h1, fun q hq => (px_fr I1 hq ra.reverse).of p g⟩
    · cases q2
      refine we_of (pe_revT pe_WE) ?_
      refine (ha.o B φ G s σ H x _ I e1).mono fun v H1 ⟨φ1, G1, p, g, I1, r1⟩ => ?_
      obtain ⟨l, vs, rfl, h1, h2, ra⟩ := (r1.res I1 q1).tup I1.same
      exact ⟨l, vs, rfl, h1, fun q hq => (px_tup I1 hq ra.reverse).of p g⟩
    · cases q2
  exact se_of hx rfl fun _ => rfl
theorem own_ok {c : CC} {scope : Scope} {j : Nat} : True := trivial
end
end DE
end

section
set_option Elab.async false
set_option linter.all false
set_option maxRecDepth 100000
set_option maxHeartbeats 4000000
namespace DE
open PySem L2 PySem.Spec PyProof.Rows
section
variable {k : Nat} {C : Ctx}
theorem set_I {c : CC} {m : Nat} {pk tp : Bool} {it : Expr} {ci : CI} (h : compI c m pk tp it = some ci) (env : PySem.Env) (x : Value) : foldedSetIterable it env x = pure x := by
  cases m with
  | zero => simp [compI] at h
  | succ m => cases it <;> first | rfl | simp [compI] at h
theorem ssetArg_eq {c : CC} {f : Str} {args : List Expr} {a : Expr} (h : ssetArg c f args = some a) : f = "sorted" ∧ ∃ g p2 pos2, args = [.Call (.Name g p2) [a] [] pos2] ∧ g = "set" ∧ gloB c.sc "set" = true := by
  unfold ssetArg at h
  split at h
  · split at h
    · rename_i q
      cases h
      obtain ⟨q1, q2, q3⟩ := q
      subst q2
      exact ⟨q1, _, _, _, rfl, rfl, q3⟩
    · cases h
  · cases h
theorem ih_e {m : Nat} (ihs : ∀ n, n < m + 1 → IH k C n) (c : CC) (pk : Bool) (e : Expr) (ce : CE) (X : Cx) (g : Good c k C.call X) (h : compE c (m + 1) pk e = some ce) : SE C X e ce := by
  have ih := ihs m (Nat.lt_succ_self _)
  unfold compE at h
  split at h
  case h_1 => cases h
  case h_2 =>
    split at h
    · obtain ⟨i, h1, rfl⟩ := omapOk h
      exact name_se g (by assumption) h1
    · split at h
      · rename_i q
        simp only [Bool.and_eq_true, Bool.not_eq_true'] at q
        obtain ⟨d, h1, rfl⟩ := omapOk h
        exact glb_se g q.1 q.2 h1
      · cases h
  case h_3 =>
    obtain ⟨d, h1, rfl⟩ := omapOk h
    exact con_se h1
  case h_4 =>
    rename_i hq
    cases hq
    obtain ⟨o, h1, h⟩ := obindOk h
    obtain ⟨x, h2, h⟩ := obindOk h
    obtain ⟨y, h3, rfl⟩ := omapOk h
    exact bin_se h1 (ih.e c true _ x X g h2) (ih.e c true _ y X g h3)
  case h_5 =>
    rename_i hq
    cases hq
    obtain ⟨x, h1, rfl⟩ := omapOk h
    exact not_se (ih.e c false _ x X g h1)
  case h_6 =>
    rename_i hq
    cases hq
    obtain ⟨x, h1, rfl⟩ := omapOk h
    exact neg_se (ih.e c false _ x X g h1)
  case h_7 =>
    rename_i hq
    cases hq
    exact one_se (ih.e c false _ _ X g h)
  case h_8 =>
    rename_i hq
    cases hq
    obtain ⟨x, h1, h⟩ := obindOk h
    obtain ⟨y, h2, rfl⟩ := omapOk h
    exact and_se (ih.e c false _ x X g h1) (ih.e c false _ y X g h2)
  case h_9 =>
    rename_i hq
    cases hq
    obtain ⟨x, h1, h⟩ := obindOk h
    obtain ⟨y, h2, rfl⟩ := omapOk h
    exact or_se (ih.e c false _ x X g h1) (ih.e c false _ y X g h2)
  case h_10 =>
    rename_i hq
    cases hq
    split at h
    · obtain ⟨x, h1, h⟩ := obindOk h
      obtain ⟨y, h2, rfl⟩ := omapOk h
      exact cmp_se g (by assumption) (ih.e c true _ x X g h1) (ih.e c true _ y X g h2)
    · cases h
  case h_11 =>
    rename_i hq
    cases hq
    split at h
    · rename_i q
      rw [Bool.and_eq_true] at q
      obtain ⟨x, h1, h⟩ := obindOk h
      obtain ⟨y, h2, h⟩ := obindOk h
      obtain ⟨z, h3, rfl⟩ := omapOk h
      exact chn_se g q.1 q.2 (ih.e c true _ x X g h1) (ih.e c true _ y X g h2) (ih.e c true _ z X g h3)
    · cases h
  case h_12 =>
    rename_i hq
    cases hq
    obtain ⟨x, h1, h⟩ := obindOk h
    obtain ⟨y, h2, h⟩ := obindOk h
    obtain ⟨z, h3, rfl⟩ := omapOk h
    exact ife_se (ih.e c false _ x X g h1) (ih.e c false _ y X g h2) (ih.e c false _ z X g h3)
  case h_13 =>
    rename_i hq
    cases hq
    obtain ⟨xs, h1, rfl⟩ := omapOk h
    exact tup_se (ih.l c false _ xs X g h1).1
  case h_14 =>
    rename_i hq
    cases hq
    obtain ⟨xs, h1, rfl⟩ := omapOk h
    have q := (ih.l c false _ xs X g h1).1
    split
    · exact lstL_se q
    · exact lst_se q
  case h_15 =>
    rename_i hq
    cases hq
    obtain ⟨x, h1, h⟩ := obindOk h
    obtain ⟨l, h2, h⟩ := obindOk h
    obtain ⟨u, h3, rfl⟩ := omapOk h
    exact slc_se (ih.e c true _ x X g h1) (ih.o c _ l X g h2) (ih.o c _ u X g h3)
  case h_16 =>
    rename_i hq
    cases hq
    split at h
    · rename_i q
      obtain ⟨n, p, p2, rfl⟩ := isM1_eq q
      obtain ⟨x, h1, rfl⟩ := omapOk h
      exact rev_se (c := c) (ih.e c true _ x X g h1)
    · cases h
  case h_17 =>
    rename_i hq
    cases hq
    split at h
    · cases h
    · cases h
    · rename_i n1 n2
      obtain ⟨x, h1, h⟩ := obindOk h
      obtain ⟨y, h2, rfl⟩ := omapOk h
      exact idx_se g (plainIx_of fun l u st p z => n1 l u st p z) (ih.e c true _ x X g h1) (ih.e c true _ y X g h2)
  case h_18 =>
    rename_i f pf args pos hq
    cases hq
    split at h
    · rename_i hg
      split at h
      · rename_i hf
        subst hf
        split at h
        · split at h
          · rename_i hgt
            obtain ⟨ty, h1, h⟩ := obindOk h
            obtain ⟨x, h2, rfl⟩ := omapOk h
            exact isi_se g hg hgt h1 (ih.e c true _ x X g h2) (star_E h2 _ _)
          · cases h
        · obtain ⟨tys, h1, h⟩ := obindOk h
          split at h
          · rename_i hl
            obtain ⟨x, h2, rfl⟩ := omapOk h
            exact isiT_se g hg h1 hl (ih.e c true _ x X g h2) (star_E h2 _ _)
          · cases h
        · cases h
      · split at h
        · rename_i a ha
          obtain ⟨x, h1, rfl⟩ := omapOk h
          obtain ⟨rfl, g2, p2, pos2, rfl, rfl, hg2⟩ := ssetArg_eq ha
          exact sset_se g hg hg2 (ih.e c true _ x X g h1) (star_E h1 _ _)
        · split at h
          · rename_i b hb
            obtain ⟨xs, h1, rfl⟩ := omapOk h
            cases args with
            | nil => exact absurd rfl (biOf_ok hb).1
            | cons a es =>
              obtain ⟨n, rfl⟩ : ∃ n, m = n + 1 := by
                cases m with
                | zero => simp [compL'] at h1
                | succ n => exact ⟨n, rfl⟩
              have h1' := h1
              simp only [compL'] at h1'
              obtain ⟨x, h2, h3⟩ := obindOk h1'
              obtain ⟨ys, h4, _⟩ := omapOk h3
              exact bi_se g hg hb (ih.l c true _ xs X g h1).2 (star_E h2 _ _) (back_any h4)
          · obtain ⟨i, h0, h⟩ := obindOk h
            obtain ⟨xs, h1, rfl⟩ := omapOk h
            obtain ⟨n, rfl⟩ : ∃ n, m = n + 1 := by
              cases m with
              | zero => simp [compL'] at h1
              | succ n => exact ⟨n, rfl⟩
            cases args with
            | nil =>
              simp only [compL'] at h1
              cases h1
              exact call0_se g hg h0
            | cons a es =>
              have h1' := h1
              simp only [compL'] at h1'
              obtain ⟨x, h2, h3⟩ := obindOk h1'
              obtain ⟨ys, h4, _⟩ := omapOk h3
              exact call_se g hg h0 (ih.l c false _ xs X g h1).1 (star_E h2 _ _) (back_any h4)
    · cases h
  case h_19 =>
    rename_i hq
    cases hq
    split at h
    · rename_i hl
      split at h
      · rename_i q
        simp only [Bool.and_eq_true, decide_eq_true_eq] at q
        obtain ⟨rfl, hv⟩ := q
        obtain ⟨i, h1, rfl⟩ := omapOk h
        exact pop_se g hv h1 hl
      · cases h
    · cases h
  case h_20 =>
    rename_i hq
    cases hq
    split at h
    · rename_i hl
      split at h
      · rename_i q
        simp only [Bool.and_eq_true, decide_eq_true_eq] at q
        obtain ⟨rfl, hn⟩ := q
        obtain ⟨x, h1, h⟩ := obindOk h
        obtain ⟨y, h2, rfl⟩ := omapOk h
        exact join_se (ih.e c false _ x X g h1) (ih.e c true _ y X g h2) hn hl (star_E h2 _ _)
      · split at h
        · obtain ⟨x, h1, h⟩ := obindOk h
          obtain ⟨y, h2, rfl⟩ := omapOk h
          have hx : ∀ e', SX C X e' (.split x y) := by
            intro e' B φ G s σ H r s' I ev
            simp only [evX] at ev
            cases ev
          exact se_of (hx _) rfl fun _ => rfl
        · cases h
    · cases h
  case h_21 =>
    rename_i elt tg it ifs scope pos hq
    cases hq
    dsimp only at h
    split at h
    · rename_i hb
      obtain ⟨i, h1, h⟩ := obindOk h
      obtain ⟨t, h2, h⟩ := obindOk h
      obtain ⟨cs, h3, h⟩ := obindOk h
      split at h
      · rename_i hown
        obtain ⟨x, h4, rfl⟩ := omapOk h
        refine comp_se g (by rw [g.hN, g.sc]; exact blkOk_by hb) ?_ (ih.i c true _ _ i X g h1) (fun Y hY => compT_sg (g.blk hY) m _ t h2) (fun Y hY => sts_of (fun n hn => ihs n (Nat.lt_succ_of_lt hn)) _ _ cs Y (g.blk hY) h3) (fun Y hY => ih.e _ false _ x Y (g.blk hY) h4) ?_
        · exact set_I h1 _
        · intro j hj
          have := (List.all_eq_true.mp hown) j hj
          simpa using this
      · cases h
    · cases h
  case h_22 => cases h
theorem allIH : ∀ m, IH k C m := by
  intro m
  induction m using Nat.strongRecOn with
  | ind m ihs =>
    cases m with
    | zero => exact ⟨fun _ _ _ _ _ _ h => by simp [compE] at h, fun _ _ _ _ _ _ h => by simp [compL'] at h, fun _ _ _ _ _ h => by simp [compO] at h, fun _ _ _ _ _ _ _ h => by simp [compI] at h⟩
    | succ m =>
      have ih := ihs m (Nat.lt_succ_self _)
      exact ⟨ih_e ihs, ih_l ih, ih_o ih, ih_i ih⟩
end
end DE
end

section
set_option Elab.async false
set_option linter.all false
set_option maxRecDepth 100000
set_option maxHeartbeats 4000000
namespace DE
open PySem L2 PySem.Spec PyProof.Rows
section
variable {K : PySem.W.Frag} {B : Bs} {φ φ' : List Addr} {G G' H H' : Hp} {s s' : S} {σ : L2.St}
theorem get_lt {i : Nat} {x : Slot} (e : s.get i = some x) : i < s.env.length := by
  unfold S.get at e
  cases q : s.env[i]? with
  | none => rw [q] at e; cases e
  | some _ => exact (List.getElem?_eq_some_iff.mp q).1
/-- one's own list is given out -/
theorem SR.frzOwn {i : Nat} {xs : List D} (I : SR K B φ G s σ H) (e : s.get i = some (.own xs)) : ∃ G', Same G G' ∧ SR K B φ G' (s.put i (.val (.lst xs))) σ H := by
  obtain ⟨v, e1, a, vs, rfl, b, g, np, h, r⟩ := I.env i _ e
  have hi := get_lt e
  have sg : Same G (upd G a (.lst vs)) := fun c u q => by rw [upd_ne (ne_of_none q g)]; exact q
  refine ⟨upd G a (.lst vs), sg, ⟨I.ext.pre, I.ext.same.trans sg, I.ext.frame, fun c q n z => ?_, I.ext.newP⟩, fun c u q => ?_, ⟨I.st.len, I.st.nd, fun n ds q => ?_⟩, fun j sl q => ?_, fun j l ys zs w q1 q2 q3 q4 => ?_, by simp [S.put, I.len]⟩
  · have ne : c ≠ a := fun y => by rw [y] at q; exact q b
    rw [upd_ne ne]; exact I.ext.newG c q n z
  · by_cases z : c = a
    · subst z; rw [upd_same] at q; cases q; exact h
    · rw [upd_ne z] at q; exact I.same c u q
  · obtain ⟨c, ws, q1, q2, q3, q4⟩ := I.st.cell n ds q
    have ne : c ≠ a := fun z => np (z ▸ List.mem_of_getElem? q1)
    exact ⟨c, ws, q1, by rw [upd_ne ne]; exact q2, q3, RepA.mono List.prefix_rfl sg q4⟩
  · rw [get_put hi] at q
    by_cases z : j = i
    · subst z
      rw [if_pos rfl] at q
      cases q
      exact ⟨_, e1, .lst upd_same (RepA.mono List.prefix_rfl sg r)⟩
    · rw [if_neg z] at q
      obtain ⟨w, w1, w2⟩ := I.env j sl q
      refine ⟨w, w1, ?_⟩
      cases sl with
      | val d => exact Rep.mono List.prefix_rfl sg w2
      | own ds =>
        obtain ⟨c, ws, r1, r2, r3, r4, r5, r6⟩ := w2
        have ne : c ≠ a := fun y => by
          subst y; subst r1
          exact z (I.dis j i ds xs _ q e w1 e1)
        exact ⟨c, ws, r1, r2, by rw [upd_ne ne]; exact r3, r4, r5, RepA.mono List.prefix_rfl sg r6⟩
      | ro ds =>
        obtain ⟨c, ws, r1, r2, r3, r4⟩ := w2
        exact ⟨c, ws, r1, r2, r3, RepA.mono List.prefix_rfl sg r4⟩
  · rw [get_put hi] at q1 q2
    by_cases z : j = i
    · rw [if_pos z] at q1; cases q1
    · by_cases z2 : l = i
      · rw [if_pos z2] at q2; cases q2
      · rw [if_neg z] at q1
        rw [if_neg z2] at q2
        exact I.dis j l ys zs w q1 q2 q3 q4
theorem SR.frz {i : Nat} (I : SR K B φ G s σ H) : ∃ G', Same G G' ∧ SR K B φ G' (frzS s i) σ H := by
  unfold frzS
  split
  · exact I.frzOwn (by assumption)
  · exact ⟨G, Same.refl _, I⟩
theorem SR.frzs : ∀ {is : List Nat} {G : Hp} {s : S}, SR K B φ G s σ H → ∃ G', Same G G' ∧ SR K B φ G' (is.foldl frzS s) σ H
  | [], G, _, I => ⟨G, Same.refl _, I⟩
  | i :: is, G, s, I => by
    obtain ⟨G1, s1, I1⟩ := I.frz (i := i)
    obtain ⟨G2, s2, I2⟩ := SR.frzs (is := is) I1
    exact ⟨G2, s1.trans s2, I2⟩
/-- a cell of the store is changed -/
theorem SR.setCell {n : Nat} {ds es : List D} {a : Addr} {ws : List V} (I : SR K B φ G s σ H) (e : s.st[n]? = some ds) (ha : φ[n]? = some a) (r : RepA K φ G es ws) :
    SR K B φ G { s with st := s.st.set n es } σ (upd H a (.lst ws)) := by
  have hm : a ∈ φ := List.mem_of_getElem? ha
  have hn : n < s.st.length := (List.getElem?_eq_some_iff.mp e).1
  obtain ⟨gA, _⟩ := I.st.at hm
  refine ⟨⟨I.ext.pre, I.ext.same, fun b o q nb => ?_, I.ext.newG, I.ext.newP⟩, fun b o q => by rw [upd_ne (ne_of_none q gA)]; exact I.same b o q, ⟨by simp [I.st.len], I.st.nd, fun m us q => ?_⟩, fun j sl q => ?_, I.dis, I.len⟩
  · have ne : b ≠ a := fun z => by
      subst z
      rcases I.ext.newP b hm with w | w
      · exact nb w
      · rw [q] at w; cases w
    rw [upd_ne ne]; exact I.ext.frame b o q nb
  · by_cases z : m = n
    · subst z
      rw [List.getElem?_set_self hn] at q
      cases q
      exact ⟨a, ws, ha, gA, upd_same, r⟩
    · rw [List.getElem?_set_ne (Ne.symm z)] at q
      obtain ⟨b, vs, q1, q2, q3, q4⟩ := I.st.cell m us q
      have ne : b ≠ a := fun y => by
        subst y
        have h1 := List.getElem?_eq_some_iff.mp q1
        have h2 := List.getElem?_eq_some_iff.mp ha
        exact z ((List.getElem_inj I.st.nd).mp (h1.2.trans h2.2.symm))
      exact ⟨b, vs, q1, q2, by rw [upd_ne ne]; exact q3, q4⟩
  · obtain ⟨w, w1, w2⟩ := I.env j sl q
    refine ⟨w, w1, ?_⟩
    cases sl with
    | val d => exact w2
    | own zs =>
      obtain ⟨b, us, r1, r2, r3, r4, r5, r6⟩ := w2
      have ne : b ≠ a := fun y => r4 (y ▸ hm)
      exact ⟨b, us, r1, r2, r3, r4, by rw [upd_ne ne]; exact r5, r6⟩
    | ro zs => exact w2
end
end DE
end

section
set_option Elab.async false
set_option linter.all false
set_option maxRecDepth 100000
set_option maxHeartbeats 4000000
namespace DE
open PySem L2 PySem.Spec PyProof.Rows
section
variable {c : CC} {k : Nat} {C : Ctx} {X : Cx} {e : Expr} {ce : CE}
/-- what is wanted behind a statement -/
def EO (K : PySem.W.Frag) (B : Bs) (φ : List Addr) (G : Hp) (fl : Flow) (s' : S) (D : Ends) : Prop := ∀ φ' G' σ' H', φ <+: φ' → Same G G' → SR K B φ' G' s' σ' H' → match fl with
  | .nx => D.nx σ' H'
  | .rt d => ∀ v, Rep K φ' G' d v → D.rt v H'
  | .bk => D.bk σ' H'
  | .ct => D.ct σ' H'
theorem EO.of {K : PySem.W.Frag} {B : Bs} {φ φ1 : List Addr} {G G1 : Hp} {fl : Flow} {s' : S} {D : Ends} (p : φ <+: φ1) (g : Same G G1) (h : EO K B φ G fl s' D) : EO K B φ1 G1 fl s' D :=
  fun φ' G' σ' H' p' g' I => h φ' G' σ' H' (p.trans p') (g.trans g') I
def SSt (C : Ctx) (X : Cx) (st : Stmt) (cs : CS) : Prop := ∀ (B : Bs) (φ : List Addr) (G : Hp) (s : S) (σ : L2.St) (H : Hp) (fl : Flow) (s' : S) (D : Ends), SR X.K B φ G s σ H → evS C cs s = .ok fl s' → EO X.K B φ G fl s' D → WS X st D σ H
def SSs (C : Ctx) (X : Cx) (st : List Stmt) (cs : CSs) : Prop := ∀ (B : Bs) (φ : List Addr) (G : Hp) (s : S) (σ : L2.St) (H : Hp) (fl : Flow) (s' : S) (D : Ends), SR X.K B φ G s σ H → evSs C cs s = .ok fl s' → EO X.K B φ G fl s' D → WSs X st D σ H
theorem nil_sss : SSs C X [] .nil := by
  intro B φ G s σ H fl s' D I ev q
  simp only [evSs] at ev
  cases ev
  exact wss_of pss_nil (q φ G σ H List.prefix_rfl (Same.refl _) I)
theorem cons_sss {st : Stmt} {r : List Stmt} {cs : CS} {cr : CSs} {is : List Nat} (h : SSt C X st cs) (hr : SSs C X r cr) : SSs C X (st :: r) (withF is cs cr) := by
  have core : ∀ (B : Bs) (φ : List Addr) (G : Hp) (s : S) (σ : L2.St) (H : Hp) (fl : Flow) (s' : S) (D : Ends), SR X.K B φ G s σ H → evSs C (.cons cs cr) s = .ok fl s' → EO X.K B φ G fl s' D → WSs X (st :: r) D σ H := by
    intro B φ G s σ H fl s' D I ev q
    simp only [evSs] at ev
    obtain ⟨f, s1, e1, ev⟩ := bindOk ev
    refine wss_of (pss_cons ps_WS pss_WSs) ?_
    refine h B φ G s σ H f s1 _ I e1 fun φ1 G1 σ1 H1 p1 g1 I1 => ?_
    cases f with
    | nx => exact hr B φ1 G1 s1 σ1 H1 fl s' D I1 ev (q.of p1 g1)
    | rt d =>
      cases ev
      exact q φ1 G1 σ1 H1 p1 g1 I1
    | bk =>
      cases ev
      exact q φ1 G1 σ1 H1 p1 g1 I1
    | ct =>
      cases ev
      exact q φ1 G1 σ1 H1 p1 g1 I1
  unfold withF
  split
  · exact core
  · intro B φ G s σ H fl s' D I ev q
    rw [evSs] at ev
    obtain ⟨f, s1, e1, ev⟩ := bindOk ev
    simp only [evS] at e1
    cases e1
    obtain ⟨G1, g1, I1⟩ := I.frzs (is := is)
    exact core B φ G1 _ σ H fl s' D I1 ev (q.of List.prefix_rfl g1)
/-! simple statements -/
theorem notLC_sw {e : Expr} (h : ∀ a b d p, e ≠ .ListComp a b d p) (h2 : ∀ a b d p, e ≠ .SetComp a b d p) (h3 : ∀ a b d f p, e ≠ .DictComp a b d f p) (t : Option Expr) (l : Nat) (env : PySem.Env) : swapsWith e t l env = pure false := by
  cases e <;> first | rfl | exact absurd rfl (h _ _ _ _) | exact absurd rfl (h2 _ _ _ _) | exact absurd rfl (h3 _ _ _ _ _)
theorem expr_sst {pos : Pos} (h : SE C X e ce) (hs : swapsWith e none pos.line X.env = pure false) : SSt C X (.Expr e pos) (.expr ce) := by
  intro B φ G s σ H fl s' D I ev q
  simp only [evS] at ev
  obtain ⟨r, s1, e1, ev⟩ := bindOk ev
  cases ev
  refine ws_of (ps_expr pe_WE hs) ?_
  exact (h.x B φ G s σ H r _ I e1).mono fun v H1 z => by
    obtain ⟨φ1, G1, p1, g1, I1, _⟩ := z.dat
    exact q φ1 G1 σ H1 p1 g1 I1
theorem ret_sst {pos : Pos} (h : SE C X e ce) : SSt C X (.Return (some e) pos) (.ret ce) := by
  intro B φ G s σ H fl s' D I ev q
  simp only [evS] at ev
  obtain ⟨r, s1, e1, ev⟩ := bindOk ev
  cases ev
  refine ws_of (ps_ret pe_WE) ?_
  exact (h.x B φ G s σ H r _ I e1).mono fun v H1 z => by
    obtain ⟨φ1, G1, p1, g1, I1, rv⟩ := z.dat
    exact q φ1 G1 σ H1 p1 g1 I1 v rv
theorem retN_sst {pos : Pos} : SSt C X (.Return none pos) .retN := by
  intro B φ G s σ H fl s' D I ev q
  simp only [evS] at ev
  cases ev
  exact ws_of ps_retN (q φ G σ H List.prefix_rfl (Same.refl _) I .non .non)
theorem brk_sst {pos : Pos} : SSt C X (.Break pos) .brk := by
  intro B φ G s σ H fl s' D I ev q
  simp only [evS] at ev
  cases ev
  exact ws_of ps_break (q φ G σ H List.prefix_rfl (Same.refl _) I)
theorem cont_sst {pos : Pos} : SSt C X (.Continue pos) .cont := by
  intro B φ G s σ H fl s' D I ev q
  simp only [evS] at ev
  cases ev
  exact ws_of ps_continue (q φ G σ H List.prefix_rfl (Same.refl _) I)
theorem pass_sst {pos : Pos} : SSt C X (.Pass pos) .pass := by
  intro B φ G s σ H fl s' D I ev q
  simp only [evS] at ev
  cases ev
  exact ws_of ps_pass (q φ G σ H List.prefix_rfl (Same.refl _) I)
theorem never_sst {st : Stmt} : SSt C X st .never := by
  intro B φ G s σ H fl s' D I ev q
  simp only [evS] at ev
  cases ev
theorem if_sst {t : Expr} {a b : List Stmt} {ct : CE} {ca cb : CSs} {pos : Pos} (ht : SE C X t ct) (ha : SSs C X a ca) (hb : SSs C X b cb) : SSt C X (.If t a b pos) (.iff ct ca cb) := by
  intro B φ G s σ H fl s' D I ev q
  simp only [evS] at ev
  obtain ⟨kk, s1, e1, ev⟩ := bindOk ev
  refine ws_of (ps_if pt_WT pss_WSs pss_WSs) ?_
  refine (ht.t B φ G s σ H _ _ I e1).mono fun v H1 ⟨z, φ1, G1, p1, g1, I1⟩ => ?_
  subst z
  cases v with
  | true =>
    rw [if_pos rfl] at ev ⊢
    exact ha B φ1 G1 s1 σ H1 fl s' D I1 ev (q.of p1 g1)
  | false =>
    rw [if_neg Bool.false_ne_true] at ev ⊢
    exact hb B φ1 G1 s1 σ H1 fl s' D I1 ev (q.of p1 g1)
/-! stores -/
theorem asg_core {t : Expr} {ct : CT} {B : Bs} {φ : List Addr} {G : Hp} {s : S} {σ : L2.St} {H : Hp} {r : RX} {s1 s' : S} {D : Ends} (hg : SGo X t ct) (ev : asgT ct r s1 = some s') (q : EO X.K B φ G .nx s' D) {v : V} {H1 : Hp} (z : PX X.K B φ G σ r s1 v H1) :
    WG X t v σ H1 D.nx := by
  obtain ⟨φ1, G1, p1, g1, I1, rv⟩ := z
  exact hg B φ1 G1 s1 σ H1 r v s' I1 rv ev _ fun σ2 I2 _ _ => q φ1 G1 σ2 H1 p1 g1 I2
theorem asg_sst {t : Expr} {ct : CT} {pos : Pos} (h : SE C X e ce) (hg : SGo X t ct) (hs : swapsWithSole [t] e pos.line X.env = pure false) (hw : swappedStores [t] e X.env = pure none)
    (h1 : (assignEach [t] X.env).map (·.2) = [assign t X.env]) : SSt C X (.Assign [t] e pos) (.asg ct ce) := by
  intro B φ G s σ H fl s' D I ev q
  simp only [evS] at ev
  obtain ⟨r, s1, e1, ev⟩ := bindOk ev
  obtain ⟨s2, s3, e2, ev⟩ := bindOk ev
  cases ev
  obtain ⟨e3, rfl⟩ := optOk e2
  refine ws_of (ps_asg pe_WE pg_WG hs hw h1) ?_
  exact (h.x B φ G s σ H r _ I e1).mono fun v H1 z => asg_core (s := s) (H := H) hg e3 q z
/-- name = [..], swapped in on one line -/
theorem lc_sst {scope : Scope} {tg it elt : Expr} {ifs : List Expr} {ct : CT} {ci : CI} {cs : CEs} {own : List (Str × Nat)} {pos spos py : Pos} {y : Str} {i : Nat} (g : Good c k C.call X) (hsl : slotOf c y = some i) (hyl : X.env.scope.names.lookup y = some .local)
    (hsw : swapsWith (.ListComp elt [⟨tg, it, ifs, 0⟩] scope pos) (some (.Name y py)) spos.line X.env = pure true) (ok : BlkOk X.N X.env.scope scope own) (hset : ∀ x, foldedSetIterable it X.env x = pure x)
    (hi : SIt C X tg it ci true) (hg : ∀ Y, BlkX X Y scope → SGo Y tg ct) (ht : ∀ Y, BlkX X Y scope → STs C Y ifs cs) (he : ∀ Y, BlkX X Y scope → SE C Y elt ce) (hown : ∀ j ∈ tgtS ct, j ∈ own.map (·.2))
    (hgo : SGo X (.Name y py) (.name i)) : SSt C X (.Assign [.Name y py] (.ListComp elt [⟨tg, it, ifs, 0⟩] scope pos) spos) (.asg (.name i) (.comp (own.map (·.2)) ct ci cs ce)) := by
  intro B φ G s σ H fl s' D I ev q
  simp only [evS] at ev
  obtain ⟨r, s1, e1, ev⟩ := bindOk ev
  obtain ⟨s2, s3, e2, ev⟩ := bindOk ev
  cases ev
  obtain ⟨e3, rfl⟩ := optOk e2
  have core := comp_core g hi hg ht he hown I e1 (Qf := fun x H1 => D.nx (σ.set i (some x)) H1) fun v H1 ⟨φ1, G1, p1, g1, I1, rv⟩ => q φ1 G1 _ H1 p1 g1 (asgN I1 rv e3)
  have main := ps_setLc (i := i) (X := X) (spos := spos) g.calm (by rw [g.hN]; exact g.nd) (by rw [g.hN]; exact (slotOf_ok hsl).1) hyl hsw pi_WI ok
      (g := fun v σ H Q => ∀ Y, BlkX X Y scope → WG Y tg v σ H Q)
      (tt := fun σ H Q => ∀ Y, BlkX X Y scope → ∀ (pins : List (Addr × Obj)) (sh : Shared), Inv Y pins σ H sh →
        wpAny (model Y.prog Y.w) Y.A (forIn ifs true fun c r => if r = true then do let ok ← isTrue c Y.env (eval c Y.env); pure (ForInStep.yield ok) else pure (ForInStep.yield r)) (TP Y pins σ Q) Y.xe sh)
      (te := fun σ H Q => ∀ Y, BlkX X Y scope → WE Y elt σ H Q)
      (fun s H D cl fp => ⟨fun pins s' σ H' v u Q J r h => h _ ⟨⟨s, H, D, cl, fp, rfl⟩⟩ pins s' u J r⟩)
      (fun s H D cl fp => ⟨fun pins s' σ H' Q J h => h _ ⟨⟨s, H, D, cl, fp, rfl⟩⟩ pins s' J⟩)
      (fun s H D cl fp => ⟨fun pins s' σ H' Q J h => h _ ⟨⟨s, H, D, cl, fp, rfl⟩⟩ pins s' J⟩) hset
  exact ws_of main core
/-! o[i] = v -/
theorem set_sst {x : Str} {i : Nat} {kx v : Expr} {ck cv : CE} {px sp pos : Pos} (g : Good c k C.call X) (hv : visB c.sc x = true) (hs : slotOf c x = some i) (hk : notSlice kx = true) (h1 : SE C X kx ck) (h2 : SE C X v cv) :
    SSt C X (.Assign [.Subscript (.Name x px) kx sp] v pos) (.setI i ck cv) := by
  intro B φ G s σ H fl s' D I ev q
  simp only [evS] at ev
  obtain ⟨r, s1, e1, ev⟩ := bindOk ev
  split at ev
  · rename_i hsome
    obtain ⟨rk, s2, e2, ev⟩ := bindOk ev
    have hsw : swapsWithSole [Expr.Subscript (.Name x px) kx sp] v pos.line X.env = pure false := by cases v <;> rfl
    refine ws_of (ps_asg pe_WE (pg_sub pe_WE pe_WE set_list (by intro _; cases kx <;> first | rfl | cases hk)) hsw rfl rfl) ?_
    refine (h2.x B φ G s σ H r s1 I e1).mono fun u H1 z => ?_
    obtain ⟨φ1, G1, p1, g1, I1, ru⟩ := z.dat
    obtain ⟨sl, hsl⟩ := Option.isSome_iff_exists.mp hsome
    obtain ⟨w, hw, _⟩ := I1.env i sl hsl
    refine name_we g hv hs hw ?_
    refine (h1.x B φ1 G1 s1 σ H1 rk s2 I1 e2).mono fun y H2 z2 => ?_
    obtain ⟨φ2, G2, p2, g2, I2, rk2⟩ := z2
    have ru2 := Rep.mono p2 g2 ru
    split at ev
    · rename_i n j eg
      split at ev
      · rename_i xs en
        split at ev
        · rename_i m em
          cases ev
          obtain ⟨w', hw', rw'⟩ := I2.env i _ eg
          rw [hw] at hw'
          cases hw'
          cases (show Rep X.K φ2 G2 (.int j) y from rk2)
          cases (show Rep X.K φ2 G2 (.loc n) w from rw') with
          | @loc _ a ha =>
            obtain ⟨a', vs, q1, q2, q3, q4⟩ := I2.st.cell n xs en
            rw [ha] at q1
            cases q1
            exact ⟨a, vs, j, m, rfl, rfl, q3, by rw [← q4.length]; exact em, q φ2 G2 σ _ (p1.trans p2) (g1.trans g2) (I2.setCell en ha (RepA.set ru2 m q4))⟩
        · cases ev
      · cases ev
    · rename_i xs j eg
      split at ev
      · rename_i m em
        cases ev
        obtain ⟨w', hw', a, vs, rfl, hb, hG, np, hH, ra⟩ := I2.env i _ eg
        rw [hw] at hw'
        cases hw'
        cases (show Rep X.K φ2 G2 (.int j) y from rk2)
        exact ⟨a, vs, j, m, rfl, rfl, hH, by rw [← ra.length]; exact em, q φ2 G2 σ _ (p1.trans p2) (g1.trans g2) (I2.setOwn eg hw (RepA.set ru2 m ra)) |> fun z => by simpa [S.put] using z⟩
      · cases ev
    · cases ev
  · cases ev
/-! x.append(e), x.remove(e) -/
theorem lstSlot_ty {s : S} {i : Nat} {B : Bs} {φ : List Addr} {G H : Hp} {σ : L2.St} (I : SR X.K B φ G s σ H) (h : lstSlot s i = true) : ∃ a, σ[i]? = some (some (.ref a)) ∧ tyV X.K "list" (.ref a) H := by
  unfold lstSlot at h
  split at h
  · rename_i xs e
    obtain ⟨w, hw, a, vs, rfl, _, _, _, hH, _⟩ := I.env i _ e
    exact ⟨a, hw, .inl ⟨rfl, _, SqL.of hH⟩⟩
  · rename_i n e
    obtain ⟨w, hw, rw'⟩ := I.env i _ e
    cases (show Rep X.K φ G (.loc n) w from rw') with
    | @loc _ a ha =>
      have hn := (List.getElem?_eq_some_iff.mp ha).1
      rw [← I.st.len] at hn
      obtain ⟨a', vs, q1, q2, q3, q4⟩ := I.st.cell n _ (List.getElem?_eq_getElem hn)
      rw [ha] at q1
      cases q1
      exact ⟨a, hw, .inl ⟨rfl, _, SqL.of q3⟩⟩
  · cases h
theorem app_sst {x : Str} {i : Nat} {a : Expr} {ca : CE} {xp ap cp pos : Pos} (g : Good c k C.call X) (hl : (ap.endLine == cp.line) = true) (hv : visB c.sc x = true) (hs : slotOf c x = some i) (h : SE C X a ca) (h1 : starEach [a] X.env = [(false, eval a X.env)]) :
    SSt C X (.Expr (.Call (.Attribute (.Name x xp) "append" ap) [a] [] cp) pos) (.app i ca) := by
  intro B φ G s σ H fl s' D I ev q
  simp only [evS] at ev
  split at ev
  · rename_i hls
    obtain ⟨r, s1, e1, ev⟩ := bindOk ev
    obtain ⟨l, hσ, ty⟩ := lstSlot_ty I hls
    refine ws_of (ps_expr (pe_bm PySem.F.plainAttrs_list PySem.F.slot_list_append PySem.F.type_list_append mt_append pe_WE (pa_cons pe_WE pa_nil h1) rfl (by rw [h1]; rfl) hl h1 rfl) rfl) ?_
    refine name_we g hv hs hσ ⟨ty, ?_⟩
    refine (h.x B φ G s σ H r s1 I e1).mono fun u H1 z => ?_
    obtain ⟨φ1, G1, p1, g1, I1, ru⟩ := z.dat
    split at ev
    · rename_i xs eg
      split at ev
      · rename_i hz
        cases ev
        obtain ⟨w', hw', a', vs, rfl, hb, hG, np, hH, ra⟩ := I1.env i _ eg
        rw [hσ] at hw'
        cases hw'
        exact ⟨l, vs, u, rfl, rfl, hH, by rw [← ra.length]; exact hz, q φ1 G1 σ _ p1 g1 (I1.setOwn eg hσ (ra.append (.one ru)))⟩
      · cases ev
    · rename_i n eg
      split at ev
      · rename_i xs en
        split at ev
        · rename_i hz
          cases ev
          obtain ⟨w', hw', rw'⟩ := I1.env i _ eg
          rw [hσ] at hw'
          cases hw'
          cases (show Rep X.K φ1 G1 (.loc n) (.ref l) from rw') with
          | @loc _ _ ha =>
            obtain ⟨a', vs, q1, q2, q3, q4⟩ := I1.st.cell n xs en
            rw [ha] at q1
            cases q1
            exact ⟨l, vs, u, rfl, rfl, q3, by rw [← q4.length]; exact hz, q φ1 G1 σ _ p1 g1 (I1.setCell en ha (q4.append (.one ru)))⟩
        · cases ev
      · cases ev
    · cases ev
  · cases ev
theorem map_eraseIdx {α β : Type} (f : α → β) : ∀ (l : List α) (i : Nat), (l.eraseIdx i).map f = (l.map f).eraseIdx i
  | [], _ => rfl
  | _ :: _, 0 => rfl
  | x :: l, i + 1 => by simp [List.eraseIdx_cons_succ, map_eraseIdx f l i]
theorem ints_rep {K : PySem.W.Frag} {φ : List Addr} {G : Hp} : ∀ ns : List Int, RepA K φ G (ns.map DE.D.int) (ns.map V.int)
  | [] => .nil
  | n :: ns => .cons (.int n) (ints_rep ns)
theorem rem_sst {x : Str} {i : Nat} {a : Expr} {ca : CE} {xp ap cp pos : Pos} (g : Good c k C.call X) (hl : (ap.endLine == cp.line) = true) (hv : visB c.sc x = true) (hs : slotOf c x = some i) (h : SE C X a ca) (h1 : starEach [a] X.env = [(false, eval a X.env)]) :
    SSt C X (.Expr (.Call (.Attribute (.Name x xp) "remove" ap) [a] [] cp) pos) (.rem i ca) := by
  intro B φ G s σ H fl s' D I ev q
  simp only [evS] at ev
  split at ev
  · rename_i hls
    obtain ⟨kk, s1, e1, ev⟩ := bindOk ev
    obtain ⟨l, hσ, ty⟩ := lstSlot_ty I hls
    refine ws_of (ps_expr (pe_bm PySem.F.plainAttrs_list PySem.F.slot_list_remove PySem.F.type_list_remove mt_remove pe_WE (pa_cons pe_WE pa_nil h1) rfl (by rw [h1]; rfl) hl h1 rfl) rfl) ?_
    refine name_we g hv hs hσ ⟨ty, ?_⟩
    refine (si_of h.x I e1).mono fun u H1 ⟨hu, φ1, G1, p1, g1, I1⟩ => ?_
    split at ev
    · rename_i xs eg
      split at ev
      · rename_i ns hns
        split at ev
        · rename_i hc
          cases ev
          obtain ⟨w', hw', a', vs, rfl, hb, hG, np, hH, ra⟩ := I1.env i _ eg
          rw [hσ] at hw'
          cases hw'
          rw [intsD_eq hns] at ra
          rw [rep_ints ra] at hH
          have hm : kk ∈ ns := by simpa using hc
          have hlt : ns.idxOf kk < ns.length := List.idxOf_lt_length_of_mem hm
          refine ⟨l, ns, kk, ns.idxOf kk, rfl, by rw [hu], hH, by rw [List.getElem?_eq_getElem hlt, List.getElem_idxOf hlt], fun m hmlt hmk => ?_, ?_⟩
          · have hml : m < ns.length := by omega
            rw [List.getElem?_eq_getElem hml] at hmk
            have := List.not_of_lt_findIdx (p := (· == kk)) (xs := ns) (i := m) hmlt
            simp at this
            exact this (Option.some.inj hmk)
          · rw [← List.erase_eq_eraseIdx_of_idxOf rfl]
            exact q φ1 G1 σ _ p1 g1 (I1.setOwn eg hσ (ints_rep _))
        · cases ev
      · cases ev
    · cases ev
  · cases ev
end
end DE
end

section
set_option Elab.async false
set_option linter.all false
set_option maxRecDepth 100000
set_option maxHeartbeats 4000000
namespace DE
open PySem L2 PySem.Spec PyProof.Rows
section
variable {c : CC} {k : Nat} {C : Ctx} {X : Cx} {e : Expr} {ce : CE}
theorem for_sst {t it : Expr} {body : List Stmt} {ct : CT} {ci : CI} {cb : CSs} {pos : Pos} (g : Good c k C.call X) (hset : ∀ x, foldedSetIterable it X.env x = pure x) (hi : SIt C X t it ci false) (hg : SGo X t ct) (hb : SSs C X body cb) :
    SSt C X (.For t it body [] pos) (.for_ ct ci cb) := by
  intro B φ G s σ H fl s' D I ev q
  simp only [evS] at ev
  obtain ⟨items, s1, e1, ev⟩ := bindOk ev
  refine ws_of (ps_for g.po g.calm pi_WI pg_WG pss_WSs hset) ?_
  intro pins sh J
  refine thn (hi B φ G s σ H items s1 I e1 pins sh J) fun v sh1 z => thn z fun itv sh2 ⟨itA, fp, tn, Jt, H1, q1, q2, q3, q4, q5, q6⟩ => ⟨itA, fp, tn, Jt, H1, q1, q2, q3, q4, q5, ?_⟩
  obtain ⟨φ1, G1, p1, g1, I1, wk⟩ := q6
  refine ⟨fun i m σ H => ∃ φ2 G2 s2, φ1 <+: φ2 ∧ Same G1 G2 ∧ SR X.K B φ2 G2 s2 σ H ∧ i ≤ items.length ∧ m = items.length - i ∧ forL (evSs C cb) (fun x s => asgT ct (.d x) s) (items.drop i) s2 = .ok fl s', ?_, ?_⟩
  · exact ⟨items.length, φ1, G1, s1, List.prefix_rfl, Same.refl _, I1, Nat.zero_le _, by simp, by rw [List.drop_zero]; exact ev⟩
  · rintro i m σ2 H2 ⟨φ2, G2, s2, p2, g2, I2, hi', rfl, hf⟩
    obtain ⟨w1, w2⟩ := wk φ2 G2 H2 p2 g2 I2.same (fun z => by cases z) i
    by_cases hlt : i < items.length
    · have hd0 : items[i]? = some items[i] := List.getElem?_eq_getElem hlt
      obtain ⟨w3, w4⟩ := w1 _ hd0
      rw [List.drop_eq_getElem_cons hlt] at hf
      unfold forL at hf
      obtain ⟨s3, s3', ea, hf⟩ := bindOk hf
      obtain ⟨ea9, rfl⟩ := optOk ea
      obtain ⟨f, s4, eb, hf⟩ := bindOk hf
      refine .inr ⟨w3, fun σ' H' => ∃ m', m' < items.length - i ∧ ∃ φ2 G2 s2, φ1 <+: φ2 ∧ Same G1 G2 ∧ SR X.K B φ2 G2 s2 σ' H' ∧ i + 1 ≤ items.length ∧ m' = items.length - (i + 1) ∧ forL (evSs C cb) (fun x s => asgT ct (.d x) s) (items.drop (i + 1)) s2 = .ok fl s', fun σ' H' z => z, fun xv H'' y => ?_⟩
      obtain ⟨G3, hor, rx⟩ := w4 xv H'' y
      have I3 : SR X.K B φ2 G3 s2 σ2 H'' ∧ Same G2 G3 := by
        rcases hor with ⟨rfl, rfl⟩ | ⟨T, o, hT, rfl, rfl⟩
        · exact ⟨I2, Same.refl _⟩
        · exact ⟨I2.new hT, same_upd hT I2.same⟩
      obtain ⟨I3, g3⟩ := I3
      refine hg B φ2 G3 s2 σ2 H'' (.d items[i]) xv s3 I3 rx ea9 _ fun σ3 I4 _ _ => ?_
      refine hb B φ2 G3 s3 σ3 H'' f s4 _ I4 eb fun φ5 G5 σ5 H5 p5 g5 I5 => ?_
      cases f with
      | nx => exact ⟨items.length - (i + 1), by omega, φ5, G5, s4, p2.trans p5, g2.trans (g3.trans g5), I5, hlt, rfl, hf⟩
      | ct => exact ⟨items.length - (i + 1), by omega, φ5, G5, s4, p2.trans p5, g2.trans (g3.trans g5), I5, hlt, rfl, hf⟩
      | bk =>
        cases hf
        exact q φ5 G5 σ5 H5 (p1.trans (p2.trans p5)) (g1.trans (g2.trans (g3.trans g5))) I5
      | rt d =>
        cases hf
        exact q φ5 G5 σ5 H5 (p1.trans (p2.trans p5)) (g1.trans (g2.trans (g3.trans g5))) I5
    · have ei : i = items.length := by omega
      subst ei
      rw [List.drop_length] at hf
      unfold forL at hf
      cases hf
      exact .inl ⟨w2 (Nat.le_refl _), q φ2 G2 σ2 H2 (p1.trans p2) (g1.trans g2) I2⟩
theorem while_sst {t : Expr} {body : List Stmt} {ct : CE} {cb : CSs} {pos : Pos} (g : Good c k C.call X) (ht : SE C X t ct) (hb : SSs C X body cb) : SSt C X (.While t body [] pos) (.whl ct cb) := by
  intro B φ G s σ H fl s' D I ev q
  simp only [evS] at ev
  refine ws_of (ps_while g.po pt_WT pss_WSs) ?_
  refine ⟨fun m σ H => ∃ φ2 G2 s2, φ <+: φ2 ∧ Same G G2 ∧ SR X.K B φ2 G2 s2 σ H ∧ whlL (fun s => asB (evX C ct s)) (evSs C cb) m s2 = .ok fl s', ⟨_, φ, G, s, List.prefix_rfl, Same.refl _, I, ev⟩, ?_⟩
  rintro m σ2 H2 ⟨φ2, G2, s2, p2, g2, I2, hf⟩
  cases m with
  | zero => cases hf
  | succ m =>
    unfold whlL at hf
    obtain ⟨b, s3, e3, hf⟩ := bindOk hf
    refine (ht.t B φ2 G2 s2 σ2 H2 _ _ I2 e3).mono fun v H3 ⟨z, φ3, G3, p3, g3, I3⟩ => ?_
    subst z
    cases v with
    | true =>
      rw [if_pos rfl] at hf ⊢
      obtain ⟨f, s4, eb, hf⟩ := bindOk hf
      refine ⟨fun σ' H' => ∃ m', m' < m + 1 ∧ ∃ φ2 G2 s2, φ <+: φ2 ∧ Same G G2 ∧ SR X.K B φ2 G2 s2 σ' H' ∧ whlL (fun s => asB (evX C ct s)) (evSs C cb) m' s2 = .ok fl s', fun σ' H' z => z, ?_⟩
      refine hb B φ3 G3 s3 σ2 H3 f s4 _ I3 eb fun φ5 G5 σ5 H5 p5 g5 I5 => ?_
      have pp := p2.trans (p3.trans p5)
      have gg := g2.trans (g3.trans g5)
      cases f with
      | nx => exact ⟨m, Nat.lt_succ_self _, φ5, G5, s4, pp, gg, I5, hf⟩
      | ct => exact ⟨m, Nat.lt_succ_self _, φ5, G5, s4, pp, gg, I5, hf⟩
      | bk =>
        cases hf
        exact q φ5 G5 σ5 H5 pp gg I5
      | rt d =>
        cases hf
        exact q φ5 G5 σ5 H5 pp gg I5
    | false =>
      rw [if_neg Bool.false_ne_true] at hf ⊢
      cases hf
      exact q φ3 G3 σ2 H3 (p2.trans p3) (g2.trans g3) I3
/-! the compile step for statements -/
theorem sw_name {y : Str} {yp : Pos} {e : Expr} {l : Nat} {env : PySem.Env} (h : ∀ a b d p, e ≠ .ListComp a b d p) (h2 : ∀ a b d p, e ≠ .SetComp a b d p) (h3 : ∀ a b d f p, e ≠ .DictComp a b d f p) : swapsWithSole [.Name y yp] e l env = pure false := notLC_sw h h2 h3 (some (.Name y yp)) l env
theorem sw_tup {es : List Expr} {n : Nat} {p : Pos} {e : Expr} {l : Nat} {env : PySem.Env} : swapsWithSole [.Tuple es n p] e l env = pure false := by cases e <;> rfl
theorem noSet {m : Nat} {c : CC} {pk : Bool} {e : Expr} {x : CE} (h : compE c m pk e = some x) : (∀ a b d p, e ≠ .SetComp a b d p) ∧ ∀ a b d f p, e ≠ .DictComp a b d f p := by
  cases m with
  | zero => simp [compE] at h
  | succ m =>
    refine ⟨fun a b d p z => ?_, fun a b d f p z => ?_⟩
    · subst z; simp [compE] at h
    · subst z; simp [compE] at h
theorem stored_none {t e : Expr} {env : PySem.Env} (ht : (∃ y p, t = .Name y p) ∨ (∃ es n p, t = .Tuple es n p)) (h : (isTup t && isTup e) = false) : swappedStores [t] e env = pure none := by
  rcases ht with ⟨y, p, rfl⟩ | ⟨es, n, p, rfl⟩
  · cases e <;> rfl
  · cases e <;> first | rfl | simp [isTup] at h
theorem lc_inv {m : Nat} {pk : Bool} {elt : Expr} {gens : List Comprehension} {scope : Scope} {lp : Pos} {x : CE} (h : compE c (m + 1) pk (.ListComp elt gens scope lp) = some x) : ∃ tg it ifs, gens = [⟨tg, it, ifs, 0⟩] ∧ blkC c.N c.sc scope (ownOf c scope) = true ∧
    ∃ i t cs y, compI c m true (isTup tg) it = some i ∧ compT (blkCC c scope) m tg = some t ∧ compL' (blkCC c scope) m false ifs = some cs ∧ ((tgtS t).all fun j => ((ownOf c scope).map (·.2)).contains j) = true ∧ compE (blkCC c scope) m false elt = some y ∧
      x = .comp ((ownOf c scope).map (·.2)) t i cs y := by
  unfold compE at h
  split at h
  case h_21 =>
    rename_i q1 q2
    cases q1
    cases q2
    dsimp only at h
    split at h
    · rename_i hb
      obtain ⟨i, h1, h⟩ := obindOk h
      obtain ⟨t, h2, h⟩ := obindOk h
      obtain ⟨cs, h3, h⟩ := obindOk h
      split at h
      · rename_i hown
        obtain ⟨y, h4, rfl⟩ := omapOk h
        exact ⟨_, _, _, rfl, hb, i, t, cs, y, h1, h2, h3, hown, h4, rfl⟩
      · cases h
    · cases h
  all_goals first
    | (rename_i q; cases q; done)
    | cases h
theorem asg_ih {m : Nat} (g : Good c k C.call X) {t e : Expr} {ct : CT} {x : CE} {pos : Pos} (h1 : compT c m t = some ct) (h2 : compE c m false e = some x) (hn : (isTup t && isTup e) = false) : SSt C X (.Assign [t] e pos) (.asg ct x) := by
  have hE : SE C X e x := (allIH (k := k) (C := C) m).e c false e x X g h2
  have hT : SGo X t ct := compT_sg g m t ct h1
  have hkind : (∃ y p, t = .Name y p) ∨ (∃ es n p, t = .Tuple es n p) := by
    cases m with
    | zero => simp [compT] at h1
    | succ m => cases t <;> first | exact .inl ⟨_, _, rfl⟩ | exact .inr ⟨_, _, _, rfl⟩ | simp [compT] at h1
  have hw := stored_none (env := X.env) hkind hn
  have ha : (assignEach [t] X.env).map (·.2) = [assign t X.env] := by rw [star_as h1]; rfl
  obtain ⟨n1, n2⟩ := noSet h2
  rcases hkind with ⟨y, yp, rfl⟩ | ⟨es, n, p, rfl⟩
  · by_cases hc : ∃ a b d p, e = .ListComp a b d p
    · obtain ⟨elt, gens, scope, lp, rfl⟩ := hc
      by_cases hb : (X.env.blockKind == .function && X.env.kindOf y == some .local && yp.line == lp.line && !(scope.names.any fun (n, k) => n == y && (k == .local || k == .cell))) = true
      · -- swapped in
        cases m with
        | zero => simp [compE] at h2
        | succ m =>
          simp only [compT] at h1
          split at h1
          · rename_i hl
            rw [Bool.and_eq_true] at hl
            obtain ⟨i, hi, rfl⟩ := omapOk h1
            obtain ⟨tg, it, ifs, rfl, hblk, ci, ct, cs, cy, k1, k2, k3, k4, k5, rfl⟩ := lc_inv h2
            have hyl : X.env.scope.names.lookup y = some .local := by
              simp only [Bool.and_eq_true] at hb
              exact beq_iff_eq.mp hb.1.1.2
            have hsw : swapsWith (.ListComp elt [⟨tg, it, ifs, 0⟩] scope lp) (some (.Name y yp)) pos.line X.env = pure true := by
              show (pure (X.env.blockKind == .function && X.env.kindOf y == some .local && yp.line == lp.line && !(scope.names.any fun (n, k) => n == y && (k == .local || k == .cell))) : Sem Bool) = pure true
              rw [hb]
            exact lc_sst g hi hyl hsw (by rw [g.hN, g.sc]; exact blkOk_by hblk) (set_I k1 _) ((allIH m).i c true tg it ci X g k1) (fun Y hY => compT_sg (g.blk hY) m _ ct k2)
              (fun Y hY => sts_of (fun n _ => allIH n) _ _ cs Y (g.blk hY) k3) (fun Y hY => (allIH m).e _ false _ cy Y (g.blk hY) k5) (fun j hj => by simpa using (List.all_eq_true.mp k4) j hj) hT
          · cases h1
      · have hs : swapsWithSole [.Name y yp] (.ListComp elt gens scope lp) pos.line X.env = pure false := by
          show (pure (X.env.blockKind == .function && X.env.kindOf y == some .local && yp.line == lp.line && !(scope.names.any fun (n, k) => n == y && (k == .local || k == .cell))) : Sem Bool) = pure false
          rw [Bool.not_eq_true] at hb
          rw [hb]
        exact asg_sst hE hT hs hw ha
    · exact asg_sst hE hT (sw_name (fun a b d p z => hc ⟨a, b, d, p, z⟩) n1 n2) hw ha
  · exact asg_sst hE hT sw_tup hw ha
structure IS (k : Nat) (C : Ctx) (m : Nat) : Prop where
  s : ∀ (c : CC) (st : Stmt) (is : List Nat) (cs : CS) (X : Cx), Good c k C.call X → compS c m st = some (is, cs) → SSt C X st cs
  l : ∀ (c : CC) (st : List Stmt) (cs : CSs) (X : Cx), Good c k C.call X → compSs c m st = some cs → SSs C X st cs
theorem is_l {m : Nat} (ih : IS k C m) (c : CC) (st : List Stmt) (cs : CSs) (X : Cx) (g : Good c k C.call X) (h : compSs c (m + 1) st = some cs) : SSs C X st cs := by
  cases st with
  | nil =>
    simp only [compSs] at h
    cases h
    exact nil_sss
  | cons s r =>
    simp only [compSs] at h
    obtain ⟨⟨is, x⟩, h1, h⟩ := obindOk h
    obtain ⟨xs, h2, rfl⟩ := omapOk h
    exact cons_sss (ih.s c s is x X g h1) (ih.l c r xs X g h2)
theorem is_s {m : Nat} (ih : IS k C m) (c : CC) (st : Stmt) (is : List Nat) (cs : CS) (X : Cx) (g : Good c k C.call X) (h : compS c (m + 1) st = some (is, cs)) : SSt C X st cs := by
  have ihe := allIH (k := k) (C := C) m
  unfold compS at h
  split at h
  case h_1 =>
    split at h
    · rename_i q
      rw [Bool.and_eq_true] at q
      split at h
      · rename_i hm
        subst hm
        obtain ⟨i, h1, h⟩ := obindOk h
        obtain ⟨x, h2, h3⟩ := omapOk h
        cases h3
        exact app_sst g q.1 q.2 h1 (ihe.e c false _ x X g h2) (star_E h2 _ _)
      · split at h
        · rename_i hm
          subst hm
          obtain ⟨i, h1, h⟩ := obindOk h
          obtain ⟨x, h2, h3⟩ := omapOk h
          cases h3
          exact rem_sst g q.1 q.2 h1 (ihe.e c false _ x X g h2) (star_E h2 _ _)
        · cases h
    · cases h
  case h_2 =>
    split at h
    · cases h
    · rename_i hn
      obtain ⟨x, h2, h3⟩ := omapOk h
      cases h3
      obtain ⟨n1, n2⟩ := noSet h2
      exact expr_sst (ihe.e c false _ x X g h2) (notLC_sw (fun a b d p z => hn a b d p z) n1 n2 _ _ _)
  case h_3 =>
    obtain ⟨x, h2, h3⟩ := omapOk h
    cases h3
    exact ret_sst (ihe.e c false _ x X g h2)
  case h_4 =>
    cases h
    exact retN_sst
  case h_5 =>
    split at h
    · rename_i q
      rw [Bool.and_eq_true] at q
      obtain ⟨i, h1, h⟩ := obindOk h
      obtain ⟨x, h2, h⟩ := obindOk h
      obtain ⟨y, h3, h4⟩ := omapOk h
      cases h4
      exact set_sst g q.1 h1 q.2 (ihe.e c false _ x X g h2) (ihe.e c false _ y X g h3)
    · cases h
  case h_6 =>
    split at h
    · cases h
    · rename_i q
      rw [Bool.not_eq_true] at q
      obtain ⟨tt, h1, h⟩ := obindOk h
      obtain ⟨x, h2, h3⟩ := omapOk h
      cases h3
      exact asg_ih g h1 h2 q
  case h_7 =>
    obtain ⟨x, h1, h⟩ := obindOk h
    obtain ⟨y, h2, h⟩ := obindOk h
    obtain ⟨z, h3, h4⟩ := omapOk h
    cases h4
    exact if_sst (ihe.e c false _ x X g h1) (ih.l c _ y X g h2) (ih.l c _ z X g h3)
  case h_8 =>
    obtain ⟨x, h1, h⟩ := obindOk h
    obtain ⟨y, h2, h⟩ := obindOk h
    obtain ⟨z, h3, h4⟩ := omapOk h
    cases h4
    exact for_sst g (set_I h2 _) (ihe.i c false _ _ y X g h2) (compT_sg g m _ x h1) (ih.l c _ z X g h3)
  case h_9 =>
    obtain ⟨x, h1, h⟩ := obindOk h
    obtain ⟨y, h2, h3⟩ := omapOk h
    cases h3
    exact while_sst g (ihe.e c false _ x X g h1) (ih.l c _ y X g h2)
  case h_10 =>
    cases h
    exact brk_sst
  case h_11 =>
    cases h
    exact cont_sst
  case h_12 =>
    cases h
    exact pass_sst
  case h_13 =>
    cases h
    exact never_sst
  case h_14 => cases h
theorem allIS : ∀ m, IS k C m := by
  intro m
  induction m with
  | zero => exact ⟨fun _ _ _ _ _ _ h => by simp [compS] at h, fun _ _ _ _ _ h => by simp [compSs] at h⟩
  | succ m ih => exact ⟨is_s ih, is_l ih⟩
end
end DE
end

section
set_option Elab.async false
set_option linter.all false
set_option maxRecDepth 100000
set_option maxHeartbeats 4000000
namespace DE
open PySem L2 PySem.Spec PyProof.Rows
/-! Defs: each keeps what the evaluator says, at any depth of calls. -/
structure DefOk (K : PySem.W.Frag) (mg : Str → Option Value) (fns : List Str) (glb : List (Str × D)) (locs : List (Nat × Nat)) (x : Str) (st : Stmt) (fn : Fn) : Prop where
  comp : compDef fns glb locs st = some fn
  scope : FnScope (slotsOf st) (argNames (defArgs st)) (defScope st)
  there : ∃ (qual : Str) (f : Addr) (fd : FuncData), Fun K x qual st f fd ∧ mg x = some (.ref f) ∧ Binds K fd (argNames (defArgs st)) []
inductive DefsOk (K : PySem.W.Frag) (mg : Str → Option Value) (fns : List Str) (glb : List (Str × D)) (locs : List (Nat × Nat)) : List Str → List Fn → Prop
  | nil : DefsOk K mg fns glb locs [] []
  | cons {x : Str} {st : Stmt} {fn : Fn} {xs : List Str} {fs : List Fn} : DefOk K mg fns glb locs x st fn → DefsOk K mg fns glb locs xs fs → DefsOk K mg fns glb locs (x :: xs) (fn :: fs)
theorem DefsOk.get {K : PySem.W.Frag} {mg : Str → Option Value} {fns : List Str} {glb : List (Str × D)} {locs : List (Nat × Nat)} : ∀ {xs : List Str} {fs : List Fn} {i : Nat} {x : Str}, DefsOk K mg fns glb locs xs fs → xs[i]? = some x → ∃ st fn, fs[i]? = some fn ∧ DefOk K mg fns glb locs x st fn
  | _, _, _, _, .nil, h => by simp at h
  | _, _, 0, _, .cons d r, h => by simp at h; subst h; exact ⟨_, _, rfl, d⟩
  | _, _, i + 1, _, .cons d r, h => by
    obtain ⟨st, fn, h1, h2⟩ := r.get (i := i) (by simpa using h)
    exact ⟨st, fn, by simpa using h1, h2⟩
/-- the module's names -/
structure ModOk (K : PySem.W.Frag) (mg : Str → Option Value) (fns : List Str) (glb : List (Str × D)) (locs : List (Nat × Nat)) (T : List Fn) : Prop where
  defs : DefsOk K mg fns glb locs fns T
  bi : ∀ x ∈ biNames, mg x = none
  glb : ∀ x d, glb.lookup x = some d → ∃ u v, mg x = some u ∧ RelV v u ∧ ∀ φ G, Rep K φ G d v
section
variable {P : Program} {w : World} {K : PySem.W.Frag} {mg : Str → Option Value} {base : Heap} {fns : List Str} {glb : List (Str × D)} {locs : List (Nat × Nat)} {T : List Fn} {fuel : Nat}
theorem rep_start {φ : List Addr} {G : Hp} : ∀ {ds : List D} {vs : List V}, RepA K φ G ds vs → ∀ (n i : Nat) (sl : Slot), ((ds.map (fun d => some (Slot.val d)) ++ List.replicate n none)[i]?).bind id = some sl →
    ∃ d v, sl = .val d ∧ (vs.map some ++ List.replicate n none)[i]? = some (some v) ∧ Rep K φ G d v
  | _, _, .nil, n, i, sl, h => by
    simp only [List.map_nil, List.nil_append] at h
    by_cases hi : i < n
    · rw [List.getElem?_replicate, if_pos hi] at h; cases h
    · rw [List.getElem?_replicate, if_neg hi] at h; cases h
  | _, _, .cons r _, n, 0, sl, h => by
    have : some (Slot.val _) = some sl := h
    cases this
    exact ⟨_, _, rfl, rfl, r⟩
  | _, _, .cons _ r, n, i + 1, sl, h => rep_start r n i sl h
theorem sr_start {φ : List Addr} {G H : Hp} {st : Store} {ds : List D} {vs : List V} {N : List Str} {n : Nat} (hn : n = N.length) (r : RepA K φ G ds vs) (sm : Same G H) (s : StR K φ G st H) :
    SR K ⟨φ, G, H⟩ φ G ⟨startE n ds, st⟩ (L2.start N vs) H := by
  subst hn
  refine ⟨Ext.refl _ _ _, sm, s, fun i sl e => ?_, fun i j xs ys v e1 _ _ _ => ?_, ?_⟩
  · have e' : ((ds.map (fun d => some (Slot.val d)) ++ List.replicate (N.length - ds.length) none)[i]?).bind id = some sl := e
    obtain ⟨d, v, rfl, e2, rv⟩ := rep_start r _ i sl e'
    exact ⟨v, by unfold L2.start; rw [← r.length]; exact e2, rv⟩
  · have e' : ((ds.map (fun d => some (Slot.val d)) ++ List.replicate (N.length - ds.length) none)[i]?).bind id = some _ := e1
    obtain ⟨d, v, h, _⟩ := rep_start r _ i _ e'
    cases h
  · simp [startE, L2.start, r.length]
theorem callK_len {k i : Nat} {st : Stmt} {fn : Fn} {x : Str} (h1 : T[i]? = some fn) (D : DefOk K mg fns glb locs x st fn) {ds : List DE.D} {sto : Store} {r : DE.D × Store} (h : callK T fuel k i ds sto = some r) : ds.length = (argNames (defArgs st)).length := by
  have hc := D.comp
  unfold compDef at hc
  obtain ⟨body, hbody, rfl⟩ := omapOk hc
  cases k with
  | zero => cases h
  | succ k =>
    unfold callK at h
    rw [h1] at h
    unfold runFn at h
    dsimp only at h
    split at h
    · assumption
    · cases h
theorem fnOk_at (M : ModOk K mg fns glb locs T) : ∀ (k i : Nat) (x : Str) (st : Stmt) (fn : Fn) (qual : Str) (f : Addr) (fd : FuncData), T[i]? = some fn → DefOk K mg fns glb locs x st fn → Fun K x qual st f fd →
    FnOk P w K mg base CX0 k f fd (argNames (defArgs st)) (spOf K (argNames (defArgs st)).length (callK T fuel k) i) := by
  intro k
  induction k with
  | zero =>
    intro i x st fn qual f fd h1 D F
    refine ⟨fun vs H Q E h => h.1, fun A outer s H args us vs Q E _ _ _ _ h => ?_⟩
    obtain ⟨_, _, _, _, _, _, _, _, _, _, h, _⟩ := h
    cases h
  | succ k ih =>
    intro i x st fn qual f fd h1 D F
    have hc := D.comp
    unfold compDef at hc
    obtain ⟨body, hbody, rfl⟩ := omapOk hc
    refine F.ok D.scope (fun vs H Q E h => h.1) (fun cdv A outer s H vs Q E hr h => ?_)
    obtain ⟨hl, φ, G, ds, sto, d, st', r, sm, hst, hcall, q⟩ := h
    refine ⟨_, pss_WSs, ?_⟩
    have g : Good (ccOf fns glb locs st) k (callK T fuel k) (cxOf CX0 P w K mg base (slotsOf st) qual (defScope st) f cdv A outer s H E).nox := by
      refine ⟨rfl, D.scope.nd, rfl, rfl, PassesOwn.never, fun _ _ => rfl, hr, M.bi, M.glb, fun j y hy => ?_⟩
      obtain ⟨st2, fn2, h2, D2⟩ := M.defs.get hy
      obtain ⟨qual2, f2, fd2, F2, hm2, hb2⟩ := D2.there
      exact ⟨_, f2, fd2, _, ih j y st2 fn2 qual2 f2 fd2 h2 D2 F2, hm2, F2.kp, hb2, fun ds st r h => callK_len h2 D2 h⟩
    have S := (allIS (k := k) (C := ⟨callK T fuel k, fuel⟩) 60).l _ _ body _ g hbody
    unfold callK at hcall
    rw [h1] at hcall
    unfold runFn at hcall
    dsimp only at hcall
    split at hcall
    · have I := sr_start (N := slotsOf st) rfl r sm hst
      split at hcall
      · rename_i d' s' ev
        cases hcall
        exact S _ φ G _ _ H _ _ _ I ev fun φ' G' σ' H' p gg J v rv => q φ' G' H' v J.ext J.same J.st rv
      · rename_i s' ev
        cases hcall
        exact S _ φ G _ _ H _ _ _ I ev fun φ' G' σ' H' p gg J => q φ' G' H' .non J.ext J.same J.st .non
      · cases hcall
    · cases hcall
/-- the law -/
def spLaw (K : PySem.W.Frag) : Sp := fun vs H Q _ => ∃ (a : Addr) (ns : List Int), vs = [.ref a] ∧ SqL K H a (ns.map V.int) ∧ ns.length ≤ 63 ∧ ∀ H', Q (.bl true) H'
theorem law_ok (M : ModOk K mg fns glb locs T) {k i : Nat} {x qual : Str} {st : Stmt} {fn : Fn} {f : Addr} {fd : FuncData} (h1 : T[i]? = some fn) (D : DefOk K mg fns glb locs x st fn) (F : Fun K x qual st f fd)
    (h : ∀ ns : List Int, ns.length ≤ 63 → ∃ st, callK T fuel k i [.scr (ns.map DE.D.int)] [] = some (.bl true, st)) : FnOk P w K mg base CX0 k f fd (argNames (defArgs st)) (spLaw K) := by
  refine (fnOk_at (P := P) (w := w) (base := base) (fuel := fuel) M k i x st fn qual f fd h1 D F).imp fun vs H Q E hs => ?_
  obtain ⟨a, ns, rfl, hS, hl, q⟩ := hs
  obtain ⟨st, hc⟩ := h ns hl
  refine ⟨callK_len h1 D hc, [], H, _, [], _, st, .cons (.scr hS (ints_rep ns)) .nil, Same.refl _, ⟨rfl, by simp, fun n ds e => by simp at e⟩, hc, fun φ' G' H' v _ _ _ rv => ?_⟩
  cases rv
  exact q H'
end
end DE
end

section
set_option Elab.async false
set_option linter.all false
set_option maxRecDepth 100000
namespace DE
open PySem
def fn_is_within : Fn := ⟨3, 3, (.cons (.ret (.and (.isi (.pk 0) .int) (.and (.not (.isi (.pk 0) .bool)) (.chn .le .le (.pk 1) (.pk 0) (.pk 2))))) .nil)⟩
def el_is_name_0 : CE := (.cmp .mem (.pk 2) (.glb (.str ("abcdefghijklmnopqrstuvwxyz" : PySem.Str))))
def ce_is_name_0 : CE := .comp [1, 2] (.name 2) (.seq (.pk 0)) .nil (el_is_name_0)
def fn_is_name : Fn := ⟨1, 3, (.cons (.iff (.or (.not (.isi (.pk 0) .str)) (.not (.chn .le .le (.con (.int 1)) (.bi .len (.cons (.pk 0) .nil)) (.glb (.int 8))))) (.cons (.ret (.con (.bl false))) .nil) .nil) (.cons (.ret (.bi .all (.cons (ce_is_name_0) .nil))) .nil))⟩
def el_rises_0 : CE := (.cmp .lt (.pk 2) (.pk 3))
def ce_rises_0 : CE := .comp [1, 2, 3] (.tup (.cons (.name 2) (.cons (.name 3) .nil))) (.zip (.pk 0) (.slc (.pk 0) (.som (.con (.int 1))) .non)) .nil (el_rises_0)
def fn_rises : Fn := ⟨1, 4, (.cons (.ret (.bi .all (.cons (ce_rises_0) .nil))) .nil)⟩
def fn_is_step (i_is_within : Nat) : Fn := ⟨3, 5, (.cons (.iff (.or (.not (.isi (.pk 0) .tuple)) (.or (.cmp .ne (.bi .len (.cons (.pk 0) .nil)) (.con (.int 2))) (.not (.isi (.idx (.pk 0) (.con (.int 0))) .str)))) (.cons (.ret (.con (.bl false))) .nil) .nil) (.cons (.frz [0]) (.cons (.asg (.tup (.cons (.name 3) (.cons (.name 4) .nil))) (.var 0)) (.cons (.iff (.cmp .eq (.pk 3) (.con (.str ("work" : PySem.Str)))) (.cons (.frz [4]) (.cons (.ret (.call i_is_within (.cons (.var 4) (.cons (.con (.int 1)) (.cons (.glb (.int 100)) .nil))))) .nil)) .nil) (.cons (.iff (.cmp .mem (.pk 3) (.tup (.cons (.con (.str ("grow" : PySem.Str))) (.cons (.con (.str ("shrink" : PySem.Str))) .nil)))) (.cons (.frz [4]) (.cons (.ret (.call i_is_within (.cons (.var 4) (.cons (.con (.int 1)) (.cons (.glb (.int 1000)) .nil))))) .nil)) .nil) (.cons (.iff (.cmp .mem (.pk 3) (.tup (.cons (.con (.str ("take" : PySem.Str))) (.cons (.con (.str ("free" : PySem.Str))) .nil)))) (.cons (.ret (.and (.isi (.pk 4) .str) (.cmp .mem (.pk 4) (.pk 2)))) .nil) .nil) (.cons (.ret (.and (.cmp .eq (.pk 3) (.con (.str ("raise" : PySem.Str)))) (.and (.isi (.pk 4) .str) (.cmp .mem (.pk 4) (.pk 1))))) .nil)))))))⟩
def bo_is_even_0 : CSs := (.cons (.iff (.cmp .eq (.pk 4) (.con (.str ("take" : PySem.Str)))) (.cons (.iff (.cmp .mem (.pk 5) (.pk 1)) (.cons (.ret (.con (.bl false))) .nil) .nil) (.cons (.frz [5]) (.cons (.app 1 (.var 5)) .nil))) (.cons (.iff (.cmp .eq (.pk 4) (.con (.str ("free" : PySem.Str)))) (.cons (.iff (.or (.cmp .eq (.pk 1) (.lst .nil)) (.cmp .ne (.pop 1) (.pk 5))) (.cons (.ret (.con (.bl false))) .nil) .nil) .nil) (.cons (.iff (.cmp .mem (.pk 4) (.tup (.cons (.con (.str ("grow" : PySem.Str))) (.cons (.con (.str ("shrink" : PySem.Str))) .nil)))) (.cons (.asg (.name 2) (.bin .add (.pk 2) (.bin .mul (.pk 5) (.ife (.cmp .eq (.pk 4) (.con (.str ("grow" : PySem.Str)))) (.con (.int 1)) (.bin .sub (.con (.int 0)) (.con (.int 1))))))) (.cons (.iff (.not (.chn .le .le (.con (.int 0)) (.pk 2) (.glb (.int 1000)))) (.cons (.ret (.con (.bl false))) .nil) .nil) .nil)) .nil) .nil)) .nil)) (.cons (.frz [3]) (.cons (.asg (.name 3) (.or (.var 3) (.cmp .eq (.pk 4) (.con (.str ("work" : PySem.Str)))))) .nil)))
def fo_is_even_0 : CS := .for_ (.tup (.cons (.name 4) (.cons (.name 5) .nil))) (.seq (.var 0)) (bo_is_even_0)
def fn_is_even : Fn := ⟨1, 6, (.cons (.asg (.name 1) (.lst .nil)) (.cons (.asg (.name 2) (.con (.int 0))) (.cons (.asg (.name 3) (.con (.bl false))) (.cons (.frz [0]) (.cons (fo_is_even_0) (.cons (.frz [3]) (.cons (.ret (.and (.cmp .eq (.pk 1) (.lst .nil)) (.and (.cmp .eq (.pk 2) (.con (.int 0))) (.var 3)))) .nil)))))))⟩
def el_is_task_0 (i_is_name i_is_within i_is_step i_is_even : Nat) : CE := (.call i_is_step (.cons (.var 9) (.cons (.var 1) (.cons (.var 2) .nil))))
def ce_is_task_0 (i_is_name i_is_within i_is_step i_is_even : Nat) : CE := .comp [8, 9] (.name 9) (.seq (.pk 7)) .nil (el_is_task_0 i_is_name i_is_within i_is_step i_is_even)
def fn_is_task (i_is_name i_is_within i_is_step i_is_even : Nat) : Fn := ⟨3, 10, (.cons (.iff (.or (.not (.isi (.pk 0) .tuple)) (.or (.cmp .ne (.bi .len (.cons (.pk 0) .nil)) (.con (.int 5))) (.not (.call i_is_name (.cons (.idx (.pk 0) (.con (.int 0))) .nil))))) (.cons (.ret (.con (.bl false))) .nil) .nil) (.cons (.frz [0]) (.cons (.asg (.tup (.cons (.name 3) (.cons (.name 4) (.cons (.name 5) (.cons (.name 6) (.cons (.name 7) .nil)))))) (.var 0)) (.cons (.frz [4, 5, 6]) (.cons (.iff (.or (.not (.call i_is_within (.cons (.var 4) (.cons (.con (.int 1)) (.cons (.glb (.int 9)) .nil))))) (.or (.not (.call i_is_within (.cons (.var 5) (.cons (.con (.int 0)) (.cons (.glb (.int 1000)) .nil))))) (.not (.call i_is_within (.cons (.var 6) (.cons (.con (.int 0)) (.cons (.glb (.int 1000)) .nil))))))) (.cons (.ret (.con (.bl false))) .nil) .nil) (.cons (.iff (.or (.not (.isi (.pk 7) .tuple)) (.cmp .gt (.bi .len (.cons (.pk 7) .nil)) (.glb (.int 12)))) (.cons (.ret (.con (.bl false))) .nil) .nil) (.cons (.frz [1, 2, 7]) (.cons (.ret (.and (.bi .all (.cons (ce_is_task_0 i_is_name i_is_within i_is_step i_is_even) .nil)) (.call i_is_even (.cons (.var 7) .nil)))) .nil))))))))⟩
def fn_is_lock (i_is_name i_is_within : Nat) : Fn := ⟨1, 1, (.cons (.ret (.and (.isi (.pk 0) .tuple) (.and (.cmp .eq (.bi .len (.cons (.pk 0) .nil)) (.con (.int 2))) (.and (.call i_is_name (.cons (.idx (.pk 0) (.con (.int 0))) .nil)) (.call i_is_within (.cons (.idx (.pk 0) (.con (.int 1))) (.cons (.con (.int 0)) (.cons (.glb (.int 9)) .nil)))))))) .nil)⟩
def bo_names_in_0 (i_is_name i_rises : Nat) : CSs := (.cons (.iff (.or (.not (.isi (.pk 2) .tuple)) (.or (.cmp .eq (.pk 2) (.tup .nil)) (.not (.call i_is_name (.cons (.idx (.pk 2) (.con (.int 0))) .nil))))) (.cons (.ret (.con .non)) .nil) .nil) .nil)
def fo_names_in_0 (i_is_name i_rises : Nat) : CS := .for_ (.name 2) (.seq (.var 0)) (bo_names_in_0 i_is_name i_rises)
def el_names_in_1 (i_is_name i_rises : Nat) : CE := (.idx (.pk 2) (.con (.int 0)))
def ce_names_in_1 (i_is_name i_rises : Nat) : CE := .comp [4, 2] (.name 2) (.seq (.pk 0)) .nil (el_names_in_1 i_is_name i_rises)
def fn_names_in (i_is_name i_rises : Nat) : Fn := ⟨2, 5, (.cons (.iff (.or (.not (.isi (.pk 0) .tuple)) (.cmp .gt (.bi .len (.cons (.pk 0) .nil)) (.pk 1))) (.cons (.ret (.con .non)) .nil) .nil) (.cons (.frz [0]) (.cons (fo_names_in_0 i_is_name i_rises) (.cons (.asg (.name 3) (ce_names_in_1 i_is_name i_rises)) (.cons (.frz [3, 3]) (.cons (.ret (.ife (.call i_rises (.cons (.var 3) .nil)) (.var 3) (.con .non))) .nil))))))⟩
def el_is_kernel_0 (i_is_within i_names_in i_is_lock i_is_task : Nat) : CE := (.call i_is_lock (.cons (.var 4) .nil))
def ce_is_kernel_0 (i_is_within i_names_in i_is_lock i_is_task : Nat) : CE := .comp [3, 4] (.name 4) (.seq (.idx (.pk 0) (.con (.int 1)))) .nil (el_is_kernel_0 i_is_within i_names_in i_is_lock i_is_task)
def el_is_kernel_1 (i_is_within i_names_in i_is_lock i_is_task : Nat) : CE := (.call i_is_task (.cons (.var 4) (.cons (.var 1) (.cons (.var 2) .nil))))
def ce_is_kernel_1 (i_is_within i_names_in i_is_lock i_is_task : Nat) : CE := .comp [3, 4] (.name 4) (.seq (.idx (.pk 0) (.con (.int 0)))) .nil (el_is_kernel_1 i_is_within i_names_in i_is_lock i_is_task)
def fn_is_kernel (i_is_within i_names_in i_is_lock i_is_task : Nat) : Fn := ⟨1, 5, (.cons (.iff (.or (.not (.isi (.pk 0) .tuple)) (.or (.cmp .ne (.bi .len (.cons (.pk 0) .nil)) (.con (.int 3))) (.not (.call i_is_within (.cons (.idx (.pk 0) (.con (.int 2))) (.cons (.con (.int 1)) (.cons (.glb (.int 3)) .nil))))))) (.cons (.ret (.con (.bl false))) .nil) .nil) (.cons (.asg (.name 1) (.call i_names_in (.cons (.idx (.pk 0) (.con (.int 0))) (.cons (.glb (.int 6)) .nil)))) (.cons (.asg (.name 2) (.call i_names_in (.cons (.idx (.pk 0) (.con (.int 1))) (.cons (.glb (.int 4)) .nil)))) (.cons (.iff (.or (.cmp .is (.pk 1) (.con .non)) (.or (.cmp .is (.pk 2) (.con .non)) (.not (.bi .all (.cons (ce_is_kernel_0 i_is_within i_names_in i_is_lock i_is_task) .nil))))) (.cons (.ret (.con (.bl false))) .nil) .nil) (.cons (.frz [1, 2]) (.cons (.ret (.bi .all (.cons (ce_is_kernel_1 i_is_within i_names_in i_is_lock i_is_task) .nil))) .nil))))))⟩
def fn__law_well : Fn := ⟨2, 2, (.cons (.iff (.cmp .ge (.pk 0) (.bin .pow (.con (.int 10)) (.con (.int 18)))) (.cons (.frz [1]) (.cons (.ret (.lstL (.cons (.bin .sub (.pk 0) (.bin .pow (.con (.int 10)) (.con (.int 18)))) (.cons (.bin .mod (.pk 0) (.con (.int 2305843009213693951))) (.cons (.var 1) .nil))))) .nil)) .nil) (.cons (.frz [1]) (.cons (.ret (.lstL (.cons (.con (.int 0)) (.cons (.bin .mod (.pk 0) (.con (.int 2305843009213693951))) (.cons (.var 1) .nil))))) .nil)))⟩
def fn__law_take : Fn := ⟨2, 5, (.cons (.iff (.cmp .gt (.idx (.pk 0) (.con (.int 0))) (.con (.int 0))) (.cons (.asg (.name 2) (.bin .mod (.idx (.pk 0) (.con (.int 0))) (.pk 1))) (.cons (.setI 0 (.con (.int 0)) (.bin .fdiv (.idx (.pk 0) (.con (.int 0))) (.pk 1))) (.cons (.frz [2]) (.cons (.ret (.var 2)) .nil)))) .nil) (.cons (.setI 0 (.con (.int 2)) (.bin .add (.idx (.pk 0) (.con (.int 2))) (.con (.int 1)))) (.cons (.asg (.name 3) (.con (.int 2305843009213693951))) (.cons (.asg (.name 4) (.bin .mod (.bin .add (.idx (.pk 0) (.con (.int 1))) (.bin .mul (.con (.int 1000003)) (.idx (.pk 0) (.con (.int 2))))) (.pk 3))) (.cons (.asg (.name 4) (.bin .mod (.bin .add (.bin .add (.bin .mul (.pk 4) (.pk 4)) (.bin .mul (.con (.int 7919)) (.bin .pow (.idx (.pk 0) (.con (.int 2))) (.con (.int 2))))) (.con (.int 5))) (.pk 3))) (.cons (.ret (.bin .mod (.bin .fdiv (.bin .mod (.bin .pow (.pk 4) (.con (.int 3))) (.pk 3)) (.con (.int 13))) (.pk 1))) .nil))))))⟩
def el__law_bags_0 (i__law_well : Nat) : CE := (.call i__law_well (.cons (.var 4) (.cons (.bin .mul (.con (.int 977)) (.pk 3)) .nil)))
def ce__law_bags_0 (i__law_well : Nat) : CE := .comp [2, 3, 4] (.tup (.cons (.name 3) (.cons (.name 4) .nil))) (.enum (.bin .add (.slc (.pk 0) .non (.som (.var 1))) (.lst (.cons (.con (.int 0)) .nil)))) .nil (el__law_bags_0 i__law_well)
def fn__law_bags (i__law_well : Nat) : Fn := ⟨2, 5, (.cons (.frz [1]) (.cons (.ret (ce__law_bags_0 i__law_well)) .nil))⟩
def el__law_same_0 (i__law_same : Nat) : CE := (.call i__law_same (.cons (.var 3) (.cons (.var 4) .nil)))
def ce__law_same_0 (i__law_same : Nat) : CE := .comp [2, 3, 4] (.tup (.cons (.name 3) (.cons (.name 4) .nil))) (.zip (.pk 0) (.pk 1)) .nil (el__law_same_0 i__law_same)
def fn__law_same (i__law_same : Nat) : Fn := ⟨2, 5, (.cons (.iff (.or (.and (.isi (.pk 0) .list) (.isi (.pk 1) .list)) (.and (.isi (.pk 0) .tuple) (.isi (.pk 1) .tuple))) (.cons (.ret (.and (.cmp .eq (.bi .len (.cons (.pk 0) .nil)) (.bi .len (.cons (.pk 1) .nil))) (.bi .all (.cons (ce__law_same_0 i__law_same) .nil)))) .nil) .nil) (.cons (.iff (.or (.isiT (.pk 0) [.bool, .list, .tuple]) (.isiT (.pk 1) [.bool, .list, .tuple])) (.cons (.ret (.and (.isi (.pk 0) .bool) (.and (.isi (.pk 1) .bool) (.cmp .eq (.pk 0) (.pk 1))))) .nil) .nil) (.cons (.iff (.or (.isi (.pk 0) .int) (.isi (.pk 1) .int)) (.cons (.ret (.and (.isi (.pk 0) .int) (.and (.isi (.pk 1) .int) (.cmp .eq (.pk 0) (.pk 1))))) .nil) .nil) (.cons (.iff (.or (.isi (.pk 0) .str) (.isi (.pk 1) .str)) (.cons (.ret (.and (.isi (.pk 0) .str) (.and (.isi (.pk 1) .str) (.cmp .eq (.pk 0) (.pk 1))))) .nil) .nil) (.cons (.ret (.and (.cmp .is (.pk 0) (.con .non)) (.cmp .is (.pk 1) (.con .non)))) .nil)))))⟩
def el__law_name_0 (i__law_take : Nat) : CE := (.idx (.pk 1) (.call i__law_take (.cons (.var 0) (.cons (.con (.int 26)) .nil))))
def ce__law_name_0 (i__law_take : Nat) : CE := .comp [2, 3] (.name 3) (.range (.idx (.lst (.cons (.con (.int 1)) (.cons (.con (.int 2)) (.cons (.con (.int 8)) .nil)))) (.call i__law_take (.cons (.var 0) (.cons (.con (.int 3)) .nil))))) .nil (el__law_name_0 i__law_take)
def fn__law_name (i__law_take : Nat) : Fn := ⟨1, 4, (.cons (.frz [0]) (.cons (.iff (.cmp .gt (.call i__law_take (.cons (.var 0) (.cons (.con (.int 4)) .nil))) (.con (.int 0))) (.cons (.frz [0]) (.cons (.ret (.idx (.lst (.cons (.con (.str ("a" : PySem.Str))) (.cons (.con (.str ("b" : PySem.Str))) (.cons (.con (.str ("c" : PySem.Str))) (.cons (.con (.str ("ann" : PySem.Str))) (.cons (.con (.str ("bo" : PySem.Str))) (.cons (.con (.str ("room" : PySem.Str))) (.cons (.con (.str ("z" : PySem.Str))) .nil)))))))) (.call i__law_take (.cons (.var 0) (.cons (.con (.int 7)) .nil))))) .nil)) .nil) (.cons (.asg (.name 1) (.con (.str ("abcdefghijklmnopqrstuvwxyz" : PySem.Str)))) (.cons (.frz [0, 0]) (.cons (.ret (.join (.con (.str ("" : PySem.Str))) (ce__law_name_0 i__law_take))) .nil)))))⟩
def bo__law_some_names_0 (i__law_name : Nat) : CSs := (.cons (.frz [0]) (.cons (.asg (.name 4) (.call i__law_name (.cons (.var 0) .nil))) (.cons (.iff (.cmp .nmem (.pk 4) (.pk 2)) (.cons (.frz [4]) (.cons (.app 2 (.var 4)) .nil)) .nil) .nil)))
def fo__law_some_names_0 (i__law_name : Nat) : CS := .for_ (.name 3) (.range (.var 1)) (bo__law_some_names_0 i__law_name)
def fn__law_some_names (i__law_name : Nat) : Fn := ⟨2, 5, (.cons (.asg (.name 2) (.lst .nil)) (.cons (.frz [1]) (.cons (fo__law_some_names_0 i__law_name) (.cons (.ret (.bi .sorted (.cons (.pk 2) .nil))) .nil))))⟩
def el__law_code_0 (i__law_take : Nat) : CE := (.var 15)
def ce__law_code_0 (i__law_take : Nat) : CE := .comp [13, 14, 15] (.tup (.cons (.name 14) (.cons (.name 15) .nil))) (.seq (.pk 6)) (.cons (.cmp .eq (.pk 14) (.con (.str ("free" : PySem.Str)))) .nil) (el__law_code_0 i__law_take)
def el__law_code_1 (i__law_take : Nat) : CE := (.var 10)
def ce__law_code_1 (i__law_take : Nat) : CE := .comp [13, 10] (.name 10) (.seq (.pk 1)) (.cons (.cmp .nmem (.pk 10) (.pk 9)) .nil) (el__law_code_1 i__law_take)
def bo__law_code_2 (i__law_take : Nat) : CSs := (.cons (.frz [0]) (.cons (.asg (.name 8) (.call i__law_take (.cons (.var 0) (.cons (.con (.int 8)) .nil)))) (.cons (.asg (.name 9) (ce__law_code_0 i__law_take)) (.cons (.asg (.name 11) (ce__law_code_1 i__law_take)) (.cons (.iff (.and (.cmp .lt (.pk 8) (.con (.int 2))) (.cmp .ne (.pk 11) (.lst .nil))) (.cons (.frz [0]) (.cons (.asg (.name 10) (.idx (.pk 11) (.call i__law_take (.cons (.var 0) (.cons (.bi .len (.cons (.pk 11) .nil)) .nil))))) (.cons (.frz [10]) (.cons (.app 5 (.tup (.cons (.con (.str ("take" : PySem.Str))) (.cons (.var 10) .nil)))) (.cons (.frz [10]) (.cons (.app 6 (.tup (.cons (.con (.str ("free" : PySem.Str))) (.cons (.var 10) .nil)))) .nil)))))) (.cons (.iff (.cmp .eq (.pk 8) (.con (.int 2))) (.cons (.frz [0]) (.cons (.asg (.name 12) (.bin .add (.con (.int 1)) (.call i__law_take (.cons (.var 0) (.cons (.idx (.lst (.cons (.con (.int 250)) (.cons (.con (.int 9)) .nil))) (.pk 3)) .nil))))) (.cons (.frz [12]) (.cons (.app 5 (.tup (.cons (.con (.str ("grow" : PySem.Str))) (.cons (.var 12) .nil)))) (.cons (.frz [12]) (.cons (.app 6 (.tup (.cons (.con (.str ("shrink" : PySem.Str))) (.cons (.var 12) .nil)))) .nil)))))) (.cons (.iff (.and (.cmp .eq (.pk 8) (.con (.int 3))) (.cmp .ne (.pk 6) (.lst .nil))) (.cons (.app 5 (.pop 6)) .nil) (.cons (.iff (.and (.cmp .eq (.pk 8) (.con (.int 4))) (.cmp .ne (.pk 2) (.lst .nil))) (.cons (.frz [0]) (.cons (.app 5 (.tup (.cons (.con (.str ("raise" : PySem.Str))) (.cons (.idx (.pk 2) (.call i__law_take (.cons (.var 0) (.cons (.bi .len (.cons (.pk 2) .nil)) .nil)))) .nil)))) .nil)) (.cons (.frz [0, 4]) (.cons (.app 5 (.tup (.cons (.con (.str ("work" : PySem.Str))) (.cons (.bin .add (.con (.int 1)) (.call i__law_take (.cons (.var 0) (.cons (.var 4) .nil)))) .nil)))) .nil))) .nil)) .nil)) .nil)) .nil)))))
def fo__law_code_2 (i__law_take : Nat) : CS := .for_ (.name 7) (.range (.bin .add (.con (.int 1)) (.call i__law_take (.cons (.var 0) (.cons (.con (.int 4)) .nil))))) (bo__law_code_2 i__law_take)
def el__law_code_3 (i__law_take : Nat) : CE := (.var 14)
def ce__law_code_3 (i__law_take : Nat) : CE := .comp [13, 14, 15] (.tup (.cons (.name 14) (.cons (.name 15) .nil))) (.seq (.pk 5)) (.cons (.cmp .eq (.pk 14) (.con (.str ("work" : PySem.Str)))) .nil) (el__law_code_3 i__law_take)
def fn__law_code (i__law_take : Nat) : Fn := ⟨4, 16, (.cons (.asg (.name 4) (.idx (.lst (.cons (.con (.int 100)) (.cons (.con (.int 3)) .nil))) (.pk 3))) (.cons (.asg (.name 5) (.lst .nil)) (.cons (.asg (.name 6) (.lst .nil)) (.cons (.frz [0]) (.cons (fo__law_code_2 i__law_take) (.cons (.iff (.cmp .eq (ce__law_code_3 i__law_take) (.lst .nil)) (.cons (.frz [0, 4]) (.cons (.app 5 (.tup (.cons (.con (.str ("work" : PySem.Str))) (.cons (.bin .add (.con (.int 1)) (.call i__law_take (.cons (.var 0) (.cons (.var 4) .nil)))) .nil)))) .nil)) .nil) (.cons (.ret (.bi .tuple (.cons (.bin .add (.pk 5) (.rev (.pk 6))) .nil))) .nil)))))))⟩
def el__law_tops_0 : CE := (.idx (.pk 5) (.con (.int 1)))
def ce__law_tops_0 : CE := .comp [4, 5] (.name 5) (.seq (.pk 0)) (.cons (.cmp .mem (.tup (.cons (.con (.str ("take" : PySem.Str))) (.cons (.var 3) .nil))) (.idx (.pk 5) (.con (.int 4)))) .nil) (el__law_tops_0)
def bo__law_tops_1 : CSs := (.cons (.frz [3, 3]) (.cons (.app 2 (.tup (.cons (.var 3) (.cons (.bi .max (.cons (.bin .add (.lst (.cons (.con (.int 0)) .nil)) (ce__law_tops_0)) .nil)) .nil)))) .nil))
def fo__law_tops_1 : CS := .for_ (.name 3) (.seq (.var 1)) (bo__law_tops_1)
def fn__law_tops : Fn := ⟨2, 6, (.cons (.asg (.name 2) (.lst .nil)) (.cons (.frz [1]) (.cons (fo__law_tops_1) (.cons (.ret (.bi .tuple (.cons (.pk 2) .nil))) .nil))))⟩
def bo__law_kernel_0 (i__law_some_names i__law_take i__law_code i__law_tops : Nat) : CSs := (.cons (.frz [0]) (.cons (.asg (.name 12) (.idx (.pk 9) (.call i__law_take (.cons (.var 0) (.cons (.bi .len (.cons (.pk 9) .nil)) .nil))))) (.cons (.frz [6]) (.cons (.iff (.var 6) (.cons (.frz [12]) (.cons (.rem 9 (.var 12)) .nil)) .nil) (.cons (.frz [4, 7]) (.cons (.asg (.name 13) (.ife (.var 4) (.lst .nil) (.var 7))) (.cons (.frz [0, 8, 13]) (.cons (.asg (.name 14) (.call i__law_code (.cons (.var 0) (.cons (.var 8) (.cons (.var 13) (.cons (.bi .int (.cons (.pk 3) .nil)) .nil)))))) (.cons (.frz [0]) (.cons (.asg (.name 15) (.bin .add (.con (.int 1)) (.call i__law_take (.cons (.var 0) (.cons (.idx (.lst (.cons (.con (.int 1000)) (.cons (.con (.int 5)) .nil))) (.bi .int (.cons (.pk 3) .nil))) .nil))))) (.cons (.frz [4, 0]) (.cons (.iff (.and (.not (.var 4)) (.cmp .eq (.call i__law_take (.cons (.var 0) (.cons (.con (.int 4)) .nil))) (.con (.int 0)))) (.cons (.asg (.name 15) (.con (.int 0))) .nil) .nil) (.cons (.frz [11, 12, 0, 15, 14]) (.cons (.app 10 (.tup (.cons (.var 11) (.cons (.var 12) (.cons (.call i__law_take (.cons (.var 0) (.cons (.idx (.lst (.cons (.con (.int 400)) (.cons (.con (.int 20)) .nil))) (.bi .int (.cons (.pk 3) .nil))) .nil))) (.cons (.var 15) (.cons (.var 14) .nil))))))) .nil))))))))))))))
def fo__law_kernel_0 (i__law_some_names i__law_take i__law_code i__law_tops : Nat) : CS := .for_ (.name 11) (.seq (.var 7)) (bo__law_kernel_0 i__law_some_names i__law_take i__law_code i__law_tops)
def el__law_kernel_1 (i__law_some_names i__law_take i__law_code i__law_tops : Nat) : CE := (.tup (.cons (.var 18) (.cons (.call i__law_take (.cons (.var 0) (.cons (.con (.int 10)) .nil))) .nil)))
def ce__law_kernel_1 (i__law_some_names i__law_take i__law_code i__law_tops : Nat) : CE := .comp [17, 18] (.name 18) (.seq (.pk 8)) .nil (el__law_kernel_1 i__law_some_names i__law_take i__law_code i__law_tops)
def fn__law_kernel (i__law_some_names i__law_take i__law_code i__law_tops : Nat) : Fn := ⟨3, 19, (.cons (.frz [2]) (.cons (.asg (.tup (.cons (.name 3) (.cons (.name 4) (.cons (.name 5) (.cons (.name 6) .nil))))) (.var 2)) (.cons (.frz [0, 0, 1]) (.cons (.asg (.name 7) (.call i__law_some_names (.cons (.var 0) (.cons (.bin .add (.con (.int 1)) (.call i__law_take (.cons (.var 0) (.cons (.var 1) .nil)))) .nil)))) (.cons (.frz [0, 0]) (.cons (.asg (.name 8) (.call i__law_some_names (.cons (.var 0) (.cons (.idx (.lst (.cons (.con (.int 0)) (.cons (.con (.int 1)) (.cons (.con (.int 2)) (.cons (.con (.int 3)) .nil))))) (.call i__law_take (.cons (.var 0) (.cons (.con (.int 4)) .nil)))) .nil)))) (.cons (.asg (.name 9) (.lst (.cons (.con (.int 1)) (.cons (.con (.int 2)) (.cons (.con (.int 3)) (.cons (.con (.int 4)) (.cons (.con (.int 5)) (.cons (.con (.int 6)) (.cons (.con (.int 7)) (.cons (.con (.int 8)) (.cons (.con (.int 9)) .nil))))))))))) (.cons (.asg (.name 10) (.lst .nil)) (.cons (.frz [7]) (.cons (fo__law_kernel_0 i__law_some_names i__law_take i__law_code i__law_tops) (.cons (.frz [10, 8]) (.cons (.asg (.name 16) (.call i__law_tops (.cons (.var 10) (.cons (.var 8) .nil)))) (.cons (.frz [5]) (.cons (.iff (.not (.var 5)) (.cons (.frz [0]) (.cons (.asg (.name 16) (.bi .tuple (.cons (ce__law_kernel_1 i__law_some_names i__law_take i__law_code i__law_tops) .nil))) .nil)) .nil) (.cons (.frz [16, 0]) (.cons (.ret (.tup (.cons (.bi .tuple (.cons (.pk 10) .nil)) (.cons (.var 16) (.cons (.bin .add (.con (.int 1)) (.call i__law_take (.cons (.var 0) (.cons (.con (.int 3)) .nil)))) .nil))))) .nil))))))))))))))))⟩
def fn__law_within : Fn := ⟨3, 3, (.cons (.ret (.and (.isi (.pk 0) .int) (.and (.not (.isi (.pk 0) .bool)) (.chn .le .le (.pk 1) (.pk 0) (.pk 2))))) .nil)⟩
def el__law_is_name_0 : CE := (.var 2)
def ce__law_is_name_0 : CE := .comp [1, 2] (.name 2) (.seq (.pk 0)) (.cons (.cmp .nmem (.pk 2) (.con (.str ("abcdefghijklmnopqrstuvwxyz" : PySem.Str)))) .nil) (el__law_is_name_0)
def fn__law_is_name : Fn := ⟨1, 3, (.cons (.iff (.or (.not (.isi (.pk 0) .str)) (.or (.cmp .lt (.bi .len (.cons (.pk 0) .nil)) (.con (.int 1))) (.cmp .gt (.bi .len (.cons (.pk 0) .nil)) (.con (.int 8))))) (.cons (.ret (.con (.bl false))) .nil) .nil) (.cons (.ret (.cmp .eq (ce__law_is_name_0) (.lst .nil))) .nil))⟩
def bo__law_even_0 : CSs := (.cons (.iff (.cmp .eq (.pk 3) (.con (.str ("take" : PySem.Str)))) (.cons (.iff (.cmp .mem (.pk 4) (.pk 1)) (.cons (.ret (.con (.bl false))) .nil) .nil) (.cons (.frz [4]) (.cons (.app 1 (.var 4)) .nil))) .nil) (.cons (.iff (.and (.cmp .eq (.pk 3) (.con (.str ("free" : PySem.Str)))) (.or (.cmp .eq (.pk 1) (.lst .nil)) (.cmp .ne (.pop 1) (.pk 4)))) (.cons (.ret (.con (.bl false))) .nil) .nil) (.cons (.iff (.cmp .mem (.pk 3) (.tup (.cons (.con (.str ("grow" : PySem.Str))) (.cons (.con (.str ("shrink" : PySem.Str))) .nil)))) (.cons (.frz [4]) (.cons (.asg (.name 2) (.bin .add (.pk 2) (.idx (.lst (.cons (.var 4) (.cons (.bin .sub (.con (.int 0)) (.pk 4)) .nil))) (.bi .int (.cons (.cmp .eq (.pk 3) (.con (.str ("shrink" : PySem.Str)))) .nil))))) (.cons (.iff (.not (.chn .le .le (.con (.int 0)) (.pk 2) (.con (.int 1000)))) (.cons (.ret (.con (.bl false))) .nil) .nil) .nil))) .nil) .nil)))
def fo__law_even_0 : CS := .for_ (.tup (.cons (.name 3) (.cons (.name 4) .nil))) (.seq (.var 0)) (bo__law_even_0)
def el__law_even_1 : CE := (.var 3)
def ce__law_even_1 : CE := .comp [5, 3, 4] (.tup (.cons (.name 3) (.cons (.name 4) .nil))) (.seq (.pk 0)) (.cons (.cmp .eq (.pk 3) (.con (.str ("work" : PySem.Str)))) .nil) (el__law_even_1)
def fn__law_even : Fn := ⟨1, 6, (.cons (.asg (.name 1) (.lst .nil)) (.cons (.asg (.name 2) (.con (.int 0))) (.cons (.frz [0]) (.cons (fo__law_even_0) (.cons (.ret (.and (.cmp .eq (.pk 1) (.lst .nil)) (.and (.cmp .eq (.pk 2) (.con (.int 0))) (.cmp .ne (ce__law_even_1) (.lst .nil))))) .nil)))))⟩
def fn__law_is_step (i__law_within : Nat) : Fn := ⟨3, 3, (.cons (.iff (.or (.not (.isi (.pk 0) .tuple)) (.or (.cmp .ne (.bi .len (.cons (.pk 0) .nil)) (.con (.int 2))) (.not (.isi (.idx (.pk 0) (.con (.int 0))) .str)))) (.cons (.ret (.con (.bl false))) .nil) .nil) (.cons (.iff (.cmp .mem (.idx (.pk 0) (.con (.int 0))) (.tup (.cons (.con (.str ("work" : PySem.Str))) (.cons (.con (.str ("grow" : PySem.Str))) (.cons (.con (.str ("shrink" : PySem.Str))) .nil))))) (.cons (.ret (.call i__law_within (.cons (.idx (.pk 0) (.con (.int 1))) (.cons (.con (.int 1)) (.cons (.ife (.cmp .eq (.idx (.pk 0) (.con (.int 0))) (.con (.str ("work" : PySem.Str)))) (.con (.int 100)) (.con (.int 1000))) .nil))))) .nil) .nil) (.cons (.iff (.not (.isi (.idx (.pk 0) (.con (.int 1))) .str)) (.cons (.ret (.con (.bl false))) .nil) .nil) (.cons (.ret (.or (.and (.cmp .mem (.idx (.pk 0) (.con (.int 0))) (.tup (.cons (.con (.str ("take" : PySem.Str))) (.cons (.con (.str ("free" : PySem.Str))) .nil)))) (.cmp .mem (.idx (.pk 0) (.con (.int 1))) (.pk 2))) (.and (.cmp .eq (.idx (.pk 0) (.con (.int 0))) (.con (.str ("raise" : PySem.Str)))) (.cmp .mem (.idx (.pk 0) (.con (.int 1))) (.pk 1))))) .nil))))⟩
def el__law_names_of_0 (i__law_is_name : Nat) : CE := (.var 5)
def ce__law_names_of_0 (i__law_is_name : Nat) : CE := .comp [4, 5] (.name 5) (.seq (.pk 0)) (.cons (.or (.not (.isi (.pk 5) .tuple)) (.or (.cmp .ne (.bi .len (.cons (.pk 5) .nil)) (.pk 2)) (.not (.call i__law_is_name (.cons (.idx (.pk 5) (.con (.int 0))) .nil))))) .nil) (el__law_names_of_0 i__law_is_name)
def el__law_names_of_1 (i__law_is_name : Nat) : CE := (.idx (.pk 5) (.con (.int 0)))
def ce__law_names_of_1 (i__law_is_name : Nat) : CE := .comp [4, 5] (.name 5) (.seq (.pk 0)) .nil (el__law_names_of_1 i__law_is_name)
def fn__law_names_of (i__law_is_name : Nat) : Fn := ⟨3, 6, (.cons (.iff (.or (.not (.isi (.pk 0) .tuple)) (.cmp .gt (.bi .len (.cons (.pk 0) .nil)) (.pk 1))) (.cons (.ret (.con .non)) .nil) .nil) (.cons (.iff (.cmp .ne (ce__law_names_of_0 i__law_is_name) (.lst .nil)) (.cons (.ret (.con .non)) .nil) .nil) (.cons (.asg (.name 3) (ce__law_names_of_1 i__law_is_name)) (.cons (.frz [3]) (.cons (.ret (.ife (.cmp .eq (.sset (.pk 3)) (.pk 3)) (.var 3) (.con .non))) .nil)))))⟩
def el__law_is_kernel_0 (i__law_within i__law_names_of i__law_is_step i__law_even : Nat) : CE := (.var 9)
def ce__law_is_kernel_0 (i__law_within i__law_names_of i__law_is_step i__law_even : Nat) : CE := .comp [8, 9] (.name 9) (.seq (.idx (.pk 0) (.con (.int 1)))) (.cons (.not (.call i__law_within (.cons (.idx (.pk 9) (.con (.int 1))) (.cons (.con (.int 0)) (.cons (.con (.int 9)) .nil))))) .nil) (el__law_is_kernel_0 i__law_within i__law_names_of i__law_is_step i__law_even)
def el__law_is_kernel_1 (i__law_within i__law_names_of i__law_is_step i__law_even : Nat) : CE := (.var 10)
def ce__law_is_kernel_1 (i__law_within i__law_names_of i__law_is_step i__law_even : Nat) : CE := .comp [8, 10] (.name 10) (.seq (.pk 7)) (.cons (.not (.call i__law_is_step (.cons (.var 10) (.cons (.var 1) (.cons (.var 2) .nil))))) .nil) (el__law_is_kernel_1 i__law_within i__law_names_of i__law_is_step i__law_even)
def bo__law_is_kernel_2 (i__law_within i__law_names_of i__law_is_step i__law_even : Nat) : CSs := (.cons (.frz [4, 5, 6]) (.cons (.iff (.or (.not (.call i__law_within (.cons (.var 4) (.cons (.con (.int 1)) (.cons (.con (.int 9)) .nil))))) (.or (.not (.call i__law_within (.cons (.var 5) (.cons (.con (.int 0)) (.cons (.con (.int 1000)) .nil))))) (.not (.call i__law_within (.cons (.var 6) (.cons (.con (.int 0)) (.cons (.con (.int 1000)) .nil))))))) (.cons (.ret (.con (.bl false))) .nil) .nil) (.cons (.iff (.or (.not (.isi (.pk 7) .tuple)) (.cmp .gt (.bi .len (.cons (.pk 7) .nil)) (.con (.int 12)))) (.cons (.ret (.con (.bl false))) .nil) .nil) (.cons (.frz [1, 2, 7]) (.cons (.iff (.or (.cmp .ne (ce__law_is_kernel_1 i__law_within i__law_names_of i__law_is_step i__law_even) (.lst .nil)) (.not (.call i__law_even (.cons (.var 7) .nil)))) (.cons (.ret (.con (.bl false))) .nil) .nil) .nil)))))
def fo__law_is_kernel_2 (i__law_within i__law_names_of i__law_is_step i__law_even : Nat) : CS := .for_ (.tup (.cons (.name 3) (.cons (.name 4) (.cons (.name 5) (.cons (.name 6) (.cons (.name 7) .nil)))))) (.seq (.idx (.pk 0) (.con (.int 0)))) (bo__law_is_kernel_2 i__law_within i__law_names_of i__law_is_step i__law_even)
def fn__law_is_kernel (i__law_within i__law_names_of i__law_is_step i__law_even : Nat) : Fn := ⟨1, 11, (.cons (.iff (.or (.not (.isi (.pk 0) .tuple)) (.or (.cmp .ne (.bi .len (.cons (.pk 0) .nil)) (.con (.int 3))) (.not (.call i__law_within (.cons (.idx (.pk 0) (.con (.int 2))) (.cons (.con (.int 1)) (.cons (.con (.int 3)) .nil))))))) (.cons (.ret (.con (.bl false))) .nil) .nil) (.cons (.asg (.name 1) (.call i__law_names_of (.cons (.idx (.pk 0) (.con (.int 0))) (.cons (.con (.int 6)) (.cons (.con (.int 5)) .nil))))) (.cons (.asg (.name 2) (.call i__law_names_of (.cons (.idx (.pk 0) (.con (.int 1))) (.cons (.con (.int 4)) (.cons (.con (.int 2)) .nil))))) (.cons (.iff (.or (.cmp .is (.pk 1) (.con .non)) (.or (.cmp .is (.pk 2) (.con .non)) (.cmp .ne (ce__law_is_kernel_0 i__law_within i__law_names_of i__law_is_step i__law_even) (.lst .nil)))) (.cons (.ret (.con (.bl false))) .nil) .nil) (.cons (fo__law_is_kernel_2 i__law_within i__law_names_of i__law_is_step i__law_even) (.cons (.ret (.con (.bl true))) .nil))))))⟩
def fn__law_changed (i__law_take i__law_changed : Nat) : Fn := ⟨2, 4, (.cons (.frz [0]) (.cons (.iff (.and (.isi (.pk 1) .tuple) (.and (.cmp .ne (.pk 1) (.tup .nil)) (.cmp .gt (.call i__law_take (.cons (.var 0) (.cons (.con (.int 7)) .nil))) (.con (.int 0))))) (.cons (.frz [0]) (.cons (.asg (.name 2) (.call i__law_take (.cons (.var 0) (.cons (.bi .len (.cons (.pk 1) .nil)) .nil)))) (.cons (.frz [2, 0]) (.cons (.ret (.bin .add (.bin .add (.slc (.pk 1) .non (.som (.var 2))) (.tup (.cons (.call i__law_changed (.cons (.var 0) (.cons (.idx (.pk 1) (.pk 2)) .nil))) .nil))) (.slc (.pk 1) (.som (.bin .add (.pk 2) (.con (.int 1)))) .non))) .nil)))) .nil) (.cons (.iff (.isi (.pk 1) .tuple) (.cons (.frz [1]) (.cons (.asg (.name 3) (.lst (.cons (.bi .list (.cons (.pk 1) .nil)) (.cons (.bin .add (.pk 1) (.slc (.pk 1) .non (.som (.con (.int 1))))) (.cons (.slc (.pk 1) (.som (.con (.int 1))) .non) (.cons (.con .non) (.cons (.tup (.cons (.var 1) .nil)) (.cons (.bin .add (.pk 1) (.tup (.cons (.con (.int 0)) .nil))) (.cons (.slc (.pk 1) .non (.som (.neg (.con (.int 1))))) (.cons (.rev (.pk 1)) .nil)))))))))) (.cons (.frz [0]) (.cons (.ret (.idx (.bin .add (.pk 3) (.lst (.cons (.bin .add (.pk 1) (.tup (.cons (.tup (.cons (.con (.str ("work" : PySem.Str))) (.cons (.con (.int 1)) .nil))) .nil))) .nil))) (.call i__law_take (.cons (.var 0) (.cons (.con (.int 9)) .nil))))) .nil)))) .nil) (.cons (.iff (.isi (.pk 1) .str) (.cons (.asg (.name 3) (.lst (.cons (.con (.str ("work" : PySem.Str))) (.cons (.con (.str ("take" : PySem.Str))) (.cons (.con (.str ("free" : PySem.Str))) (.cons (.con (.str ("grow" : PySem.Str))) (.cons (.con (.str ("shrink" : PySem.Str))) (.cons (.con (.str ("raise" : PySem.Str))) (.cons (.con (.str ("a" : PySem.Str))) (.cons (.con (.str ("A" : PySem.Str))) (.cons (.con (.str ("" : PySem.Str))) (.cons (.con (.str ("abcdefghi" : PySem.Str))) (.cons (.con .non) (.cons (.con (.int 3)) .nil)))))))))))))) (.cons (.frz [0]) (.cons (.ret (.idx (.pk 3) (.call i__law_take (.cons (.var 0) (.cons (.con (.int 12)) .nil))))) .nil))) .nil) (.cons (.frz [0]) (.cons (.ret (.idx (.lst (.cons (.con (.int 0)) (.cons (.con (.bl true)) (.cons (.con .non) (.cons (.con (.int 1)) (.cons (.con (.int 10)) (.cons (.con (.int 9)) (.cons (.con (.int 1000)) (.cons (.con (.int 1001)) (.cons (.con (.int 100)) (.cons (.con (.int 101)) (.cons (.neg (.con (.int 1))) (.cons (.con (.int 4)) (.cons (.con (.int 3)) (.cons (.con (.str ("a" : PySem.Str))) .nil))))))))))))))) (.call i__law_take (.cons (.var 0) (.cons (.con (.int 14)) .nil))))) .nil))))))⟩
def bo_law_0 (i__law_bags i__law_kernel i__law_changed i__law_take i__law_same i_is_kernel i__law_is_kernel : Nat) : CSs := (.cons (.frz [1, 2]) (.cons (.app 3 (.call i__law_changed (.cons (.var 1) (.cons (.var 2) .nil)))) .nil))
def fo_law_0 (i__law_bags i__law_kernel i__law_changed i__law_take i__law_same i_is_kernel i__law_is_kernel : Nat) : CS := .for_ (.name 4) (.range (.con (.int 10))) (bo_law_0 i__law_bags i__law_kernel i__law_changed i__law_take i__law_same i_is_kernel i__law_is_kernel)
def bo_law_1 (i__law_bags i__law_kernel i__law_changed i__law_take i__law_same i_is_kernel i__law_is_kernel : Nat) : CSs := (.cons (.frz [6, 6]) (.cons (.iff (.not (.call i__law_same (.cons (.call i_is_kernel (.cons (.var 6) .nil)) (.cons (.call i__law_is_kernel (.cons (.var 6) .nil)) .nil)))) (.cons (.ret (.con (.bl false))) .nil) .nil) .nil))
def fo_law_1 (i__law_bags i__law_kernel i__law_changed i__law_take i__law_same i_is_kernel i__law_is_kernel : Nat) : CS := .for_ (.name 6) (.seq (.var 3)) (bo_law_1 i__law_bags i__law_kernel i__law_changed i__law_take i__law_same i_is_kernel i__law_is_kernel)
def bo_law_2 (i__law_bags i__law_kernel i__law_changed i__law_take i__law_same i_is_kernel i__law_is_kernel : Nat) : CSs := (.cons (.frz [1]) (.cons (.asg (.name 2) (.call i__law_kernel (.cons (.var 1) (.cons (.con (.int 6)) (.cons (.tup (.cons (.con (.bl false)) (.cons (.con (.bl false)) (.cons (.con (.bl false)) (.cons (.con (.bl false)) .nil))))) .nil))))) (.cons (.frz [2]) (.cons (.asg (.name 3) (.lst (.cons (.var 2) (.cons (.tup (.cons (.tup .nil) (.cons (.tup .nil) (.cons (.con (.int 1)) .nil)))) (.cons (.tup (.cons (.idx (.pk 2) (.con (.int 0))) (.cons (.idx (.pk 2) (.con (.int 1))) (.cons (.con (.int 4)) .nil)))) (.cons (.con .non) (.cons (.lst .nil) (.cons (.con (.str ("a" : PySem.Str))) (.cons (.con (.int 7)) (.cons (.tup (.cons (.idx (.pk 2) (.con (.int 0))) (.cons (.idx (.pk 2) (.con (.int 1))) .nil))) .nil)))))))))) (.cons (fo_law_0 i__law_bags i__law_kernel i__law_changed i__law_take i__law_same i_is_kernel i__law_is_kernel) (.cons (.frz [1]) (.cons (.app 3 (.call i__law_changed (.cons (.var 1) (.cons (.idx (.pk 3) (.neg (.con (.int 1)))) .nil)))) (.cons (.app 3 (.tup (.cons (.bin .add (.idx (.pk 2) (.con (.int 0))) (.tup (.cons (.tup (.cons (.con (.str ("zzz" : PySem.Str))) (.cons (.con (.int 1)) (.cons (.con (.int 0)) (.cons (.con (.int 0)) (.cons (.tup (.cons (.tup (.cons (.con (.str ("work" : PySem.Str))) (.cons (.con (.int 1)) .nil))) .nil)) .nil)))))) .nil))) (.cons (.idx (.pk 2) (.con (.int 1))) (.cons (.con (.int 1)) .nil))))) (.cons (.frz [1]) (.cons (.asg (.name 5) (.bin .mul (.tup (.cons (.tup (.cons (.con (.str ("work" : PySem.Str))) (.cons (.con (.int 1)) .nil))) .nil)) (.bin .add (.con (.int 11)) (.call i__law_take (.cons (.var 1) (.cons (.con (.int 3)) .nil)))))) (.cons (.frz [5]) (.cons (.app 3 (.tup (.cons (.tup (.cons (.tup (.cons (.con (.str ("q" : PySem.Str))) (.cons (.con (.int 1)) (.cons (.con (.int 0)) (.cons (.con (.int 0)) (.cons (.var 5) .nil)))))) .nil)) (.cons (.tup (.cons (.tup (.cons (.con (.str ("x" : PySem.Str))) (.cons (.con (.int 0)) .nil))) (.cons (.tup (.cons (.con (.str ("y" : PySem.Str))) (.cons (.con (.int 9)) .nil))) .nil))) (.cons (.con (.int 3)) .nil))))) (.cons (.frz [3]) (.cons (fo_law_1 i__law_bags i__law_kernel i__law_changed i__law_take i__law_same i_is_kernel i__law_is_kernel) .nil))))))))))))))
def fo_law_2 (i__law_bags i__law_kernel i__law_changed i__law_take i__law_same i_is_kernel i__law_is_kernel : Nat) : CS := .for_ (.name 1) (.seq (.call i__law_bags (.cons (.var 0) (.cons (.con (.int 8)) .nil)))) (bo_law_2 i__law_bags i__law_kernel i__law_changed i__law_take i__law_same i_is_kernel i__law_is_kernel)
def fn_law (i__law_bags i__law_kernel i__law_changed i__law_take i__law_same i_is_kernel i__law_is_kernel : Nat) : Fn := ⟨1, 7, (.cons (.frz [0]) (.cons (fo_law_2 i__law_bags i__law_kernel i__law_changed i__law_take i__law_same i_is_kernel i__law_is_kernel) (.cons (.ret (.con (.bl true))) .nil)))⟩
end DE
end

section
set_option Elab.async false
set_option linter.all false
set_option maxRecDepth 100000
namespace DE
open PySem L2
def top (i : Nat) : Stmt := PySem.Challenge.pw_onestack_k01_what_is_a_kernel.main.body.getD i (.Pass ⟨0, 0, 0, 0⟩)
def fns : List Str := ["is_within", "is_name", "rises", "is_step", "is_even", "is_task", "is_lock", "names_in", "is_kernel", "_law_well", "_law_take", "_law_bags", "_law_same", "_law_name", "_law_some_names", "_law_code", "_law_tops", "_law_kernel", "_law_within", "_law_is_name", "_law_even", "_law_is_step", "_law_names_of", "_law_is_kernel", "_law_changed", "law"]
def glbs : List (Str × D) := [("LETTERS", (.str ("abcdefghijklmnopqrstuvwxyz" : PySem.Str))), ("LONGEST_NAME", (.int 8)), ("MOST_TASKS", (.int 6)), ("MOST_LEVEL", (.int 9)), ("MOST_ROOM", (.int 1000)), ("MOST_GAP", (.int 1000)), ("MOST_STEPS", (.int 12)), ("MOST_WORK", (.int 100)), ("MOST_LOCKS", (.int 4)), ("MOST_DEPTH", (.int 3))]
def locs : List (Nat × Nat) := [(80, 11), (79, 15)]
theorem cd0 : compDef fns glbs locs (top 11) = some fn_is_within := by kernel_rfl
theorem sc0 : FnScope (slotsOf (top 11)) (argNames (defArgs (top 11))) (defScope (top 11)) := ⟨rfl, rfl, rfl, by decide +kernel, rfl, by decide +kernel, by decide +kernel⟩
theorem cd1 : compDef fns glbs locs (top 12) = some fn_is_name := by kernel_rfl
theorem sc1 : FnScope (slotsOf (top 12)) (argNames (defArgs (top 12))) (defScope (top 12)) := ⟨rfl, rfl, rfl, by decide +kernel, rfl, by decide +kernel, by decide +kernel⟩
theorem cd2 : compDef fns glbs locs (top 13) = some fn_rises := by kernel_rfl
theorem sc2 : FnScope (slotsOf (top 13)) (argNames (defArgs (top 13))) (defScope (top 13)) := ⟨rfl, rfl, rfl, by decide +kernel, rfl, by decide +kernel, by decide +kernel⟩
theorem cd3 : compDef fns glbs locs (top 14) = some (fn_is_step 0) := by kernel_rfl
theorem sc3 : FnScope (slotsOf (top 14)) (argNames (defArgs (top 14))) (defScope (top 14)) := ⟨rfl, rfl, rfl, by decide +kernel, rfl, by decide +kernel, by decide +kernel⟩
theorem cd4 : compDef fns glbs locs (top 15) = some fn_is_even := by kernel_rfl
theorem sc4 : FnScope (slotsOf (top 15)) (argNames (defArgs (top 15))) (defScope (top 15)) := ⟨rfl, rfl, rfl, by decide +kernel, rfl, by decide +kernel, by decide +kernel⟩
theorem cd5 : compDef fns glbs locs (top 16) = some (fn_is_task 1 0 3 4) := by kernel_rfl
theorem sc5 : FnScope (slotsOf (top 16)) (argNames (defArgs (top 16))) (defScope (top 16)) := ⟨rfl, rfl, rfl, by decide +kernel, rfl, by decide +kernel, by decide +kernel⟩
theorem cd6 : compDef fns glbs locs (top 17) = some (fn_is_lock 1 0) := by kernel_rfl
theorem sc6 : FnScope (slotsOf (top 17)) (argNames (defArgs (top 17))) (defScope (top 17)) := ⟨rfl, rfl, rfl, by decide +kernel, rfl, by decide +kernel, by decide +kernel⟩
theorem cd7 : compDef fns glbs locs (top 18) = some (fn_names_in 1 2) := by kernel_rfl
theorem sc7 : FnScope (slotsOf (top 18)) (argNames (defArgs (top 18))) (defScope (top 18)) := ⟨rfl, rfl, rfl, by decide +kernel, rfl, by decide +kernel, by decide +kernel⟩
theorem cd8 : compDef fns glbs locs (top 19) = some (fn_is_kernel 0 7 6 5) := by kernel_rfl
theorem sc8 : FnScope (slotsOf (top 19)) (argNames (defArgs (top 19))) (defScope (top 19)) := ⟨rfl, rfl, rfl, by decide +kernel, rfl, by decide +kernel, by decide +kernel⟩
theorem cd9 : compDef fns glbs locs (top 21) = some fn__law_well := by kernel_rfl
theorem sc9 : FnScope (slotsOf (top 21)) (argNames (defArgs (top 21))) (defScope (top 21)) := ⟨rfl, rfl, rfl, by decide +kernel, rfl, by decide +kernel, by decide +kernel⟩
theorem cd10 : compDef fns glbs locs (top 22) = some fn__law_take := by kernel_rfl
theorem sc10 : FnScope (slotsOf (top 22)) (argNames (defArgs (top 22))) (defScope (top 22)) := ⟨rfl, rfl, rfl, by decide +kernel, rfl, by decide +kernel, by decide +kernel⟩
theorem cd11 : compDef fns glbs locs (top 23) = some (fn__law_bags 9) := by kernel_rfl
theorem sc11 : FnScope (slotsOf (top 23)) (argNames (defArgs (top 23))) (defScope (top 23)) := ⟨rfl, rfl, rfl, by decide +kernel, rfl, by decide +kernel, by decide +kernel⟩
theorem cd12 : compDef fns glbs locs (top 24) = some (fn__law_same 12) := by kernel_rfl
theorem sc12 : FnScope (slotsOf (top 24)) (argNames (defArgs (top 24))) (defScope (top 24)) := ⟨rfl, rfl, rfl, by decide +kernel, rfl, by decide +kernel, by decide +kernel⟩
theorem cd13 : compDef fns glbs locs (top 25) = some (fn__law_name 10) := by kernel_rfl
theorem sc13 : FnScope (slotsOf (top 25)) (argNames (defArgs (top 25))) (defScope (top 25)) := ⟨rfl, rfl, rfl, by decide +kernel, rfl, by decide +kernel, by decide +kernel⟩
theorem cd14 : compDef fns glbs locs (top 26) = some (fn__law_some_names 13) := by kernel_rfl
theorem sc14 : FnScope (slotsOf (top 26)) (argNames (defArgs (top 26))) (defScope (top 26)) := ⟨rfl, rfl, rfl, by decide +kernel, rfl, by decide +kernel, by decide +kernel⟩
theorem cd15 : compDef fns glbs locs (top 27) = some (fn__law_code 10) := by kernel_rfl
theorem sc15 : FnScope (slotsOf (top 27)) (argNames (defArgs (top 27))) (defScope (top 27)) := ⟨rfl, rfl, rfl, by decide +kernel, rfl, by decide +kernel, by decide +kernel⟩
theorem cd16 : compDef fns glbs locs (top 28) = some fn__law_tops := by kernel_rfl
theorem sc16 : FnScope (slotsOf (top 28)) (argNames (defArgs (top 28))) (defScope (top 28)) := ⟨rfl, rfl, rfl, by decide +kernel, rfl, by decide +kernel, by decide +kernel⟩
theorem cd17 : compDef fns glbs locs (top 29) = some (fn__law_kernel 14 10 15 16) := by kernel_rfl
theorem sc17 : FnScope (slotsOf (top 29)) (argNames (defArgs (top 29))) (defScope (top 29)) := ⟨rfl, rfl, rfl, by decide +kernel, rfl, by decide +kernel, by decide +kernel⟩
theorem cd18 : compDef fns glbs locs (top 30) = some fn__law_within := by kernel_rfl
theorem sc18 : FnScope (slotsOf (top 30)) (argNames (defArgs (top 30))) (defScope (top 30)) := ⟨rfl, rfl, rfl, by decide +kernel, rfl, by decide +kernel, by decide +kernel⟩
theorem cd19 : compDef fns glbs locs (top 31) = some fn__law_is_name := by kernel_rfl
theorem sc19 : FnScope (slotsOf (top 31)) (argNames (defArgs (top 31))) (defScope (top 31)) := ⟨rfl, rfl, rfl, by decide +kernel, rfl, by decide +kernel, by decide +kernel⟩
theorem cd20 : compDef fns glbs locs (top 32) = some fn__law_even := by kernel_rfl
theorem sc20 : FnScope (slotsOf (top 32)) (argNames (defArgs (top 32))) (defScope (top 32)) := ⟨rfl, rfl, rfl, by decide +kernel, rfl, by decide +kernel, by decide +kernel⟩
theorem cd21 : compDef fns glbs locs (top 33) = some (fn__law_is_step 18) := by kernel_rfl
theorem sc21 : FnScope (slotsOf (top 33)) (argNames (defArgs (top 33))) (defScope (top 33)) := ⟨rfl, rfl, rfl, by decide +kernel, rfl, by decide +kernel, by decide +kernel⟩
theorem cd22 : compDef fns glbs locs (top 34) = some (fn__law_names_of 19) := by kernel_rfl
theorem sc22 : FnScope (slotsOf (top 34)) (argNames (defArgs (top 34))) (defScope (top 34)) := ⟨rfl, rfl, rfl, by decide +kernel, rfl, by decide +kernel, by decide +kernel⟩
theorem cd23 : compDef fns glbs locs (top 35) = some (fn__law_is_kernel 18 22 21 20) := by kernel_rfl
theorem sc23 : FnScope (slotsOf (top 35)) (argNames (defArgs (top 35))) (defScope (top 35)) := ⟨rfl, rfl, rfl, by decide +kernel, rfl, by decide +kernel, by decide +kernel⟩
theorem cd24 : compDef fns glbs locs (top 36) = some (fn__law_changed 10 24) := by kernel_rfl
theorem sc24 : FnScope (slotsOf (top 36)) (argNames (defArgs (top 36))) (defScope (top 36)) := ⟨rfl, rfl, rfl, by decide +kernel, rfl, by decide +kernel, by decide +kernel⟩
theorem cd25 : compDef fns glbs locs (top 37) = some (fn_law 11 17 24 10 12 8 23) := by kernel_rfl
theorem sc25 : FnScope (slotsOf (top 37)) (argNames (defArgs (top 37))) (defScope (top 37)) := ⟨rfl, rfl, rfl, by decide +kernel, rfl, by decide +kernel, by decide +kernel⟩
def T : List Fn := [fn_is_within, fn_is_name, fn_rises, (fn_is_step 0), fn_is_even, (fn_is_task 1 0 3 4), (fn_is_lock 1 0), (fn_names_in 1 2), (fn_is_kernel 0 7 6 5), fn__law_well, fn__law_take, (fn__law_bags 9), (fn__law_same 12), (fn__law_name 10), (fn__law_some_names 13), (fn__law_code 10), fn__law_tops, (fn__law_kernel 14 10 15 16), fn__law_within, fn__law_is_name, fn__law_even, (fn__law_is_step 18), (fn__law_names_of 19), (fn__law_is_kernel 18 22 21 20), (fn__law_changed 10 24), (fn_law 11 17 24 10 12 8 23)]
end DE
end

section
set_option Elab.async false
set_option linter.all false
set_option maxRecDepth 100000
namespace DE
open PySem L2
/-! The evaluator by rewriting. -/
def finR (r : Res Flow) : Option (D × Store) := match r with
  | .ok (.rt d) s => some (d, s.st)
  | .ok .nx s => some (.non, s.st)
  | _ => none
theorem runFn_eq (C : Ctx) (f : Fn) (ds : List D) (st : Store) : runFn C f ds st = if ds.length = f.pars then finR (evSs C f.body ⟨startE f.slots ds, st⟩) else none := rfl
section
variable {α β : Type} {s : S}
theorem bind_ok (a : α) (s : S) (f : α → S → Res β) : Res.bind (.ok a s) f = f a s := rfl
theorem bind_stuck (f : α → S → Res β) : Res.bind .stuck f = .stuck := rfl
theorem bind_ite (P : Prop) [Decidable P] (x y : Res α) (f : α → S → Res β) : Res.bind (if P then x else y) f = if P then x.bind f else y.bind f := by split <;> rfl
theorem finR_ite (P : Prop) [Decidable P] (x y : Res Flow) : finR (if P then x else y) = if P then finR x else finR y := by split <;> rfl
theorem obind_eq {α β : Type} (x : Option α) (f : α → Option β) : Option.bind x f = match x with | some a => f a | none => none := by cases x <;> rfl
theorem omap_eq {α β : Type} (x : Option α) (f : α → β) : Option.map f x = match x with | some a => some (f a) | none => none := by cases x <;> rfl
theorem finR_rt (d : D) (s : S) : finR (.ok (.rt d) s) = some (d, s.st) := rfl
theorem finR_nx (s : S) : finR (.ok .nx s) = some (.non, s.st) := rfl
theorem asO_pk (i : Nat) (r : Res RX) (s : S) : asO (.pk i) r s = if (s.get i).isSome then .ok (.pk i) s else .stuck := rfl
theorem asO_var (i : Nat) (r : Res RX) (s : S) : asO (.var i) r s = r.bind fun r s1 => .ok (.d r.dat) s1 := rfl
theorem asO_con (d : D) (r : Res RX) (s : S) : asO (.con d) r s = r.bind fun r s1 => .ok (.d r.dat) s1 := rfl
theorem asO_glb (d : D) (r : Res RX) (s : S) : asO (.glb d) r s = r.bind fun r s1 => .ok (.d r.dat) s1 := rfl
theorem asO_bin (o : Bop) (a b : CE) (r : Res RX) (s : S) : asO (.bin o a b) r s = r.bind fun r s1 => .ok (.d r.dat) s1 := rfl
theorem asO_neg (a : CE) (r : Res RX) (s : S) : asO (.neg a) r s = r.bind fun r s1 => .ok (.d r.dat) s1 := rfl
theorem asO_ife (a b c : CE) (r : Res RX) (s : S) : asO (.ife a b c) r s = r.bind fun r s1 => .ok (.d r.dat) s1 := rfl
theorem asO_tup (a : CEs) (r : Res RX) (s : S) : asO (.tup a) r s = r.bind fun r s1 => .ok (.d r.dat) s1 := rfl
theorem asO_lst (a : CEs) (r : Res RX) (s : S) : asO (.lst a) r s = r.bind fun r s1 => .ok (.d r.dat) s1 := rfl
theorem asO_idx (a b : CE) (r : Res RX) (s : S) : asO (.idx a b) r s = r.bind fun r s1 => .ok (.d r.dat) s1 := rfl
theorem asO_slc (a : CE) (l h : CO) (r : Res RX) (s : S) : asO (.slc a l h) r s = r.bind fun r s1 => .ok (.d r.dat) s1 := rfl
theorem asO_rev (a : CE) (r : Res RX) (s : S) : asO (.rev a) r s = r.bind fun r s1 => .ok (.d r.dat) s1 := rfl
theorem asO_call (f : Nat) (a : CEs) (r : Res RX) (s : S) : asO (.call f a) r s = r.bind fun r s1 => .ok (.d r.dat) s1 := rfl
theorem asO_bi (b : Bi) (a : CEs) (r : Res RX) (s : S) : asO (.bi b a) r s = r.bind fun r s1 => .ok (.d r.dat) s1 := rfl
theorem asO_join (a b : CE) (r : Res RX) (s : S) : asO (.join a b) r s = r.bind fun r s1 => .ok (.d r.dat) s1 := rfl
theorem asO_pop (i : Nat) (r : Res RX) (s : S) : asO (.pop i) r s = r.bind fun r s1 => .ok (.d r.dat) s1 := rfl
theorem asO_sset (a : CE) (r : Res RX) (s : S) : asO (.sset a) r s = r.bind fun r s1 => .ok (.d r.dat) s1 := rfl
theorem asO_cmp (o : Cop) (a b : CE) (r : Res RX) (s : S) : asO (.cmp o a b) r s = r.bind fun r s1 => .ok (.d r.dat) s1 := rfl
theorem asB_ok (b : Bool) (s : S) : asB (.ok (.d (.bl b)) s) = .ok b s := rfl
theorem asB_ite (P : Prop) [Decidable P] (x y : Res RX) : asB (if P then x else y) = if P then asB x else asB y := by split <;> rfl
theorem asI_ok (b : Int) (s : S) : asI (.ok (.d (.int b)) s) = .ok b s := rfl
theorem asS_ok (b : Str) (s : S) : asS (.ok (.d (.str b)) s) = .ok b s := rfl
theorem asD_ok (r : RX) (s : S) : asD (.ok r s) = .ok r.dat s := rfl
theorem opt_some (a : α) (s : S) : Res.opt (some a) s = .ok a s := rfl
theorem opt_none (s : S) : Res.opt (none : Option α) s = .stuck := rfl
theorem and_merge (P : Prop) [Decidable P] (q : Bool) (s : S) : (if P then Res.ok (RX.d (.bl q)) s else Res.ok (RX.d (.bl false)) s) = Res.ok (RX.d (.bl (decide P && q))) s := by split <;> simp [*]
theorem or_merge (P : Prop) [Decidable P] (q : Bool) (s : S) : (if P then Res.ok (RX.d (.bl true)) s else Res.ok (RX.d (.bl q)) s) = Res.ok (RX.d (.bl (decide P || q))) s := by split <;> simp [*]
theorem and_mergeB (P : Prop) [Decidable P] (q : Bool) (s : S) : (if P then Res.ok q s else Res.ok false s) = Res.ok (decide P && q) s := by split <;> simp [*]
theorem or_mergeB (P : Prop) [Decidable P] (q : Bool) (s : S) : (if P then Res.ok true s else Res.ok q s) = Res.ok (decide P || q) s := by split <;> simp [*]
end
theorem atI_0 (x : D) (xs : List D) : atI (x :: xs) 0 = some x := by
  simp [atI, ixN]
theorem atI_1 (x y : D) (xs : List D) : atI (x :: y :: xs) 1 = some y := by
  have : (1 : Int) < (xs.length : Int) + 1 + 1 := by omega
  simp [atI, ixN, this]
theorem atI_2 (x y z : D) (xs : List D) : atI (x :: y :: z :: xs) 2 = some z := by
  have : (2 : Int) < (xs.length : Int) + 1 + 1 + 1 := by omega
  simp [atI, ixN, this]
def withinD (x : D) (lo hi : Int) : Bool := match x with
  | .int i => decide (lo ≤ i) && decide (i ≤ hi)
  | _ => false
theorem is_within_ok {C : Ctx} {x : D} {lo hi : Int} {st : Store} (hx : isPy x = true) : runFn C fn_is_within [x, .int lo, .int hi] st = some (.bl (withinD x lo hi), st) := by
  cases x <;> simp [fn_is_within, runFn_eq, finR_rt, finR_nx, finR_ite, ↓startE, ↓evSs, ↓evS, ↓evX, ↓evL, ↓evOs, ↓evBs, ↓evP, ↓evI, ↓asO_pk, ↓asO_var, ↓asO_con, ↓asO_glb, ↓asO_bin, ↓asO_neg, ↓asO_ife, ↓asO_tup, ↓asO_lst, ↓asO_idx, ↓asO_slc, ↓asO_rev, ↓asO_call, ↓asO_bi, ↓asO_join, ↓asO_pop, ↓asO_sset, ↓asO_cmp, ↓Res.bind, ↓asB, ↓asI, ↓asS, ↓asD, ↓Res.opt, ↓two, ↓resO, ↓S.get, ↓S.put, ↓S.put?, ↓asgT, ↓asgTs, ↓RX.dat, ↓obind_eq, ↓omap_eq, and_merge, or_merge, and_mergeB, or_mergeB, isiD, cmpD, lenD, binD, idxD, biD, nonD, atI_0, atI_1, atI_2, List.length_cons, List.length_nil, List.map_cons, List.map_nil, List.append_eq, List.cons_append, List.nil_append, List.getElem?_cons_zero, List.getElem?_cons_succ, List.getElem?_nil, List.mapM_cons, List.mapM_nil, Option.pure_def, Option.bind_eq_bind, id_eq, Bool.false_eq_true, List.foldl_cons, List.foldl_nil, ↓frzS, withinD, isPy] at hx ⊢
theorem law_within_ok {C : Ctx} {x : D} {lo hi : Int} {st : Store} (hx : isPy x = true) : runFn C fn__law_within [x, .int lo, .int hi] st = some (.bl (withinD x lo hi), st) := is_within_ok hx
/-! comprehensions -/
def compPure (e : Env) (tg : D → S → Option S) (cond : S → Res Bool) (elt : S → Res D) (p : D → Bool) (g : D → D) (st : Store) (x : D) : Prop :=
  ∃ s1, tg x ⟨e, st⟩ = some s1 ∧ (∃ s2, cond s1 = .ok (p x) s2 ∧ s2.st = st ∧ (p x = true → ∃ s3, elt s2 = .ok (g x) s3 ∧ s3.st = st))
theorem compPure_id {e : Env} {tg : D → S → Option S} {cond : S → Res Bool} {elt : S → Res D} {p : D → Bool} {g : D → D} {st : Store} {x : D} {s1 : S} (h1 : tg x ⟨e, st⟩ = some s1) (h2 : s1.st = st) (h3 : cond s1 = .ok (p x) s1) (h4 : p x = true → elt s1 = .ok (g x) s1) : compPure e tg cond elt p g st x :=
  ⟨s1, h1, s1, h3, h2, fun q => ⟨s1, h4 q, h2⟩⟩
theorem compL_pure {e : Env} {tg : D → S → Option S} {cond : S → Res Bool} {elt : S → Res D} {p : D → Bool} {g : D → D} {st : Store} : ∀ (xs acc : List D), (∀ x ∈ xs, compPure e tg cond elt p g st x) → acc.length + xs.length ≤ sizeLine →
    compL e tg cond elt xs acc st = some (acc ++ (xs.filter p).map g, st)
  | [], acc, _, _ => by simp [compL]
  | x :: xs, acc, h, hl => by
    obtain ⟨s1, h1, s2, h2, h3, h4⟩ := h x (by simp)
    unfold compL
    rw [h1]
    dsimp only
    rw [h2]
    cases hp : p x with
    | false =>
      dsimp only
      rw [h3, compL_pure xs acc (fun y hy => h y (by simp [hy])) (by simp at hl; omega)]
      simp [hp]
    | true =>
      obtain ⟨s3, h5, h6⟩ := h4 hp
      dsimp only
      rw [h5]
      dsimp only
      rw [if_pos (by simp at hl; omega), h6, compL_pure xs _ (fun y hy => h y (by simp [hy])) (by simp at hl ⊢; omega)]
      simp [hp]
def letters : Str := "abcdefghijklmnopqrstuvwxyz"
def isLow (c : Nat) : Bool := decide (c ∈ letters.cps.toList)
def nameS (z : Str) : Bool := decide (1 ≤ z.length) && decide (z.length ≤ 8) && z.cps.toList.all isLow
def isNameD (x : D) : Bool := match x with
  | .str z => nameS z
  | _ => false
theorem in_letters (c : Nat) : (!(Builtin.Str.occurrences letters ⟨#[c]⟩ 0 letters.length 1).isEmpty) = isLow c := PySem.StrLaws.found_one letters c
theorem blsD_map (xs : List Bool) : blsD (xs.map D.bl) = some xs := by
  induction xs with
  | nil => rfl
  | cons x r ih => simp [blsD, ih]
/-! data compared -/
theorem cmpOk_str (a b : Str) : cmpOk (.str a) (.str b) = true := by simp [cmpOk, isPy, toPy, PyData.depth]
theorem cmpOk_int (a b : Int) : cmpOk (.int a) (.int b) = true := by simp [cmpOk, isPy, toPy, PyData.depth]
theorem cmpOk_bl (a b : Bool) : cmpOk (.bl a) (.bl b) = true := by simp [cmpOk, isPy, toPy, PyData.depth]
theorem eqD_str (a b : Str) : eqD (.str a) (.str b) = decide (a = b) := by
  unfold eqD
  simp only [toPy, PyData.eqv]
  by_cases h : a = b
  · subst h; simp
  · simp [h]
theorem eqD_int (a b : Int) : eqD (.int a) (.int b) = decide (a = b) := by
  unfold eqD
  simp only [toPy, PyData.eqv]
  by_cases h : a = b
  · subst h; simp
  · simp [h]
theorem eqD_bl (a b : Bool) : eqD (.bl a) (.bl b) = (a == b) := by
  unfold eqD
  simp only [toPy, PyData.eqv]
theorem eqD_int_str (a : Int) (b : Str) : eqD (.int a) (.str b) = false := by
  unfold eqD
  simp only [toPy, PyData.eqv]
theorem toPys_len (xs : List D) : toPys xs = [] ↔ xs = [] := by cases xs <;> simp [toPys]
theorem eqD_lst0 (xs : List D) : eqD (.lst xs) (.lst []) = xs.isEmpty := by
  unfold eqD
  cases xs <;> simp [toPy, toPys, PyData.eqv, PyData.eqvAll]
theorem eqD_tup0 (xs : List D) : eqD (.tup xs) (.tup []) = xs.isEmpty := by
  unfold eqD
  cases xs <;> simp [toPy, toPys, PyData.eqv, PyData.eqvAll]
theorem cmpOk_lst0 {xs : List D} (h : isPys xs = true) : cmpOk (.lst xs) (.lst []) = true := by
  have e : min (PyData.depthAll (toPys xs) + 1) 1 ≤ 60 := by omega
  simp [cmpOk, isPy, isPys, toPy, toPys, PyData.depth, PyData.depthAll, h, e]
theorem cmpOk_tup0 {xs : List D} (h : isPys xs = true) : cmpOk (.tup xs) (.tup []) = true := by
  have e : min (PyData.depthAll (toPys xs) + 1) 1 ≤ 60 := by omega
  simp [cmpOk, isPy, isPys, toPy, toPys, PyData.depth, PyData.depthAll, h, e]
theorem isPys_strs (ns : List Str) : isPys (ns.map D.str) = true := by
  induction ns with
  | nil => rfl
  | cons x r ih => simp [isPys, isPy, ih]
theorem isPys_mem : ∀ {xs : List D}, isPys xs = true → ∀ x ∈ xs, isPy x = true
  | [], _, x, h => by cases h
  | y :: r, h, x, hx => by
    simp only [isPys, Bool.and_eq_true] at h
    rcases List.mem_cons.mp hx with rfl | hx
    · exact h.1
    · exact isPys_mem h.2 x hx
theorem isPys_of : ∀ {xs : List D}, (∀ x ∈ xs, isPy x = true) → isPys xs = true
  | [], _ => rfl
  | y :: r, h => by
    simp only [isPys, Bool.and_eq_true]
    exact ⟨h y (by simp), isPys_of fun x hx => h x (by simp [hx])⟩
theorem memD_strs (z : Str) (ns : List Str) : memD (.str z) (ns.map D.str) = some (decide (z ∈ ns)) := by
  unfold memD
  rw [isPys_strs]
  simp only [isPy, toPy, PyData.depth, Bool.and_self, Nat.zero_le, decide_true, if_true]
  congr 1
  induction ns with
  | nil => simp
  | cons x r ih =>
    simp only [List.map_cons, List.any_cons, ih, eqD_str, List.mem_cons]
    by_cases h : x = z
    · subst h; simp
    · have h2 : ¬ z = x := fun e => h e.symm
      simp [h, h2]
theorem memD_str2 (z a b : Str) : memD (.str z) [.str a, .str b] = some (decide (z = a) || decide (z = b)) := by
  have := memD_strs z [a, b]
  simp only [List.map_cons, List.map_nil] at this
  rw [this]
  simp
theorem memD_str3 (z a b c : Str) : memD (.str z) [.str a, .str b, .str c] = some (decide (z = a) || (decide (z = b) || decide (z = c))) := by
  have := memD_strs z [a, b, c]
  simp only [List.map_cons, List.map_nil] at this
  rw [this]
  simp
theorem strsD_map (xs : List Str) : strsD (xs.map D.str) = some xs := by
  induction xs with
  | nil => rfl
  | cons x r ih => simp [strsD, ih]
theorem intsD_map (xs : List Int) : intsD (xs.map D.int) = some xs := by
  induction xs with
  | nil => rfl
  | cons x r ih => simp [intsD, ih]
theorem ev_for {C : Ctx} {t : CT} {it : CI} {body : CSs} {s s1 : S} {xs : List D} (hi : evI C it s = .ok xs s1) : evS C (.for_ t it body) s = forL (evSs C body) (fun x s => asgT t (.d x) s) xs s1 := by
  simp only [evS, hi, bind_ok]
theorem ev_comp {C : Ctx} {own : List Nat} {t : CT} {it : CI} {conds : CEs} {elt : CE} {s : S} {xs ds : List D} {st' : Store} (hi : evI C it s = .ok xs s)
    (hb : compL (compEnv own s.env) (fun x s => asgT t (.d x) s) (evBs C conds) (fun s => asD (evX C elt s)) xs [] s.st = some (ds, st')) : evX C (.comp own t it conds elt) s = .ok (.fr ds) { s with st := st' } := by
  simp only [evX, hi, bind_ok, hb]
theorem as_np {C : Ctx} {e : CE} {s s' : S} {r : RX} (h : isPk e = false) (q : evX C e s = .ok r s') : asO e (evX C e s) s = .ok (.d r.dat) s' := by
  rw [q]
  cases e <;> first | rfl | cases h
theorem ev_comp_pure {C : Ctx} {own : List Nat} {t : CT} {it : CI} {conds : CEs} {elt : CE} {s : S} {xs : List D} (p : D → Bool) (g : D → D) (hi : evI C it s = .ok xs s) (hl : xs.length ≤ sizeLine)
    (hb : ∀ x ∈ xs, compPure (compEnv own s.env) (fun x s => asgT t (.d x) s) (evBs C conds) (fun s => asD (evX C elt s)) p g s.st x) : evX C (.comp own t it conds elt) s = .ok (.fr ((xs.filter p).map g)) s := by
  rw [ev_comp hi (compL_pure xs [] hb (by simpa using hl))]
  simp
end DE
end

section
set_option Elab.async false
set_option linter.all false
set_option maxRecDepth 100000
set_option maxHeartbeats 1000000
namespace DE
open PySem L2
theorem strs_all {z : Str} : (z.cps.toList.map fun c => D.str ⟨#[c]⟩).length = z.length := by simp; rfl
theorem all_bl (p : Nat → Bool) (cs : List Nat) : blsD (cs.map fun c => D.bl (p c)) = some (cs.map p) := by
  have := blsD_map (cs.map p)
  rwa [List.map_map] at this
theorem is_name_ok {C : Ctx} {x : D} {st : Store} (hx : isPy x = true) (hs : ∀ z, x = .str z → z.length ≤ sizeLine) : runFn C fn_is_name [x] st = some (.bl (isNameD x), st) := by
  cases x with
  | str z =>
    have hz := hs z rfl
    have hc : evX C ce_is_name_0 ⟨[some (.val (.str z)), none, none], st⟩ = .ok (.fr (z.cps.toList.map fun c => D.bl (isLow c))) ⟨[some (.val (.str z)), none, none], st⟩ := by
      unfold ce_is_name_0
      rw [ev_comp_pure (xs := z.cps.toList.map fun c => D.str ⟨#[c]⟩) (fun _ => true) (fun x => match x with | .str y => .bl (!(Builtin.Str.occurrences letters y 0 letters.length 1).isEmpty) | _ => .non)]
      · congr 2
        rw [List.filter_eq_self.mpr (by simp), List.map_map]
        apply List.map_congr_left
        intro c _
        simp only [Function.comp, in_letters]
      · simp [runFn_eq, finR_rt, finR_nx, finR_ite, ↓startE, ↓evSs, ↓evS, ↓evX, ↓evL, ↓evOs, ↓evBs, ↓evP, ↓evI, ↓asO_pk, ↓asO_var, ↓asO_con, ↓asO_glb, ↓asO_bin, ↓asO_neg, ↓asO_ife, ↓asO_tup, ↓asO_lst, ↓asO_idx, ↓asO_slc, ↓asO_rev, ↓asO_call, ↓asO_bi, ↓asO_join, ↓asO_pop, ↓asO_sset, ↓asO_cmp, ↓Res.bind, ↓asB, ↓asI, ↓asS, ↓asD, ↓Res.opt, ↓two, ↓resO, ↓S.get, ↓S.put, ↓S.put?, ↓asgT, ↓asgTs, ↓RX.dat, ↓obind_eq, ↓omap_eq, and_merge, or_merge, and_mergeB, or_mergeB, isiD, cmpD, lenD, binD, idxD, biD, nonD, atI_0, atI_1, atI_2, List.length_cons, List.length_nil, List.map_cons, List.map_nil, List.append_eq, List.cons_append, List.nil_append, List.getElem?_cons_zero, List.getElem?_cons_succ, List.getElem?_nil, List.mapM_cons, List.mapM_nil, Option.pure_def, Option.bind_eq_bind, id_eq, Bool.false_eq_true, List.foldl_cons, List.foldl_nil, ↓frzS, seqD]
      · rw [strs_all]; exact hz
      · intro x hx
        obtain ⟨c, _, rfl⟩ := List.mem_map.mp hx
        refine ⟨_, rfl, _, rfl, rfl, fun _ => ⟨_, rfl, rfl⟩⟩
    have ha := as_np (e := ce_is_name_0) rfl hc
    by_cases h1 : (1 : Int) ≤ z.length
    · by_cases h2 : (z.length : Int) ≤ 8
      · have e1 : 1 ≤ z.length := by omega
        have e2 : z.length ≤ 8 := by omega
        simp [fn_is_name, runFn_eq, finR_rt, finR_nx, finR_ite, ↓startE, ↓evSs, ↓evS, ↓evX, ↓evL, ↓evOs, ↓evBs, ↓evP, ↓evI, ↓asO_pk, ↓asO_var, ↓asO_con, ↓asO_glb, ↓asO_bin, ↓asO_neg, ↓asO_ife, ↓asO_tup, ↓asO_lst, ↓asO_idx, ↓asO_slc, ↓asO_rev, ↓asO_call, ↓asO_bi, ↓asO_join, ↓asO_pop, ↓asO_sset, ↓asO_cmp, ↓Res.bind, ↓asB, ↓asI, ↓asS, ↓asD, ↓Res.opt, ↓two, ↓resO, ↓S.get, ↓S.put, ↓S.put?, ↓asgT, ↓asgTs, ↓RX.dat, ↓obind_eq, ↓omap_eq, and_merge, or_merge, and_mergeB, or_mergeB, isiD, cmpD, lenD, binD, idxD, biD, nonD, atI_0, atI_1, atI_2, List.length_cons, List.length_nil, List.map_cons, List.map_nil, List.append_eq, List.cons_append, List.nil_append, List.getElem?_cons_zero, List.getElem?_cons_succ, List.getElem?_nil, List.mapM_cons, List.mapM_nil, Option.pure_def, Option.bind_eq_bind, id_eq, Bool.false_eq_true, List.foldl_cons, List.foldl_nil, ↓frzS, hz, ha, all_bl, h1, h2, isNameD, nameS, e1, e2]
      · have e2 : ¬ z.length ≤ 8 := by omega
        simp [fn_is_name, runFn_eq, finR_rt, finR_nx, finR_ite, ↓startE, ↓evSs, ↓evS, ↓evX, ↓evL, ↓evOs, ↓evBs, ↓evP, ↓evI, ↓asO_pk, ↓asO_var, ↓asO_con, ↓asO_glb, ↓asO_bin, ↓asO_neg, ↓asO_ife, ↓asO_tup, ↓asO_lst, ↓asO_idx, ↓asO_slc, ↓asO_rev, ↓asO_call, ↓asO_bi, ↓asO_join, ↓asO_pop, ↓asO_sset, ↓asO_cmp, ↓Res.bind, ↓asB, ↓asI, ↓asS, ↓asD, ↓Res.opt, ↓two, ↓resO, ↓S.get, ↓S.put, ↓S.put?, ↓asgT, ↓asgTs, ↓RX.dat, ↓obind_eq, ↓omap_eq, and_merge, or_merge, and_mergeB, or_mergeB, isiD, cmpD, lenD, binD, idxD, biD, nonD, atI_0, atI_1, atI_2, List.length_cons, List.length_nil, List.map_cons, List.map_nil, List.append_eq, List.cons_append, List.nil_append, List.getElem?_cons_zero, List.getElem?_cons_succ, List.getElem?_nil, List.mapM_cons, List.mapM_nil, Option.pure_def, Option.bind_eq_bind, id_eq, Bool.false_eq_true, List.foldl_cons, List.foldl_nil, ↓frzS, hz, ha, all_bl, h1, h2, isNameD, nameS, e2]
    · have e1 : ¬ 1 ≤ z.length := by omega
      simp [fn_is_name, runFn_eq, finR_rt, finR_nx, finR_ite, ↓startE, ↓evSs, ↓evS, ↓evX, ↓evL, ↓evOs, ↓evBs, ↓evP, ↓evI, ↓asO_pk, ↓asO_var, ↓asO_con, ↓asO_glb, ↓asO_bin, ↓asO_neg, ↓asO_ife, ↓asO_tup, ↓asO_lst, ↓asO_idx, ↓asO_slc, ↓asO_rev, ↓asO_call, ↓asO_bi, ↓asO_join, ↓asO_pop, ↓asO_sset, ↓asO_cmp, ↓Res.bind, ↓asB, ↓asI, ↓asS, ↓asD, ↓Res.opt, ↓two, ↓resO, ↓S.get, ↓S.put, ↓S.put?, ↓asgT, ↓asgTs, ↓RX.dat, ↓obind_eq, ↓omap_eq, and_merge, or_merge, and_mergeB, or_mergeB, isiD, cmpD, lenD, binD, idxD, biD, nonD, atI_0, atI_1, atI_2, List.length_cons, List.length_nil, List.map_cons, List.map_nil, List.append_eq, List.cons_append, List.nil_append, List.getElem?_cons_zero, List.getElem?_cons_succ, List.getElem?_nil, List.mapM_cons, List.mapM_nil, Option.pure_def, Option.bind_eq_bind, id_eq, Bool.false_eq_true, List.foldl_cons, List.foldl_nil, ↓frzS, hz, ha, all_bl, h1, isNameD, nameS, e1]
  | _ => simp [fn_is_name, runFn_eq, finR_rt, finR_nx, finR_ite, ↓startE, ↓evSs, ↓evS, ↓evX, ↓evL, ↓evOs, ↓evBs, ↓evP, ↓evI, ↓asO_pk, ↓asO_var, ↓asO_con, ↓asO_glb, ↓asO_bin, ↓asO_neg, ↓asO_ife, ↓asO_tup, ↓asO_lst, ↓asO_idx, ↓asO_slc, ↓asO_rev, ↓asO_call, ↓asO_bi, ↓asO_join, ↓asO_pop, ↓asO_sset, ↓asO_cmp, ↓Res.bind, ↓asB, ↓asI, ↓asS, ↓asD, ↓Res.opt, ↓two, ↓resO, ↓S.get, ↓S.put, ↓S.put?, ↓asgT, ↓asgTs, ↓RX.dat, ↓obind_eq, ↓omap_eq, and_merge, or_merge, and_mergeB, or_mergeB, isiD, cmpD, lenD, binD, idxD, biD, nonD, atI_0, atI_1, atI_2, List.length_cons, List.length_nil, List.map_cons, List.map_nil, List.append_eq, List.cons_append, List.nil_append, List.getElem?_cons_zero, List.getElem?_cons_succ, List.getElem?_nil, List.mapM_cons, List.mapM_nil, Option.pure_def, Option.bind_eq_bind, id_eq, Bool.false_eq_true, List.foldl_cons, List.foldl_nil, ↓frzS, isNameD, isPy] at hx ⊢
/-! rises -/
def ltS (a b : Str) : Bool := decide (a.cps.toList < b.cps.toList)
def risesS : List Str → Bool
  | a :: b :: r => ltS a b && risesS (b :: r)
  | _ => true
def gLt (x : D) : D := match x with
  | .tup [.str a, .str b] => .bl (ltS a b)
  | _ => .non
theorem rises_bls : ∀ ns : List Str, ∃ bs, blsD ((zipD (ns.map D.str) (ns.tail.map D.str)).map gLt) = some bs ∧ bs.all id = risesS ns
  | [] => ⟨[], rfl, rfl⟩
  | [a] => ⟨[], rfl, rfl⟩
  | a :: b :: r => by
    obtain ⟨bs, h1, h2⟩ := rises_bls (b :: r)
    refine ⟨ltS a b :: bs, ?_, ?_⟩
    · have h1' : blsD ((zipD (.str b :: r.map D.str) (r.map D.str)).map gLt) = some bs := h1
      show blsD (gLt (.tup [.str a, .str b]) :: (zipD (.str b :: r.map D.str) (r.map D.str)).map gLt) = _
      simp only [gLt, blsD, h1', Option.map_some]
    · simp only [List.all_cons, id, risesS, h2]
theorem cut_tail (xs : List D) : cutD xs (some 1) none = xs.tail := by
  have e1 : HT.sIx xs.length 0 (some 1) = min 1 xs.length := HT.sIx_nat _ _ 1
  have e2 : HT.sIx xs.length xs.length none = xs.length := rfl
  unfold cutD
  rw [e1, e2]
  cases xs with
  | nil => rfl
  | cons x r =>
    have : min 1 (x :: r).length = 1 := by simp
    rw [this]
    simp
theorem zipD_mem : ∀ {xs ys : List Str} {x : D}, x ∈ zipD (xs.map D.str) (ys.map D.str) → ∃ a b, x = .tup [.str a, .str b]
  | [], _, x, h => by simp [zipD] at h
  | _ :: _, [], x, h => by simp [zipD] at h
  | a :: xs, b :: ys, x, h => by
    simp only [List.map_cons, zipD, List.mem_cons] at h
    rcases h with rfl | h
    · exact ⟨a, b, rfl⟩
    · exact zipD_mem h
theorem zipD_le : ∀ (xs ys : List D), (zipD xs ys).length ≤ xs.length
  | [], _ => by simp [zipD]
  | _ :: _, [] => by simp [zipD]
  | x :: xs, y :: ys => by simp [zipD, zipD_le xs ys]
theorem rises_ok {C : Ctx} {ns : List Str} {st : Store} (hl : ns.length ≤ sizeLine) : runFn C fn_rises [.lst (ns.map D.str)] st = some (.bl (risesS ns), st) := by
  have hc : evX C ce_rises_0 ⟨[some (.val (.lst (ns.map D.str))), none, none, none], st⟩ = .ok (.fr ((zipD (ns.map D.str) (ns.tail.map D.str)).map gLt)) ⟨[some (.val (.lst (ns.map D.str))), none, none, none], st⟩ := by
    unfold ce_rises_0
    rw [ev_comp_pure (xs := zipD (ns.map D.str) (ns.tail.map D.str)) (fun _ => true) gLt]
    · rw [List.filter_eq_self.mpr (by simp)]
    · simp [runFn_eq, finR_rt, finR_nx, finR_ite, ↓startE, ↓evSs, ↓evS, ↓evX, ↓evL, ↓evOs, ↓evBs, ↓evP, ↓evI, ↓asO_pk, ↓asO_var, ↓asO_con, ↓asO_glb, ↓asO_bin, ↓asO_neg, ↓asO_ife, ↓asO_tup, ↓asO_lst, ↓asO_idx, ↓asO_slc, ↓asO_rev, ↓asO_call, ↓asO_bi, ↓asO_join, ↓asO_pop, ↓asO_sset, ↓asO_cmp, ↓Res.bind, ↓asB, ↓asI, ↓asS, ↓asD, ↓Res.opt, ↓two, ↓resO, ↓S.get, ↓S.put, ↓S.put?, ↓asgT, ↓asgTs, ↓RX.dat, ↓obind_eq, ↓omap_eq, and_merge, or_merge, and_mergeB, or_mergeB, isiD, cmpD, lenD, binD, idxD, biD, nonD, atI_0, atI_1, atI_2, List.length_cons, List.length_nil, List.map_cons, List.map_nil, List.append_eq, List.cons_append, List.nil_append, List.getElem?_cons_zero, List.getElem?_cons_succ, List.getElem?_nil, List.mapM_cons, List.mapM_nil, Option.pure_def, Option.bind_eq_bind, id_eq, Bool.false_eq_true, List.foldl_cons, List.foldl_nil, ↓frzS, slcD, cut_tail, zipV]
    · exact Nat.le_trans (zipD_le _ _) (by simpa using hl)
    · intro x hx
      obtain ⟨a, b, rfl⟩ := zipD_mem hx
      refine ⟨_, rfl, _, rfl, rfl, fun _ => ⟨_, rfl, rfl⟩⟩
  have ha := as_np (e := ce_rises_0) rfl hc
  obtain ⟨bs, h1, h2⟩ := rises_bls ns
  rw [List.map_tail] at h1
  simp [fn_rises, runFn_eq, finR_rt, finR_nx, finR_ite, ↓startE, ↓evSs, ↓evS, ↓evX, ↓evL, ↓evOs, ↓evBs, ↓evP, ↓evI, ↓asO_pk, ↓asO_var, ↓asO_con, ↓asO_glb, ↓asO_bin, ↓asO_neg, ↓asO_ife, ↓asO_tup, ↓asO_lst, ↓asO_idx, ↓asO_slc, ↓asO_rev, ↓asO_call, ↓asO_bi, ↓asO_join, ↓asO_pop, ↓asO_sset, ↓asO_cmp, ↓Res.bind, ↓asB, ↓asI, ↓asS, ↓asD, ↓Res.opt, ↓two, ↓resO, ↓S.get, ↓S.put, ↓S.put?, ↓asgT, ↓asgTs, ↓RX.dat, ↓obind_eq, ↓omap_eq, and_merge, or_merge, and_mergeB, or_mergeB, isiD, cmpD, lenD, binD, idxD, biD, nonD, atI_0, atI_1, atI_2, List.length_cons, List.length_nil, List.map_cons, List.map_nil, List.append_eq, List.cons_append, List.nil_append, List.getElem?_cons_zero, List.getElem?_cons_succ, List.getElem?_nil, List.mapM_cons, List.mapM_nil, Option.pure_def, Option.bind_eq_bind, id_eq, Bool.false_eq_true, List.foldl_cons, List.foldl_nil, ↓frzS, ha, h1, h2]
/-! steps -/
def isStepD (x : D) (ns ls : List Str) : Bool := match x with
  | .tup [.str w, p] => if w = "work" then withinD p 1 100 else if w = "grow" ∨ w = "shrink" then withinD p 1 1000 else
      if w = "take" ∨ w = "free" then (match p with | .str z => decide (z ∈ ls) | _ => false) else decide (w = "raise") && (match p with | .str z => decide (z ∈ ns) | _ => false)
  | _ => false
def HW (C : Ctx) (i : Nat) : Prop := ∀ (x : D) (lo hi : Int) (st : Store), isPy x = true → C.call i [x, .int lo, .int hi] st = some (.bl (withinD x lo hi), st)
theorem is_step_ok {C : Ctx} {iw : Nat} {x : D} {ns ls : List Str} {st : Store} (hw : HW C iw) (hx : isPy x = true) : runFn C (fn_is_step iw) [x, .lst (ns.map D.str), .lst (ls.map D.str)] st = some (.bl (isStepD x ns ls), st) := by
  cases x with
  | tup xs =>
    match xs, hx with
    | [], hx => simp [fn_is_step, runFn_eq, finR_rt, finR_nx, finR_ite, ↓startE, ↓evSs, ↓evS, ↓evX, ↓evL, ↓evOs, ↓evBs, ↓evP, ↓evI, ↓asO_pk, ↓asO_var, ↓asO_con, ↓asO_glb, ↓asO_bin, ↓asO_neg, ↓asO_ife, ↓asO_tup, ↓asO_lst, ↓asO_idx, ↓asO_slc, ↓asO_rev, ↓asO_call, ↓asO_bi, ↓asO_join, ↓asO_pop, ↓asO_sset, ↓asO_cmp, ↓Res.bind, ↓asB, ↓asI, ↓asS, ↓asD, ↓Res.opt, ↓two, ↓resO, ↓S.get, ↓S.put, ↓S.put?, ↓asgT, ↓asgTs, ↓RX.dat, ↓obind_eq, ↓omap_eq, and_merge, or_merge, and_mergeB, or_mergeB, isiD, cmpD, lenD, binD, idxD, biD, nonD, atI_0, atI_1, atI_2, List.length_cons, List.length_nil, List.map_cons, List.map_nil, List.append_eq, List.cons_append, List.nil_append, List.getElem?_cons_zero, List.getElem?_cons_succ, List.getElem?_nil, List.mapM_cons, List.mapM_nil, Option.pure_def, Option.bind_eq_bind, id_eq, Bool.false_eq_true, List.foldl_cons, List.foldl_nil, ↓frzS, cmpOk_int, eqD_int, isStepD]
    | [a], hx => simp [fn_is_step, runFn_eq, finR_rt, finR_nx, finR_ite, ↓startE, ↓evSs, ↓evS, ↓evX, ↓evL, ↓evOs, ↓evBs, ↓evP, ↓evI, ↓asO_pk, ↓asO_var, ↓asO_con, ↓asO_glb, ↓asO_bin, ↓asO_neg, ↓asO_ife, ↓asO_tup, ↓asO_lst, ↓asO_idx, ↓asO_slc, ↓asO_rev, ↓asO_call, ↓asO_bi, ↓asO_join, ↓asO_pop, ↓asO_sset, ↓asO_cmp, ↓Res.bind, ↓asB, ↓asI, ↓asS, ↓asD, ↓Res.opt, ↓two, ↓resO, ↓S.get, ↓S.put, ↓S.put?, ↓asgT, ↓asgTs, ↓RX.dat, ↓obind_eq, ↓omap_eq, and_merge, or_merge, and_mergeB, or_mergeB, isiD, cmpD, lenD, binD, idxD, biD, nonD, atI_0, atI_1, atI_2, List.length_cons, List.length_nil, List.map_cons, List.map_nil, List.append_eq, List.cons_append, List.nil_append, List.getElem?_cons_zero, List.getElem?_cons_succ, List.getElem?_nil, List.mapM_cons, List.mapM_nil, Option.pure_def, Option.bind_eq_bind, id_eq, Bool.false_eq_true, List.foldl_cons, List.foldl_nil, ↓frzS, cmpOk_int, eqD_int, isStepD]
    | a :: b :: c :: r, hx =>
      have : ¬ ((r.length : Int) + 1 + 1 + 1 = 2) := by omega
      simp [fn_is_step, runFn_eq, finR_rt, finR_nx, finR_ite, ↓startE, ↓evSs, ↓evS, ↓evX, ↓evL, ↓evOs, ↓evBs, ↓evP, ↓evI, ↓asO_pk, ↓asO_var, ↓asO_con, ↓asO_glb, ↓asO_bin, ↓asO_neg, ↓asO_ife, ↓asO_tup, ↓asO_lst, ↓asO_idx, ↓asO_slc, ↓asO_rev, ↓asO_call, ↓asO_bi, ↓asO_join, ↓asO_pop, ↓asO_sset, ↓asO_cmp, ↓Res.bind, ↓asB, ↓asI, ↓asS, ↓asD, ↓Res.opt, ↓two, ↓resO, ↓S.get, ↓S.put, ↓S.put?, ↓asgT, ↓asgTs, ↓RX.dat, ↓obind_eq, ↓omap_eq, and_merge, or_merge, and_mergeB, or_mergeB, isiD, cmpD, lenD, binD, idxD, biD, nonD, atI_0, atI_1, atI_2, List.length_cons, List.length_nil, List.map_cons, List.map_nil, List.append_eq, List.cons_append, List.nil_append, List.getElem?_cons_zero, List.getElem?_cons_succ, List.getElem?_nil, List.mapM_cons, List.mapM_nil, Option.pure_def, Option.bind_eq_bind, id_eq, Bool.false_eq_true, List.foldl_cons, List.foldl_nil, ↓frzS, cmpOk_int, eqD_int, isStepD, this]
    | [a, b], hx =>
      have hb : isPy b = true := isPys_mem hx b (by simp)
      have hb2 := fun lo hi st => hw b lo hi st hb
      cases a with
      | str w =>
        by_cases h1 : w = "work"
        · simp [fn_is_step, runFn_eq, finR_rt, finR_nx, finR_ite, ↓startE, ↓evSs, ↓evS, ↓evX, ↓evL, ↓evOs, ↓evBs, ↓evP, ↓evI, ↓asO_pk, ↓asO_var, ↓asO_con, ↓asO_glb, ↓asO_bin, ↓asO_neg, ↓asO_ife, ↓asO_tup, ↓asO_lst, ↓asO_idx, ↓asO_slc, ↓asO_rev, ↓asO_call, ↓asO_bi, ↓asO_join, ↓asO_pop, ↓asO_sset, ↓asO_cmp, ↓Res.bind, ↓asB, ↓asI, ↓asS, ↓asD, ↓Res.opt, ↓two, ↓resO, ↓S.get, ↓S.put, ↓S.put?, ↓asgT, ↓asgTs, ↓RX.dat, ↓obind_eq, ↓omap_eq, and_merge, or_merge, and_mergeB, or_mergeB, isiD, cmpD, lenD, binD, idxD, biD, nonD, atI_0, atI_1, atI_2, List.length_cons, List.length_nil, List.map_cons, List.map_nil, List.append_eq, List.cons_append, List.nil_append, List.getElem?_cons_zero, List.getElem?_cons_succ, List.getElem?_nil, List.mapM_cons, List.mapM_nil, Option.pure_def, Option.bind_eq_bind, id_eq, Bool.false_eq_true, List.foldl_cons, List.foldl_nil, ↓frzS, cmpOk_int, eqD_int, cmpOk_str, eqD_str, isStepD, hb2, h1]
        by_cases h2 : w = "grow" ∨ w = "shrink"
        · simp [fn_is_step, runFn_eq, finR_rt, finR_nx, finR_ite, ↓startE, ↓evSs, ↓evS, ↓evX, ↓evL, ↓evOs, ↓evBs, ↓evP, ↓evI, ↓asO_pk, ↓asO_var, ↓asO_con, ↓asO_glb, ↓asO_bin, ↓asO_neg, ↓asO_ife, ↓asO_tup, ↓asO_lst, ↓asO_idx, ↓asO_slc, ↓asO_rev, ↓asO_call, ↓asO_bi, ↓asO_join, ↓asO_pop, ↓asO_sset, ↓asO_cmp, ↓Res.bind, ↓asB, ↓asI, ↓asS, ↓asD, ↓Res.opt, ↓two, ↓resO, ↓S.get, ↓S.put, ↓S.put?, ↓asgT, ↓asgTs, ↓RX.dat, ↓obind_eq, ↓omap_eq, and_merge, or_merge, and_mergeB, or_mergeB, isiD, cmpD, lenD, binD, idxD, biD, nonD, atI_0, atI_1, atI_2, List.length_cons, List.length_nil, List.map_cons, List.map_nil, List.append_eq, List.cons_append, List.nil_append, List.getElem?_cons_zero, List.getElem?_cons_succ, List.getElem?_nil, List.mapM_cons, List.mapM_nil, Option.pure_def, Option.bind_eq_bind, id_eq, Bool.false_eq_true, List.foldl_cons, List.foldl_nil, ↓frzS, cmpOk_int, eqD_int, cmpOk_str, eqD_str, isStepD, hb2, memD_str2, sizeLine_eq, h1, h2]
        by_cases h3 : w = "take" ∨ w = "free"
        · cases b <;> simp [fn_is_step, runFn_eq, finR_rt, finR_nx, finR_ite, ↓startE, ↓evSs, ↓evS, ↓evX, ↓evL, ↓evOs, ↓evBs, ↓evP, ↓evI, ↓asO_pk, ↓asO_var, ↓asO_con, ↓asO_glb, ↓asO_bin, ↓asO_neg, ↓asO_ife, ↓asO_tup, ↓asO_lst, ↓asO_idx, ↓asO_slc, ↓asO_rev, ↓asO_call, ↓asO_bi, ↓asO_join, ↓asO_pop, ↓asO_sset, ↓asO_cmp, ↓Res.bind, ↓asB, ↓asI, ↓asS, ↓asD, ↓Res.opt, ↓two, ↓resO, ↓S.get, ↓S.put, ↓S.put?, ↓asgT, ↓asgTs, ↓RX.dat, ↓obind_eq, ↓omap_eq, and_merge, or_merge, and_mergeB, or_mergeB, isiD, cmpD, lenD, binD, idxD, biD, nonD, atI_0, atI_1, atI_2, List.length_cons, List.length_nil, List.map_cons, List.map_nil, List.append_eq, List.cons_append, List.nil_append, List.getElem?_cons_zero, List.getElem?_cons_succ, List.getElem?_nil, List.mapM_cons, List.mapM_nil, Option.pure_def, Option.bind_eq_bind, id_eq, Bool.false_eq_true, List.foldl_cons, List.foldl_nil, ↓frzS, cmpOk_int, eqD_int, cmpOk_str, eqD_str, isStepD, memD_str2, memD_strs, sizeLine_eq, h1, h2, h3, isPy, isPys] at hx hb ⊢
        · cases b <;> simp [fn_is_step, runFn_eq, finR_rt, finR_nx, finR_ite, ↓startE, ↓evSs, ↓evS, ↓evX, ↓evL, ↓evOs, ↓evBs, ↓evP, ↓evI, ↓asO_pk, ↓asO_var, ↓asO_con, ↓asO_glb, ↓asO_bin, ↓asO_neg, ↓asO_ife, ↓asO_tup, ↓asO_lst, ↓asO_idx, ↓asO_slc, ↓asO_rev, ↓asO_call, ↓asO_bi, ↓asO_join, ↓asO_pop, ↓asO_sset, ↓asO_cmp, ↓Res.bind, ↓asB, ↓asI, ↓asS, ↓asD, ↓Res.opt, ↓two, ↓resO, ↓S.get, ↓S.put, ↓S.put?, ↓asgT, ↓asgTs, ↓RX.dat, ↓obind_eq, ↓omap_eq, and_merge, or_merge, and_mergeB, or_mergeB, isiD, cmpD, lenD, binD, idxD, biD, nonD, atI_0, atI_1, atI_2, List.length_cons, List.length_nil, List.map_cons, List.map_nil, List.append_eq, List.cons_append, List.nil_append, List.getElem?_cons_zero, List.getElem?_cons_succ, List.getElem?_nil, List.mapM_cons, List.mapM_nil, Option.pure_def, Option.bind_eq_bind, id_eq, Bool.false_eq_true, List.foldl_cons, List.foldl_nil, ↓frzS, cmpOk_int, eqD_int, cmpOk_str, eqD_str, isStepD, memD_str2, memD_strs, sizeLine_eq, h1, h2, h3, isPy, isPys] at hx hb ⊢
      | _ => simp [fn_is_step, runFn_eq, finR_rt, finR_nx, finR_ite, ↓startE, ↓evSs, ↓evS, ↓evX, ↓evL, ↓evOs, ↓evBs, ↓evP, ↓evI, ↓asO_pk, ↓asO_var, ↓asO_con, ↓asO_glb, ↓asO_bin, ↓asO_neg, ↓asO_ife, ↓asO_tup, ↓asO_lst, ↓asO_idx, ↓asO_slc, ↓asO_rev, ↓asO_call, ↓asO_bi, ↓asO_join, ↓asO_pop, ↓asO_sset, ↓asO_cmp, ↓Res.bind, ↓asB, ↓asI, ↓asS, ↓asD, ↓Res.opt, ↓two, ↓resO, ↓S.get, ↓S.put, ↓S.put?, ↓asgT, ↓asgTs, ↓RX.dat, ↓obind_eq, ↓omap_eq, and_merge, or_merge, and_mergeB, or_mergeB, isiD, cmpD, lenD, binD, idxD, biD, nonD, atI_0, atI_1, atI_2, List.length_cons, List.length_nil, List.map_cons, List.map_nil, List.append_eq, List.cons_append, List.nil_append, List.getElem?_cons_zero, List.getElem?_cons_succ, List.getElem?_nil, List.mapM_cons, List.mapM_nil, Option.pure_def, Option.bind_eq_bind, id_eq, Bool.false_eq_true, List.foldl_cons, List.foldl_nil, ↓frzS, cmpOk_int, eqD_int, isStepD, isPy, isPys, atI, ixN] at hx ⊢
  | _ => simp [fn_is_step, runFn_eq, finR_rt, finR_nx, finR_ite, ↓startE, ↓evSs, ↓evS, ↓evX, ↓evL, ↓evOs, ↓evBs, ↓evP, ↓evI, ↓asO_pk, ↓asO_var, ↓asO_con, ↓asO_glb, ↓asO_bin, ↓asO_neg, ↓asO_ife, ↓asO_tup, ↓asO_lst, ↓asO_idx, ↓asO_slc, ↓asO_rev, ↓asO_call, ↓asO_bi, ↓asO_join, ↓asO_pop, ↓asO_sset, ↓asO_cmp, ↓Res.bind, ↓asB, ↓asI, ↓asS, ↓asD, ↓Res.opt, ↓two, ↓resO, ↓S.get, ↓S.put, ↓S.put?, ↓asgT, ↓asgTs, ↓RX.dat, ↓obind_eq, ↓omap_eq, and_merge, or_merge, and_mergeB, or_mergeB, isiD, cmpD, lenD, binD, idxD, biD, nonD, atI_0, atI_1, atI_2, List.length_cons, List.length_nil, List.map_cons, List.map_nil, List.append_eq, List.cons_append, List.nil_append, List.getElem?_cons_zero, List.getElem?_cons_succ, List.getElem?_nil, List.mapM_cons, List.mapM_nil, Option.pure_def, Option.bind_eq_bind, id_eq, Bool.false_eq_true, List.foldl_cons, List.foldl_nil, ↓frzS, isStepD, isPy] at hx ⊢
end DE
end

section
set_option Elab.async false
set_option linter.all false
set_option maxRecDepth 100000
set_option maxHeartbeats 2000000
namespace DE
open PySem L2
/-! words -/
theorem w_work_take : (Str.ofString "work" = Str.ofString "take") = False := eq_false (by decide +kernel)
theorem w_work_free : (Str.ofString "work" = Str.ofString "free") = False := eq_false (by decide +kernel)
theorem w_work_grow : (Str.ofString "work" = Str.ofString "grow") = False := eq_false (by decide +kernel)
theorem w_work_shrink : (Str.ofString "work" = Str.ofString "shrink") = False := eq_false (by decide +kernel)
theorem w_work_raise : (Str.ofString "work" = Str.ofString "raise") = False := eq_false (by decide +kernel)
theorem w_take_work : (Str.ofString "take" = Str.ofString "work") = False := eq_false (by decide +kernel)
theorem w_take_free : (Str.ofString "take" = Str.ofString "free") = False := eq_false (by decide +kernel)
theorem w_take_grow : (Str.ofString "take" = Str.ofString "grow") = False := eq_false (by decide +kernel)
theorem w_take_shrink : (Str.ofString "take" = Str.ofString "shrink") = False := eq_false (by decide +kernel)
theorem w_take_raise : (Str.ofString "take" = Str.ofString "raise") = False := eq_false (by decide +kernel)
theorem w_free_work : (Str.ofString "free" = Str.ofString "work") = False := eq_false (by decide +kernel)
theorem w_free_take : (Str.ofString "free" = Str.ofString "take") = False := eq_false (by decide +kernel)
theorem w_free_grow : (Str.ofString "free" = Str.ofString "grow") = False := eq_false (by decide +kernel)
theorem w_free_shrink : (Str.ofString "free" = Str.ofString "shrink") = False := eq_false (by decide +kernel)
theorem w_free_raise : (Str.ofString "free" = Str.ofString "raise") = False := eq_false (by decide +kernel)
theorem w_grow_work : (Str.ofString "grow" = Str.ofString "work") = False := eq_false (by decide +kernel)
theorem w_grow_take : (Str.ofString "grow" = Str.ofString "take") = False := eq_false (by decide +kernel)
theorem w_grow_free : (Str.ofString "grow" = Str.ofString "free") = False := eq_false (by decide +kernel)
theorem w_grow_shrink : (Str.ofString "grow" = Str.ofString "shrink") = False := eq_false (by decide +kernel)
theorem w_grow_raise : (Str.ofString "grow" = Str.ofString "raise") = False := eq_false (by decide +kernel)
theorem w_shrink_work : (Str.ofString "shrink" = Str.ofString "work") = False := eq_false (by decide +kernel)
theorem w_shrink_take : (Str.ofString "shrink" = Str.ofString "take") = False := eq_false (by decide +kernel)
theorem w_shrink_free : (Str.ofString "shrink" = Str.ofString "free") = False := eq_false (by decide +kernel)
theorem w_shrink_grow : (Str.ofString "shrink" = Str.ofString "grow") = False := eq_false (by decide +kernel)
theorem w_shrink_raise : (Str.ofString "shrink" = Str.ofString "raise") = False := eq_false (by decide +kernel)
theorem w_raise_work : (Str.ofString "raise" = Str.ofString "work") = False := eq_false (by decide +kernel)
theorem w_raise_take : (Str.ofString "raise" = Str.ofString "take") = False := eq_false (by decide +kernel)
theorem w_raise_free : (Str.ofString "raise" = Str.ofString "free") = False := eq_false (by decide +kernel)
theorem w_raise_grow : (Str.ofString "raise" = Str.ofString "grow") = False := eq_false (by decide +kernel)
theorem w_raise_shrink : (Str.ofString "raise" = Str.ofString "shrink") = False := eq_false (by decide +kernel)
/-! evenness -/
def evStep (w : Str) (p : D) (h : List Str) (g : Int) (k : Bool) : Option (List Str × Int × Bool) :=
  if w = "take" then (match p with | .str z => if z ∈ h then none else some (h ++ [z], g, k) | _ => none)
  else if w = "free" then (match p with | .str z => if h[h.length - 1]? = some z then some (h.dropLast, g, k) else none | _ => none)
  else if w = "grow" then (match p with | .int i => if 0 ≤ g + i ∧ g + i ≤ 1000 then some (h, g + i, k) else none | _ => none)
  else if w = "shrink" then (match p with | .int i => if 0 ≤ g + -i ∧ g + -i ≤ 1000 then some (h, g + -i, k) else none | _ => none)
  else some (h, g, k || decide (w = "work"))
/-- a step of its kind -/
def kindS (w : Str) (p : D) : Prop := ((w = "work" ∨ w = "grow" ∨ w = "shrink") ∧ ∃ i, p = .int i) ∨ ((w = "take" ∨ w = "free" ∨ w = "raise") ∧ ∃ z, p = .str z)
theorem isStepD_kind {x : D} {ns ls : List Str} (h : isStepD x ns ls = true) : ∃ w p, x = .tup [.str w, p] ∧ kindS w p := by
  unfold isStepD at h
  split at h
  · rename_i w p
    refine ⟨w, p, rfl, ?_⟩
    split at h
    · subst_vars
      cases p <;> simp [withinD] at h
      exact .inl ⟨.inl rfl, _, rfl⟩
    · split at h
      · rename_i hw
        cases p <;> simp [withinD] at h
        exact .inl ⟨.inr hw, _, rfl⟩
      · split at h
        · rename_i hw
          cases p <;> simp at h
          exact .inr ⟨by rcases hw with h | h <;> simp [h], _, rfl⟩
        · simp only [Bool.and_eq_true, decide_eq_true_eq] at h
          obtain ⟨h1, h2⟩ := h
          cases p <;> simp at h2
          exact .inr ⟨.inr (.inr h1), _, rfl⟩
  · cases h
def evenE (x0 : D) (h : List Str) (g : Int) (k : Bool) (a b : Option Slot) : Env := [some (.val x0), some (.own (h.map D.str)), some (.val (.int g)), some (.val (.bl k)), a, b]
theorem cmpOk_strs0 (ns : List Str) : cmpOk (.lst (ns.map D.str)) (.lst []) = true := cmpOk_lst0 (isPys_strs ns)
theorem last_strs {h : List Str} {y : Str} (e : h[h.length - 1]? = some y) : (h.map D.str)[(h.map D.str).length - 1]? = some (.str y) := by
  rw [List.length_map, List.getElem?_map, e]
  rfl
theorem finR_bl {r : Res Flow} {b : Bool} {st : Store} (h : finR r = some (.bl b, st)) : ∃ s, r = .ok (.rt (.bl b)) s ∧ s.st = st := by
  unfold finR at h
  split at h
  · cases h; exact ⟨_, rfl, rfl⟩
  · cases h
  · cases h
theorem even_step {C : Ctx} {x0 : D} {h : List Str} {g : Int} {k : Bool} {a b : Option Slot} {st : Store} {w : Str} {p : D} (hk : kindS w p) (hl : h.length < sizeLine) :
    ∃ s1, asgT (.tup (.cons (.name 4) (.cons (.name 5) .nil))) (.d (.tup [.str w, p])) ⟨evenE x0 h g k a b, st⟩ = some s1 ∧
      match evStep w p h g k with
      | none => finR (evSs C bo_is_even_0 s1) = some (.bl false, st)
      | some (h', g', k') => ∃ a' b', evSs C bo_is_even_0 s1 = .ok .nx ⟨evenE x0 h' g' k' a' b', st⟩ := by
  refine ⟨_, rfl, ?_⟩
  have hl' : h.length < 16777216 := by rw [sizeLine_eq] at hl; exact hl
  rcases hk with ⟨hw, i, rfl⟩ | ⟨hw, z, rfl⟩
  · rcases hw with rfl | rfl | rfl
    · have e : evStep "work" (.int i) h g k = some (h, g, true) := by simp [evStep, w_work_take, w_work_free, w_work_grow, w_work_shrink, w_work_raise, w_take_work, w_take_free, w_take_grow, w_take_shrink, w_take_raise, w_free_work, w_free_take, w_free_grow, w_free_shrink, w_free_raise, w_grow_work, w_grow_take, w_grow_free, w_grow_shrink, w_grow_raise, w_shrink_work, w_shrink_take, w_shrink_free, w_shrink_grow, w_shrink_raise, w_raise_work, w_raise_take, w_raise_free, w_raise_grow, w_raise_shrink]
      rw [e]
      refine ⟨some (.val (.str "work")), some (.val (.int i)), ?_⟩
      simp [bo_is_even_0, evenE, runFn_eq, finR_rt, finR_nx, finR_ite, ↓startE, ↓evSs, ↓evS, ↓evX, ↓evL, ↓evOs, ↓evBs, ↓evP, ↓evI, ↓asO_pk, ↓asO_var, ↓asO_con, ↓asO_glb, ↓asO_bin, ↓asO_neg, ↓asO_ife, ↓asO_tup, ↓asO_lst, ↓asO_idx, ↓asO_slc, ↓asO_rev, ↓asO_call, ↓asO_bi, ↓asO_join, ↓asO_pop, ↓asO_sset, ↓asO_cmp, ↓Res.bind, ↓asB, ↓asI, ↓asS, ↓asD, ↓Res.opt, ↓two, ↓resO, ↓S.get, ↓S.put, ↓S.put?, ↓asgT, ↓asgTs, ↓RX.dat, ↓obind_eq, ↓omap_eq, and_merge, or_merge, and_mergeB, or_mergeB, isiD, cmpD, lenD, binD, idxD, biD, nonD, atI_0, atI_1, atI_2, List.length_cons, List.length_nil, List.map_cons, List.map_nil, List.append_eq, List.cons_append, List.nil_append, List.getElem?_cons_zero, List.getElem?_cons_succ, List.getElem?_nil, List.mapM_cons, List.mapM_nil, Option.pure_def, Option.bind_eq_bind, id_eq, Bool.false_eq_true, List.foldl_cons, List.foldl_nil, ↓frzS, cmpOk_str, eqD_str, memD_str2, memD_strs, sizeLine_eq, w_work_take, w_work_free, w_work_grow, w_work_shrink, w_work_raise, w_take_work, w_take_free, w_take_grow, w_take_shrink, w_take_raise, w_free_work, w_free_take, w_free_grow, w_free_shrink, w_free_raise, w_grow_work, w_grow_take, w_grow_free, w_grow_shrink, w_grow_raise, w_shrink_work, w_shrink_take, w_shrink_free, w_shrink_grow, w_shrink_raise, w_raise_work, w_raise_take, w_raise_free, w_raise_grow, w_raise_shrink]
    · by_cases h1 : 0 ≤ g + i
      · by_cases h2 : g + i ≤ 1000
        · have e : evStep "grow" (.int i) h g k = some (h, g + i, k) := by simp [evStep, w_work_take, w_work_free, w_work_grow, w_work_shrink, w_work_raise, w_take_work, w_take_free, w_take_grow, w_take_shrink, w_take_raise, w_free_work, w_free_take, w_free_grow, w_free_shrink, w_free_raise, w_grow_work, w_grow_take, w_grow_free, w_grow_shrink, w_grow_raise, w_shrink_work, w_shrink_take, w_shrink_free, w_shrink_grow, w_shrink_raise, w_raise_work, w_raise_take, w_raise_free, w_raise_grow, w_raise_shrink, h1, h2]
          rw [e]
          refine ⟨some (.val (.str "grow")), some (.val (.int i)), ?_⟩
          simp [bo_is_even_0, evenE, runFn_eq, finR_rt, finR_nx, finR_ite, ↓startE, ↓evSs, ↓evS, ↓evX, ↓evL, ↓evOs, ↓evBs, ↓evP, ↓evI, ↓asO_pk, ↓asO_var, ↓asO_con, ↓asO_glb, ↓asO_bin, ↓asO_neg, ↓asO_ife, ↓asO_tup, ↓asO_lst, ↓asO_idx, ↓asO_slc, ↓asO_rev, ↓asO_call, ↓asO_bi, ↓asO_join, ↓asO_pop, ↓asO_sset, ↓asO_cmp, ↓Res.bind, ↓asB, ↓asI, ↓asS, ↓asD, ↓Res.opt, ↓two, ↓resO, ↓S.get, ↓S.put, ↓S.put?, ↓asgT, ↓asgTs, ↓RX.dat, ↓obind_eq, ↓omap_eq, and_merge, or_merge, and_mergeB, or_mergeB, isiD, cmpD, lenD, binD, idxD, biD, nonD, atI_0, atI_1, atI_2, List.length_cons, List.length_nil, List.map_cons, List.map_nil, List.append_eq, List.cons_append, List.nil_append, List.getElem?_cons_zero, List.getElem?_cons_succ, List.getElem?_nil, List.mapM_cons, List.mapM_nil, Option.pure_def, Option.bind_eq_bind, id_eq, Bool.false_eq_true, List.foldl_cons, List.foldl_nil, ↓frzS, cmpOk_str, eqD_str, memD_str2, memD_strs, sizeLine_eq, w_work_take, w_work_free, w_work_grow, w_work_shrink, w_work_raise, w_take_work, w_take_free, w_take_grow, w_take_shrink, w_take_raise, w_free_work, w_free_take, w_free_grow, w_free_shrink, w_free_raise, w_grow_work, w_grow_take, w_grow_free, w_grow_shrink, w_grow_raise, w_shrink_work, w_shrink_take, w_shrink_free, w_shrink_grow, w_shrink_raise, w_raise_work, w_raise_take, w_raise_free, w_raise_grow, w_raise_shrink, h1, h2]
        · have e : evStep "grow" (.int i) h g k = none := by simp [evStep, w_work_take, w_work_free, w_work_grow, w_work_shrink, w_work_raise, w_take_work, w_take_free, w_take_grow, w_take_shrink, w_take_raise, w_free_work, w_free_take, w_free_grow, w_free_shrink, w_free_raise, w_grow_work, w_grow_take, w_grow_free, w_grow_shrink, w_grow_raise, w_shrink_work, w_shrink_take, w_shrink_free, w_shrink_grow, w_shrink_raise, w_raise_work, w_raise_take, w_raise_free, w_raise_grow, w_raise_shrink, h1, h2]
          rw [e]
          simp [bo_is_even_0, evenE, runFn_eq, finR_rt, finR_nx, finR_ite, ↓startE, ↓evSs, ↓evS, ↓evX, ↓evL, ↓evOs, ↓evBs, ↓evP, ↓evI, ↓asO_pk, ↓asO_var, ↓asO_con, ↓asO_glb, ↓asO_bin, ↓asO_neg, ↓asO_ife, ↓asO_tup, ↓asO_lst, ↓asO_idx, ↓asO_slc, ↓asO_rev, ↓asO_call, ↓asO_bi, ↓asO_join, ↓asO_pop, ↓asO_sset, ↓asO_cmp, ↓Res.bind, ↓asB, ↓asI, ↓asS, ↓asD, ↓Res.opt, ↓two, ↓resO, ↓S.get, ↓S.put, ↓S.put?, ↓asgT, ↓asgTs, ↓RX.dat, ↓obind_eq, ↓omap_eq, and_merge, or_merge, and_mergeB, or_mergeB, isiD, cmpD, lenD, binD, idxD, biD, nonD, atI_0, atI_1, atI_2, List.length_cons, List.length_nil, List.map_cons, List.map_nil, List.append_eq, List.cons_append, List.nil_append, List.getElem?_cons_zero, List.getElem?_cons_succ, List.getElem?_nil, List.mapM_cons, List.mapM_nil, Option.pure_def, Option.bind_eq_bind, id_eq, Bool.false_eq_true, List.foldl_cons, List.foldl_nil, ↓frzS, cmpOk_str, eqD_str, memD_str2, memD_strs, sizeLine_eq, w_work_take, w_work_free, w_work_grow, w_work_shrink, w_work_raise, w_take_work, w_take_free, w_take_grow, w_take_shrink, w_take_raise, w_free_work, w_free_take, w_free_grow, w_free_shrink, w_free_raise, w_grow_work, w_grow_take, w_grow_free, w_grow_shrink, w_grow_raise, w_shrink_work, w_shrink_take, w_shrink_free, w_shrink_grow, w_shrink_raise, w_raise_work, w_raise_take, w_raise_free, w_raise_grow, w_raise_shrink, h1, h2]
      · have e : evStep "grow" (.int i) h g k = none := by simp [evStep, w_work_take, w_work_free, w_work_grow, w_work_shrink, w_work_raise, w_take_work, w_take_free, w_take_grow, w_take_shrink, w_take_raise, w_free_work, w_free_take, w_free_grow, w_free_shrink, w_free_raise, w_grow_work, w_grow_take, w_grow_free, w_grow_shrink, w_grow_raise, w_shrink_work, w_shrink_take, w_shrink_free, w_shrink_grow, w_shrink_raise, w_raise_work, w_raise_take, w_raise_free, w_raise_grow, w_raise_shrink, h1]
        rw [e]
        simp [bo_is_even_0, evenE, runFn_eq, finR_rt, finR_nx, finR_ite, ↓startE, ↓evSs, ↓evS, ↓evX, ↓evL, ↓evOs, ↓evBs, ↓evP, ↓evI, ↓asO_pk, ↓asO_var, ↓asO_con, ↓asO_glb, ↓asO_bin, ↓asO_neg, ↓asO_ife, ↓asO_tup, ↓asO_lst, ↓asO_idx, ↓asO_slc, ↓asO_rev, ↓asO_call, ↓asO_bi, ↓asO_join, ↓asO_pop, ↓asO_sset, ↓asO_cmp, ↓Res.bind, ↓asB, ↓asI, ↓asS, ↓asD, ↓Res.opt, ↓two, ↓resO, ↓S.get, ↓S.put, ↓S.put?, ↓asgT, ↓asgTs, ↓RX.dat, ↓obind_eq, ↓omap_eq, and_merge, or_merge, and_mergeB, or_mergeB, isiD, cmpD, lenD, binD, idxD, biD, nonD, atI_0, atI_1, atI_2, List.length_cons, List.length_nil, List.map_cons, List.map_nil, List.append_eq, List.cons_append, List.nil_append, List.getElem?_cons_zero, List.getElem?_cons_succ, List.getElem?_nil, List.mapM_cons, List.mapM_nil, Option.pure_def, Option.bind_eq_bind, id_eq, Bool.false_eq_true, List.foldl_cons, List.foldl_nil, ↓frzS, cmpOk_str, eqD_str, memD_str2, memD_strs, sizeLine_eq, w_work_take, w_work_free, w_work_grow, w_work_shrink, w_work_raise, w_take_work, w_take_free, w_take_grow, w_take_shrink, w_take_raise, w_free_work, w_free_take, w_free_grow, w_free_shrink, w_free_raise, w_grow_work, w_grow_take, w_grow_free, w_grow_shrink, w_grow_raise, w_shrink_work, w_shrink_take, w_shrink_free, w_shrink_grow, w_shrink_raise, w_raise_work, w_raise_take, w_raise_free, w_raise_grow, w_raise_shrink, h1]
    · by_cases h1 : 0 ≤ g + -i
      · by_cases h2 : g + -i ≤ 1000
        · have e : evStep "shrink" (.int i) h g k = some (h, g + -i, k) := by simp [evStep, w_work_take, w_work_free, w_work_grow, w_work_shrink, w_work_raise, w_take_work, w_take_free, w_take_grow, w_take_shrink, w_take_raise, w_free_work, w_free_take, w_free_grow, w_free_shrink, w_free_raise, w_grow_work, w_grow_take, w_grow_free, w_grow_shrink, w_grow_raise, w_shrink_work, w_shrink_take, w_shrink_free, w_shrink_grow, w_shrink_raise, w_raise_work, w_raise_take, w_raise_free, w_raise_grow, w_raise_shrink, h1, h2]
          rw [e]
          refine ⟨some (.val (.str "shrink")), some (.val (.int i)), ?_⟩
          simp [bo_is_even_0, evenE, runFn_eq, finR_rt, finR_nx, finR_ite, ↓startE, ↓evSs, ↓evS, ↓evX, ↓evL, ↓evOs, ↓evBs, ↓evP, ↓evI, ↓asO_pk, ↓asO_var, ↓asO_con, ↓asO_glb, ↓asO_bin, ↓asO_neg, ↓asO_ife, ↓asO_tup, ↓asO_lst, ↓asO_idx, ↓asO_slc, ↓asO_rev, ↓asO_call, ↓asO_bi, ↓asO_join, ↓asO_pop, ↓asO_sset, ↓asO_cmp, ↓Res.bind, ↓asB, ↓asI, ↓asS, ↓asD, ↓Res.opt, ↓two, ↓resO, ↓S.get, ↓S.put, ↓S.put?, ↓asgT, ↓asgTs, ↓RX.dat, ↓obind_eq, ↓omap_eq, and_merge, or_merge, and_mergeB, or_mergeB, isiD, cmpD, lenD, binD, idxD, biD, nonD, atI_0, atI_1, atI_2, List.length_cons, List.length_nil, List.map_cons, List.map_nil, List.append_eq, List.cons_append, List.nil_append, List.getElem?_cons_zero, List.getElem?_cons_succ, List.getElem?_nil, List.mapM_cons, List.mapM_nil, Option.pure_def, Option.bind_eq_bind, id_eq, Bool.false_eq_true, List.foldl_cons, List.foldl_nil, ↓frzS, cmpOk_str, eqD_str, memD_str2, memD_strs, sizeLine_eq, w_work_take, w_work_free, w_work_grow, w_work_shrink, w_work_raise, w_take_work, w_take_free, w_take_grow, w_take_shrink, w_take_raise, w_free_work, w_free_take, w_free_grow, w_free_shrink, w_free_raise, w_grow_work, w_grow_take, w_grow_free, w_grow_shrink, w_grow_raise, w_shrink_work, w_shrink_take, w_shrink_free, w_shrink_grow, w_shrink_raise, w_raise_work, w_raise_take, w_raise_free, w_raise_grow, w_raise_shrink, h1, h2]
        · have e : evStep "shrink" (.int i) h g k = none := by simp [evStep, w_work_take, w_work_free, w_work_grow, w_work_shrink, w_work_raise, w_take_work, w_take_free, w_take_grow, w_take_shrink, w_take_raise, w_free_work, w_free_take, w_free_grow, w_free_shrink, w_free_raise, w_grow_work, w_grow_take, w_grow_free, w_grow_shrink, w_grow_raise, w_shrink_work, w_shrink_take, w_shrink_free, w_shrink_grow, w_shrink_raise, w_raise_work, w_raise_take, w_raise_free, w_raise_grow, w_raise_shrink, h1, h2]
          rw [e]
          simp [bo_is_even_0, evenE, runFn_eq, finR_rt, finR_nx, finR_ite, ↓startE, ↓evSs, ↓evS, ↓evX, ↓evL, ↓evOs, ↓evBs, ↓evP, ↓evI, ↓asO_pk, ↓asO_var, ↓asO_con, ↓asO_glb, ↓asO_bin, ↓asO_neg, ↓asO_ife, ↓asO_tup, ↓asO_lst, ↓asO_idx, ↓asO_slc, ↓asO_rev, ↓asO_call, ↓asO_bi, ↓asO_join, ↓asO_pop, ↓asO_sset, ↓asO_cmp, ↓Res.bind, ↓asB, ↓asI, ↓asS, ↓asD, ↓Res.opt, ↓two, ↓resO, ↓S.get, ↓S.put, ↓S.put?, ↓asgT, ↓asgTs, ↓RX.dat, ↓obind_eq, ↓omap_eq, and_merge, or_merge, and_mergeB, or_mergeB, isiD, cmpD, lenD, binD, idxD, biD, nonD, atI_0, atI_1, atI_2, List.length_cons, List.length_nil, List.map_cons, List.map_nil, List.append_eq, List.cons_append, List.nil_append, List.getElem?_cons_zero, List.getElem?_cons_succ, List.getElem?_nil, List.mapM_cons, List.mapM_nil, Option.pure_def, Option.bind_eq_bind, id_eq, Bool.false_eq_true, List.foldl_cons, List.foldl_nil, ↓frzS, cmpOk_str, eqD_str, memD_str2, memD_strs, sizeLine_eq, w_work_take, w_work_free, w_work_grow, w_work_shrink, w_work_raise, w_take_work, w_take_free, w_take_grow, w_take_shrink, w_take_raise, w_free_work, w_free_take, w_free_grow, w_free_shrink, w_free_raise, w_grow_work, w_grow_take, w_grow_free, w_grow_shrink, w_grow_raise, w_shrink_work, w_shrink_take, w_shrink_free, w_shrink_grow, w_shrink_raise, w_raise_work, w_raise_take, w_raise_free, w_raise_grow, w_raise_shrink, h1, h2]
      · have e : evStep "shrink" (.int i) h g k = none := by simp [evStep, w_work_take, w_work_free, w_work_grow, w_work_shrink, w_work_raise, w_take_work, w_take_free, w_take_grow, w_take_shrink, w_take_raise, w_free_work, w_free_take, w_free_grow, w_free_shrink, w_free_raise, w_grow_work, w_grow_take, w_grow_free, w_grow_shrink, w_grow_raise, w_shrink_work, w_shrink_take, w_shrink_free, w_shrink_grow, w_shrink_raise, w_raise_work, w_raise_take, w_raise_free, w_raise_grow, w_raise_shrink, h1]
        rw [e]
        simp [bo_is_even_0, evenE, runFn_eq, finR_rt, finR_nx, finR_ite, ↓startE, ↓evSs, ↓evS, ↓evX, ↓evL, ↓evOs, ↓evBs, ↓evP, ↓evI, ↓asO_pk, ↓asO_var, ↓asO_con, ↓asO_glb, ↓asO_bin, ↓asO_neg, ↓asO_ife, ↓asO_tup, ↓asO_lst, ↓asO_idx, ↓asO_slc, ↓asO_rev, ↓asO_call, ↓asO_bi, ↓asO_join, ↓asO_pop, ↓asO_sset, ↓asO_cmp, ↓Res.bind, ↓asB, ↓asI, ↓asS, ↓asD, ↓Res.opt, ↓two, ↓resO, ↓S.get, ↓S.put, ↓S.put?, ↓asgT, ↓asgTs, ↓RX.dat, ↓obind_eq, ↓omap_eq, and_merge, or_merge, and_mergeB, or_mergeB, isiD, cmpD, lenD, binD, idxD, biD, nonD, atI_0, atI_1, atI_2, List.length_cons, List.length_nil, List.map_cons, List.map_nil, List.append_eq, List.cons_append, List.nil_append, List.getElem?_cons_zero, List.getElem?_cons_succ, List.getElem?_nil, List.mapM_cons, List.mapM_nil, Option.pure_def, Option.bind_eq_bind, id_eq, Bool.false_eq_true, List.foldl_cons, List.foldl_nil, ↓frzS, cmpOk_str, eqD_str, memD_str2, memD_strs, sizeLine_eq, w_work_take, w_work_free, w_work_grow, w_work_shrink, w_work_raise, w_take_work, w_take_free, w_take_grow, w_take_shrink, w_take_raise, w_free_work, w_free_take, w_free_grow, w_free_shrink, w_free_raise, w_grow_work, w_grow_take, w_grow_free, w_grow_shrink, w_grow_raise, w_shrink_work, w_shrink_take, w_shrink_free, w_shrink_grow, w_shrink_raise, w_raise_work, w_raise_take, w_raise_free, w_raise_grow, w_raise_shrink, h1]
  · rcases hw with rfl | rfl | rfl
    · by_cases h1 : z ∈ h
      · have e : evStep "take" (.str z) h g k = none := by simp [evStep, h1]
        rw [e]
        simp [bo_is_even_0, evenE, runFn_eq, finR_rt, finR_nx, finR_ite, ↓startE, ↓evSs, ↓evS, ↓evX, ↓evL, ↓evOs, ↓evBs, ↓evP, ↓evI, ↓asO_pk, ↓asO_var, ↓asO_con, ↓asO_glb, ↓asO_bin, ↓asO_neg, ↓asO_ife, ↓asO_tup, ↓asO_lst, ↓asO_idx, ↓asO_slc, ↓asO_rev, ↓asO_call, ↓asO_bi, ↓asO_join, ↓asO_pop, ↓asO_sset, ↓asO_cmp, ↓Res.bind, ↓asB, ↓asI, ↓asS, ↓asD, ↓Res.opt, ↓two, ↓resO, ↓S.get, ↓S.put, ↓S.put?, ↓asgT, ↓asgTs, ↓RX.dat, ↓obind_eq, ↓omap_eq, and_merge, or_merge, and_mergeB, or_mergeB, isiD, cmpD, lenD, binD, idxD, biD, nonD, atI_0, atI_1, atI_2, List.length_cons, List.length_nil, List.map_cons, List.map_nil, List.append_eq, List.cons_append, List.nil_append, List.getElem?_cons_zero, List.getElem?_cons_succ, List.getElem?_nil, List.mapM_cons, List.mapM_nil, Option.pure_def, Option.bind_eq_bind, id_eq, Bool.false_eq_true, List.foldl_cons, List.foldl_nil, ↓frzS, cmpOk_str, eqD_str, memD_str2, memD_strs, sizeLine_eq, w_work_take, w_work_free, w_work_grow, w_work_shrink, w_work_raise, w_take_work, w_take_free, w_take_grow, w_take_shrink, w_take_raise, w_free_work, w_free_take, w_free_grow, w_free_shrink, w_free_raise, w_grow_work, w_grow_take, w_grow_free, w_grow_shrink, w_grow_raise, w_shrink_work, w_shrink_take, w_shrink_free, w_shrink_grow, w_shrink_raise, w_raise_work, w_raise_take, w_raise_free, w_raise_grow, w_raise_shrink, h1]
      · have e : evStep "take" (.str z) h g k = some (h ++ [z], g, k) := by simp [evStep, h1]
        rw [e]
        refine ⟨some (.val (.str "take")), some (.val (.str z)), ?_⟩
        simp [bo_is_even_0, evenE, runFn_eq, finR_rt, finR_nx, finR_ite, ↓startE, ↓evSs, ↓evS, ↓evX, ↓evL, ↓evOs, ↓evBs, ↓evP, ↓evI, ↓asO_pk, ↓asO_var, ↓asO_con, ↓asO_glb, ↓asO_bin, ↓asO_neg, ↓asO_ife, ↓asO_tup, ↓asO_lst, ↓asO_idx, ↓asO_slc, ↓asO_rev, ↓asO_call, ↓asO_bi, ↓asO_join, ↓asO_pop, ↓asO_sset, ↓asO_cmp, ↓Res.bind, ↓asB, ↓asI, ↓asS, ↓asD, ↓Res.opt, ↓two, ↓resO, ↓S.get, ↓S.put, ↓S.put?, ↓asgT, ↓asgTs, ↓RX.dat, ↓obind_eq, ↓omap_eq, and_merge, or_merge, and_mergeB, or_mergeB, isiD, cmpD, lenD, binD, idxD, biD, nonD, atI_0, atI_1, atI_2, List.length_cons, List.length_nil, List.map_cons, List.map_nil, List.append_eq, List.cons_append, List.nil_append, List.getElem?_cons_zero, List.getElem?_cons_succ, List.getElem?_nil, List.mapM_cons, List.mapM_nil, Option.pure_def, Option.bind_eq_bind, id_eq, Bool.false_eq_true, List.foldl_cons, List.foldl_nil, ↓frzS, cmpOk_str, eqD_str, memD_str2, memD_strs, sizeLine_eq, w_work_take, w_work_free, w_work_grow, w_work_shrink, w_work_raise, w_take_work, w_take_free, w_take_grow, w_take_shrink, w_take_raise, w_free_work, w_free_take, w_free_grow, w_free_shrink, w_free_raise, w_grow_work, w_grow_take, w_grow_free, w_grow_shrink, w_grow_raise, w_shrink_work, w_shrink_take, w_shrink_free, w_shrink_grow, w_shrink_raise, w_raise_work, w_raise_take, w_raise_free, w_raise_grow, w_raise_shrink, h1, lstSlot, hl']
    · cases e0 : h[h.length - 1]? with
      | none =>
        have e : evStep "free" (.str z) h g k = none := by simp [evStep, w_work_take, w_work_free, w_work_grow, w_work_shrink, w_work_raise, w_take_work, w_take_free, w_take_grow, w_take_shrink, w_take_raise, w_free_work, w_free_take, w_free_grow, w_free_shrink, w_free_raise, w_grow_work, w_grow_take, w_grow_free, w_grow_shrink, w_grow_raise, w_shrink_work, w_shrink_take, w_shrink_free, w_shrink_grow, w_shrink_raise, w_raise_work, w_raise_take, w_raise_free, w_raise_grow, w_raise_shrink, e0]
        rw [e]
        have hh : h = [] := by
          rw [List.getElem?_eq_none_iff] at e0
          cases h with
          | nil => rfl
          | cons x r =>
            simp at e0
            omega
        subst hh
        have h00 : cmpOk (.lst []) (.lst []) = true := cmpOk_strs0 []
        simp [h00, bo_is_even_0, evenE, runFn_eq, finR_rt, finR_nx, finR_ite, ↓startE, ↓evSs, ↓evS, ↓evX, ↓evL, ↓evOs, ↓evBs, ↓evP, ↓evI, ↓asO_pk, ↓asO_var, ↓asO_con, ↓asO_glb, ↓asO_bin, ↓asO_neg, ↓asO_ife, ↓asO_tup, ↓asO_lst, ↓asO_idx, ↓asO_slc, ↓asO_rev, ↓asO_call, ↓asO_bi, ↓asO_join, ↓asO_pop, ↓asO_sset, ↓asO_cmp, ↓Res.bind, ↓asB, ↓asI, ↓asS, ↓asD, ↓Res.opt, ↓two, ↓resO, ↓S.get, ↓S.put, ↓S.put?, ↓asgT, ↓asgTs, ↓RX.dat, ↓obind_eq, ↓omap_eq, and_merge, or_merge, and_mergeB, or_mergeB, isiD, cmpD, lenD, binD, idxD, biD, nonD, atI_0, atI_1, atI_2, List.length_cons, List.length_nil, List.map_cons, List.map_nil, List.append_eq, List.cons_append, List.nil_append, List.getElem?_cons_zero, List.getElem?_cons_succ, List.getElem?_nil, List.mapM_cons, List.mapM_nil, Option.pure_def, Option.bind_eq_bind, id_eq, Bool.false_eq_true, List.foldl_cons, List.foldl_nil, ↓frzS, cmpOk_str, eqD_str, memD_str2, memD_strs, sizeLine_eq, w_work_take, w_work_free, w_work_grow, w_work_shrink, w_work_raise, w_take_work, w_take_free, w_take_grow, w_take_shrink, w_take_raise, w_free_work, w_free_take, w_free_grow, w_free_shrink, w_free_raise, w_grow_work, w_grow_take, w_grow_free, w_grow_shrink, w_grow_raise, w_shrink_work, w_shrink_take, w_shrink_free, w_shrink_grow, w_shrink_raise, w_raise_work, w_raise_take, w_raise_free, w_raise_grow, w_raise_shrink, cmpOk_lst0, eqD_lst0, isPys]
      | some y =>
        have hne : h.isEmpty = false := by
          cases h with
          | nil => simp at e0
          | cons x r => rfl
        have h0 := cmpOk_strs0 h
        have h3 := last_strs e0
        by_cases h1 : y = z
        · subst h1
          have e : evStep "free" (.str y) h g k = some (h.dropLast, g, k) := by simp [evStep, w_work_take, w_work_free, w_work_grow, w_work_shrink, w_work_raise, w_take_work, w_take_free, w_take_grow, w_take_shrink, w_take_raise, w_free_work, w_free_take, w_free_grow, w_free_shrink, w_free_raise, w_grow_work, w_grow_take, w_grow_free, w_grow_shrink, w_grow_raise, w_shrink_work, w_shrink_take, w_shrink_free, w_shrink_grow, w_shrink_raise, w_raise_work, w_raise_take, w_raise_free, w_raise_grow, w_raise_shrink, e0]
          rw [e]
          refine ⟨some (.val (.str "free")), some (.val (.str y)), ?_⟩
          simp [bo_is_even_0, evenE, runFn_eq, finR_rt, finR_nx, finR_ite, ↓startE, ↓evSs, ↓evS, ↓evX, ↓evL, ↓evOs, ↓evBs, ↓evP, ↓evI, ↓asO_pk, ↓asO_var, ↓asO_con, ↓asO_glb, ↓asO_bin, ↓asO_neg, ↓asO_ife, ↓asO_tup, ↓asO_lst, ↓asO_idx, ↓asO_slc, ↓asO_rev, ↓asO_call, ↓asO_bi, ↓asO_join, ↓asO_pop, ↓asO_sset, ↓asO_cmp, ↓Res.bind, ↓asB, ↓asI, ↓asS, ↓asD, ↓Res.opt, ↓two, ↓resO, ↓S.get, ↓S.put, ↓S.put?, ↓asgT, ↓asgTs, ↓RX.dat, ↓obind_eq, ↓omap_eq, and_merge, or_merge, and_mergeB, or_mergeB, isiD, cmpD, lenD, binD, idxD, biD, nonD, atI_0, atI_1, atI_2, List.length_cons, List.length_nil, List.map_cons, List.map_nil, List.append_eq, List.cons_append, List.nil_append, List.getElem?_cons_zero, List.getElem?_cons_succ, List.getElem?_nil, List.mapM_cons, List.mapM_nil, Option.pure_def, Option.bind_eq_bind, id_eq, Bool.false_eq_true, List.foldl_cons, List.foldl_nil, ↓frzS, cmpOk_str, eqD_str, memD_str2, memD_strs, sizeLine_eq, w_work_take, w_work_free, w_work_grow, w_work_shrink, w_work_raise, w_take_work, w_take_free, w_take_grow, w_take_shrink, w_take_raise, w_free_work, w_free_take, w_free_grow, w_free_shrink, w_free_raise, w_grow_work, w_grow_take, w_grow_free, w_grow_shrink, w_grow_raise, w_shrink_work, w_shrink_take, w_shrink_free, w_shrink_grow, w_shrink_raise, w_raise_work, w_raise_take, w_raise_free, w_raise_grow, w_raise_shrink, h0, eqD_lst0, hne, h3, e0]
        · have e : evStep "free" (.str z) h g k = none := by simp [evStep, w_work_take, w_work_free, w_work_grow, w_work_shrink, w_work_raise, w_take_work, w_take_free, w_take_grow, w_take_shrink, w_take_raise, w_free_work, w_free_take, w_free_grow, w_free_shrink, w_free_raise, w_grow_work, w_grow_take, w_grow_free, w_grow_shrink, w_grow_raise, w_shrink_work, w_shrink_take, w_shrink_free, w_shrink_grow, w_shrink_raise, w_raise_work, w_raise_take, w_raise_free, w_raise_grow, w_raise_shrink, e0, h1]
          rw [e]
          simp [bo_is_even_0, evenE, runFn_eq, finR_rt, finR_nx, finR_ite, ↓startE, ↓evSs, ↓evS, ↓evX, ↓evL, ↓evOs, ↓evBs, ↓evP, ↓evI, ↓asO_pk, ↓asO_var, ↓asO_con, ↓asO_glb, ↓asO_bin, ↓asO_neg, ↓asO_ife, ↓asO_tup, ↓asO_lst, ↓asO_idx, ↓asO_slc, ↓asO_rev, ↓asO_call, ↓asO_bi, ↓asO_join, ↓asO_pop, ↓asO_sset, ↓asO_cmp, ↓Res.bind, ↓asB, ↓asI, ↓asS, ↓asD, ↓Res.opt, ↓two, ↓resO, ↓S.get, ↓S.put, ↓S.put?, ↓asgT, ↓asgTs, ↓RX.dat, ↓obind_eq, ↓omap_eq, and_merge, or_merge, and_mergeB, or_mergeB, isiD, cmpD, lenD, binD, idxD, biD, nonD, atI_0, atI_1, atI_2, List.length_cons, List.length_nil, List.map_cons, List.map_nil, List.append_eq, List.cons_append, List.nil_append, List.getElem?_cons_zero, List.getElem?_cons_succ, List.getElem?_nil, List.mapM_cons, List.mapM_nil, Option.pure_def, Option.bind_eq_bind, id_eq, Bool.false_eq_true, List.foldl_cons, List.foldl_nil, ↓frzS, cmpOk_str, eqD_str, memD_str2, memD_strs, sizeLine_eq, w_work_take, w_work_free, w_work_grow, w_work_shrink, w_work_raise, w_take_work, w_take_free, w_take_grow, w_take_shrink, w_take_raise, w_free_work, w_free_take, w_free_grow, w_free_shrink, w_free_raise, w_grow_work, w_grow_take, w_grow_free, w_grow_shrink, w_grow_raise, w_shrink_work, w_shrink_take, w_shrink_free, w_shrink_grow, w_shrink_raise, w_raise_work, w_raise_take, w_raise_free, w_raise_grow, w_raise_shrink, h0, eqD_lst0, hne, h3, e0, h1]
    · have e : evStep "raise" (.str z) h g k = some (h, g, k) := by simp [evStep, w_work_take, w_work_free, w_work_grow, w_work_shrink, w_work_raise, w_take_work, w_take_free, w_take_grow, w_take_shrink, w_take_raise, w_free_work, w_free_take, w_free_grow, w_free_shrink, w_free_raise, w_grow_work, w_grow_take, w_grow_free, w_grow_shrink, w_grow_raise, w_shrink_work, w_shrink_take, w_shrink_free, w_shrink_grow, w_shrink_raise, w_raise_work, w_raise_take, w_raise_free, w_raise_grow, w_raise_shrink]
      rw [e]
      refine ⟨some (.val (.str "raise")), some (.val (.str z)), ?_⟩
      simp [bo_is_even_0, evenE, runFn_eq, finR_rt, finR_nx, finR_ite, ↓startE, ↓evSs, ↓evS, ↓evX, ↓evL, ↓evOs, ↓evBs, ↓evP, ↓evI, ↓asO_pk, ↓asO_var, ↓asO_con, ↓asO_glb, ↓asO_bin, ↓asO_neg, ↓asO_ife, ↓asO_tup, ↓asO_lst, ↓asO_idx, ↓asO_slc, ↓asO_rev, ↓asO_call, ↓asO_bi, ↓asO_join, ↓asO_pop, ↓asO_sset, ↓asO_cmp, ↓Res.bind, ↓asB, ↓asI, ↓asS, ↓asD, ↓Res.opt, ↓two, ↓resO, ↓S.get, ↓S.put, ↓S.put?, ↓asgT, ↓asgTs, ↓RX.dat, ↓obind_eq, ↓omap_eq, and_merge, or_merge, and_mergeB, or_mergeB, isiD, cmpD, lenD, binD, idxD, biD, nonD, atI_0, atI_1, atI_2, List.length_cons, List.length_nil, List.map_cons, List.map_nil, List.append_eq, List.cons_append, List.nil_append, List.getElem?_cons_zero, List.getElem?_cons_succ, List.getElem?_nil, List.mapM_cons, List.mapM_nil, Option.pure_def, Option.bind_eq_bind, id_eq, Bool.false_eq_true, List.foldl_cons, List.foldl_nil, ↓frzS, cmpOk_str, eqD_str, memD_str2, memD_strs, sizeLine_eq, w_work_take, w_work_free, w_work_grow, w_work_shrink, w_work_raise, w_take_work, w_take_free, w_take_grow, w_take_shrink, w_take_raise, w_free_work, w_free_take, w_free_grow, w_free_shrink, w_free_raise, w_grow_work, w_grow_take, w_grow_free, w_grow_shrink, w_grow_raise, w_shrink_work, w_shrink_take, w_shrink_free, w_shrink_grow, w_shrink_raise, w_raise_work, w_raise_take, w_raise_free, w_raise_grow, w_raise_shrink]
/-- all steps, what is held, grown, worked at first -/
def evenGo : List D → List Str → Int → Bool → Option (List Str × Int × Bool)
  | .tup [.str w, p] :: r, h, g, k => match evStep w p h g k with
    | none => none
    | some (h', g', k') => evenGo r h' g' k'
  | _ :: _, _, _, _ => none
  | [], h, g, k => some (h, g, k)
def evenD (xs : List D) : Bool := match evenGo xs [] 0 false with
  | some (h, g, k) => h.isEmpty && decide (g = 0) && k
  | none => false
def kindD (x : D) : Prop := ∃ w p, x = .tup [.str w, p] ∧ kindS w p
theorem evStep_len {w : Str} {p : D} {h h' : List Str} {g g' : Int} {k k' : Bool} (e : evStep w p h g k = some (h', g', k')) : h'.length ≤ h.length + 1 := by
  unfold evStep at e
  repeat' split at e
  all_goals first | cases e | skip
  all_goals first | (simp; done) | (simp; omega)
theorem even_loop {C : Ctx} {x0 : D} {st : Store} : ∀ (xs : List D) (h : List Str) (g : Int) (k : Bool) (a b : Option Slot), (∀ x ∈ xs, kindD x) → h.length + xs.length < sizeLine →
    match evenGo xs h g k with
    | none => finR (forL (evSs C bo_is_even_0) (fun x s => asgT (.tup (.cons (.name 4) (.cons (.name 5) .nil))) (.d x) s) xs ⟨evenE x0 h g k a b, st⟩) = some (.bl false, st)
    | some (h', g', k') => ∃ a' b', forL (evSs C bo_is_even_0) (fun x s => asgT (.tup (.cons (.name 4) (.cons (.name 5) .nil))) (.d x) s) xs ⟨evenE x0 h g k a b, st⟩ = .ok .nx ⟨evenE x0 h' g' k' a' b', st⟩
  | [], h, g, k, a, b, _, _ => ⟨a, b, rfl⟩
  | x :: r, h, g, k, a, b, hx, hl => by
    obtain ⟨w, p, rfl, hk⟩ := hx x (by simp)
    simp only [List.length_cons] at hl
    obtain ⟨s1, e1, e2⟩ := even_step (C := C) (x0 := x0) (h := h) (g := g) (k := k) (a := a) (b := b) (st := st) hk (by omega)
    unfold evenGo forL
    simp only [e1, opt_some, bind_ok]
    cases e : evStep w p h g k with
    | none =>
      rw [e] at e2
      obtain ⟨s2, q1, q2⟩ := finR_bl e2
      simp only [q1, bind_ok, finR_rt, q2]
    | some v =>
      obtain ⟨h', g', k'⟩ := v
      rw [e] at e2
      obtain ⟨a', b', q⟩ := e2
      simp only [q, bind_ok]
      exact even_loop r h' g' k' a' b' (fun y hy => hx y (by simp [hy])) (by have := evStep_len e; omega)
theorem is_even_ok {C : Ctx} {xs : List D} {st : Store} (hx : ∀ x ∈ xs, kindD x) (hl : xs.length < sizeLine) : runFn C fn_is_even [.tup xs] st = some (.bl (evenD xs), st) := by
  have q := even_loop (C := C) (x0 := .tup xs) (st := st) xs [] 0 false none none hx (by simpa using hl)
  have hf : evS C fo_is_even_0 ⟨evenE (.tup xs) [] 0 false none none, st⟩ = forL (evSs C bo_is_even_0) (fun x s => asgT (.tup (.cons (.name 4) (.cons (.name 5) .nil))) (.d x) s) xs ⟨evenE (.tup xs) [] 0 false none none, st⟩ := by
    exact ev_for (by simp [runFn_eq, finR_rt, finR_nx, finR_ite, ↓startE, ↓evSs, ↓evS, ↓evX, ↓evL, ↓evOs, ↓evBs, ↓evP, ↓evI, ↓asO_pk, ↓asO_var, ↓asO_con, ↓asO_glb, ↓asO_bin, ↓asO_neg, ↓asO_ife, ↓asO_tup, ↓asO_lst, ↓asO_idx, ↓asO_slc, ↓asO_rev, ↓asO_call, ↓asO_bi, ↓asO_join, ↓asO_pop, ↓asO_sset, ↓asO_cmp, ↓Res.bind, ↓asB, ↓asI, ↓asS, ↓asD, ↓Res.opt, ↓two, ↓resO, ↓S.get, ↓S.put, ↓S.put?, ↓asgT, ↓asgTs, ↓RX.dat, ↓obind_eq, ↓omap_eq, and_merge, or_merge, and_mergeB, or_mergeB, isiD, cmpD, lenD, binD, idxD, biD, nonD, atI_0, atI_1, atI_2, List.length_cons, List.length_nil, List.map_cons, List.map_nil, List.append_eq, List.cons_append, List.nil_append, List.getElem?_cons_zero, List.getElem?_cons_succ, List.getElem?_nil, List.mapM_cons, List.mapM_nil, Option.pure_def, Option.bind_eq_bind, id_eq, Bool.false_eq_true, List.foldl_cons, List.foldl_nil, ↓frzS, evenE, seqD])
  cases e : evenGo xs [] 0 false with
  | none =>
    rw [e] at q
    obtain ⟨s2, q1, q2⟩ := finR_bl q
    rw [← hf] at q1
    simp only [evenE, List.map_nil] at q1
    simp [fn_is_even, runFn_eq, finR_rt, finR_nx, finR_ite, ↓startE, ↓evSs, ↓evS, ↓evX, ↓evL, ↓evOs, ↓evBs, ↓evP, ↓evI, ↓asO_pk, ↓asO_var, ↓asO_con, ↓asO_glb, ↓asO_bin, ↓asO_neg, ↓asO_ife, ↓asO_tup, ↓asO_lst, ↓asO_idx, ↓asO_slc, ↓asO_rev, ↓asO_call, ↓asO_bi, ↓asO_join, ↓asO_pop, ↓asO_sset, ↓asO_cmp, ↓Res.bind, ↓asB, ↓asI, ↓asS, ↓asD, ↓Res.opt, ↓two, ↓resO, ↓S.get, ↓S.put, ↓S.put?, ↓asgT, ↓asgTs, ↓RX.dat, ↓obind_eq, ↓omap_eq, and_merge, or_merge, and_mergeB, or_mergeB, isiD, cmpD, lenD, binD, idxD, biD, nonD, atI_0, atI_1, atI_2, List.length_cons, List.length_nil, List.map_cons, List.map_nil, List.append_eq, List.cons_append, List.nil_append, List.getElem?_cons_zero, List.getElem?_cons_succ, List.getElem?_nil, List.mapM_cons, List.mapM_nil, Option.pure_def, Option.bind_eq_bind, id_eq, Bool.false_eq_true, List.foldl_cons, List.foldl_nil, ↓frzS, evenD, e, q1, q2, sizeLine_eq]
  | some v =>
    obtain ⟨h, g, k⟩ := v
    rw [e] at q
    obtain ⟨a, b, q1⟩ := q
    rw [← hf] at q1
    simp only [evenE, List.map_nil] at q1
    have h0 := cmpOk_strs0 h
    simp [fn_is_even, runFn_eq, finR_rt, finR_nx, finR_ite, ↓startE, ↓evSs, ↓evS, ↓evX, ↓evL, ↓evOs, ↓evBs, ↓evP, ↓evI, ↓asO_pk, ↓asO_var, ↓asO_con, ↓asO_glb, ↓asO_bin, ↓asO_neg, ↓asO_ife, ↓asO_tup, ↓asO_lst, ↓asO_idx, ↓asO_slc, ↓asO_rev, ↓asO_call, ↓asO_bi, ↓asO_join, ↓asO_pop, ↓asO_sset, ↓asO_cmp, ↓Res.bind, ↓asB, ↓asI, ↓asS, ↓asD, ↓Res.opt, ↓two, ↓resO, ↓S.get, ↓S.put, ↓S.put?, ↓asgT, ↓asgTs, ↓RX.dat, ↓obind_eq, ↓omap_eq, and_merge, or_merge, and_mergeB, or_mergeB, isiD, cmpD, lenD, binD, idxD, biD, nonD, atI_0, atI_1, atI_2, List.length_cons, List.length_nil, List.map_cons, List.map_nil, List.append_eq, List.cons_append, List.nil_append, List.getElem?_cons_zero, List.getElem?_cons_succ, List.getElem?_nil, List.mapM_cons, List.mapM_nil, Option.pure_def, Option.bind_eq_bind, id_eq, Bool.false_eq_true, List.foldl_cons, List.foldl_nil, ↓frzS, evenD, e, q1, sizeLine_eq, h0, eqD_lst0, cmpOk_int, eqD_int]
    cases h <;> simp [Bool.and_assoc]
end DE
end

section
set_option Elab.async false
set_option linter.all false
set_option maxRecDepth 100000
set_option maxHeartbeats 2000000
namespace DE
open PySem L2
/-! tasks, locks, kernels -/
mutual
def fitD : D → Bool
  | .non => true
  | .bl _ => true
  | .int _ => true
  | .str z => decide (z.length ≤ sizeLine)
  | .tup xs => fitDs xs
  | .lst xs => fitDs xs
  | .dic _ => false
  | .loc _ => false
  | .scr _ => false
def fitDs : List D → Bool
  | [] => true
  | x :: xs => fitD x && fitDs xs
end
mutual
theorem fit_py : ∀ {x : D}, fitD x = true → isPy x = true
  | .non, _ => rfl
  | .bl _, _ => rfl
  | .int _, _ => rfl
  | .str _, _ => rfl
  | .tup xs, h => by simp only [fitD] at h; simp only [isPy]; exact fits_py h
  | .lst xs, h => by simp only [fitD] at h; simp only [isPy]; exact fits_py h
  | .dic _, h => by cases h
  | .loc _, h => by cases h
  | .scr _, h => by cases h
theorem fits_py : ∀ {xs : List D}, fitDs xs = true → isPys xs = true
  | [], _ => rfl
  | x :: xs, h => by
    simp only [fitDs, Bool.and_eq_true] at h
    simp only [isPys, Bool.and_eq_true]
    exact ⟨fit_py h.1, fits_py h.2⟩
end
theorem fits_mem : ∀ {xs : List D}, fitDs xs = true → ∀ x ∈ xs, fitD x = true
  | [], _, x, h => by cases h
  | y :: r, h, x, hx => by
    simp only [fitDs, Bool.and_eq_true] at h
    rcases List.mem_cons.mp hx with rfl | hx
    · exact h.1
    · exact fits_mem h.2 x hx
theorem fits_of : ∀ {xs : List D}, (∀ x ∈ xs, fitD x = true) → fitDs xs = true
  | [], _ => rfl
  | y :: r, h => by
    simp only [fitDs, Bool.and_eq_true]
    exact ⟨h y (by simp), fits_of fun x hx => h x (by simp [hx])⟩
def HN (C : Ctx) (i : Nat) : Prop := ∀ (x : D) (st : Store), fitD x = true → C.call i [x] st = some (.bl (isNameD x), st)
theorem is_name_fit {C : Ctx} {x : D} {st : Store} (h : fitD x = true) : runFn C fn_is_name [x] st = some (.bl (isNameD x), st) :=
  is_name_ok (fit_py h) fun z e => by subst e; simpa [fitD] using h
def isLockD (x : D) : Bool := match x with
  | .tup [n, c] => isNameD n && withinD c 0 9
  | _ => false
theorem is_lock_ok {C : Ctx} {i_n i_w : Nat} {x : D} {st : Store} (hn : HN C i_n) (hw : HW C i_w) (h : fitD x = true) : runFn C (fn_is_lock i_n i_w) [x] st = some (.bl (isLockD x), st) := by
  cases x with
  | tup xs =>
    simp only [fitD] at h
    match xs, h with
    | [], _ => simp [fn_is_lock, runFn_eq, finR_rt, finR_nx, finR_ite, ↓startE, ↓evSs, ↓evS, ↓evX, ↓evL, ↓evOs, ↓evBs, ↓evP, ↓evI, ↓asO_pk, ↓asO_var, ↓asO_con, ↓asO_glb, ↓asO_bin, ↓asO_neg, ↓asO_ife, ↓asO_tup, ↓asO_lst, ↓asO_idx, ↓asO_slc, ↓asO_rev, ↓asO_call, ↓asO_bi, ↓asO_join, ↓asO_pop, ↓asO_sset, ↓asO_cmp, ↓Res.bind, ↓asB, ↓asI, ↓asS, ↓asD, ↓Res.opt, ↓two, ↓resO, ↓S.get, ↓S.put, ↓S.put?, ↓asgT, ↓asgTs, ↓RX.dat, ↓obind_eq, ↓omap_eq, and_merge, or_merge, and_mergeB, or_mergeB, isiD, cmpD, lenD, binD, idxD, biD, nonD, atI_0, atI_1, atI_2, List.length_cons, List.length_nil, List.map_cons, List.map_nil, List.append_eq, List.cons_append, List.nil_append, List.getElem?_cons_zero, List.getElem?_cons_succ, List.getElem?_nil, List.mapM_cons, List.mapM_nil, Option.pure_def, Option.bind_eq_bind, id_eq, Bool.false_eq_true, List.foldl_cons, List.foldl_nil, ↓frzS, cmpOk_int, eqD_int, isLockD]
    | [a], _ => simp [fn_is_lock, runFn_eq, finR_rt, finR_nx, finR_ite, ↓startE, ↓evSs, ↓evS, ↓evX, ↓evL, ↓evOs, ↓evBs, ↓evP, ↓evI, ↓asO_pk, ↓asO_var, ↓asO_con, ↓asO_glb, ↓asO_bin, ↓asO_neg, ↓asO_ife, ↓asO_tup, ↓asO_lst, ↓asO_idx, ↓asO_slc, ↓asO_rev, ↓asO_call, ↓asO_bi, ↓asO_join, ↓asO_pop, ↓asO_sset, ↓asO_cmp, ↓Res.bind, ↓asB, ↓asI, ↓asS, ↓asD, ↓Res.opt, ↓two, ↓resO, ↓S.get, ↓S.put, ↓S.put?, ↓asgT, ↓asgTs, ↓RX.dat, ↓obind_eq, ↓omap_eq, and_merge, or_merge, and_mergeB, or_mergeB, isiD, cmpD, lenD, binD, idxD, biD, nonD, atI_0, atI_1, atI_2, List.length_cons, List.length_nil, List.map_cons, List.map_nil, List.append_eq, List.cons_append, List.nil_append, List.getElem?_cons_zero, List.getElem?_cons_succ, List.getElem?_nil, List.mapM_cons, List.mapM_nil, Option.pure_def, Option.bind_eq_bind, id_eq, Bool.false_eq_true, List.foldl_cons, List.foldl_nil, ↓frzS, cmpOk_int, eqD_int, isLockD]
    | a :: b :: c :: r, _ =>
      have : ¬ ((r.length : Int) + 1 + 1 + 1 = 2) := by omega
      simp [fn_is_lock, runFn_eq, finR_rt, finR_nx, finR_ite, ↓startE, ↓evSs, ↓evS, ↓evX, ↓evL, ↓evOs, ↓evBs, ↓evP, ↓evI, ↓asO_pk, ↓asO_var, ↓asO_con, ↓asO_glb, ↓asO_bin, ↓asO_neg, ↓asO_ife, ↓asO_tup, ↓asO_lst, ↓asO_idx, ↓asO_slc, ↓asO_rev, ↓asO_call, ↓asO_bi, ↓asO_join, ↓asO_pop, ↓asO_sset, ↓asO_cmp, ↓Res.bind, ↓asB, ↓asI, ↓asS, ↓asD, ↓Res.opt, ↓two, ↓resO, ↓S.get, ↓S.put, ↓S.put?, ↓asgT, ↓asgTs, ↓RX.dat, ↓obind_eq, ↓omap_eq, and_merge, or_merge, and_mergeB, or_mergeB, isiD, cmpD, lenD, binD, idxD, biD, nonD, atI_0, atI_1, atI_2, List.length_cons, List.length_nil, List.map_cons, List.map_nil, List.append_eq, List.cons_append, List.nil_append, List.getElem?_cons_zero, List.getElem?_cons_succ, List.getElem?_nil, List.mapM_cons, List.mapM_nil, Option.pure_def, Option.bind_eq_bind, id_eq, Bool.false_eq_true, List.foldl_cons, List.foldl_nil, ↓frzS, cmpOk_int, eqD_int, isLockD, this]
    | [a, b], h =>
      have h1 := fun st => hn a st (fits_mem h a (by simp))
      have h2 := fun lo hi st => hw b lo hi st (fit_py (fits_mem h b (by simp)))
      simp [fn_is_lock, runFn_eq, finR_rt, finR_nx, finR_ite, ↓startE, ↓evSs, ↓evS, ↓evX, ↓evL, ↓evOs, ↓evBs, ↓evP, ↓evI, ↓asO_pk, ↓asO_var, ↓asO_con, ↓asO_glb, ↓asO_bin, ↓asO_neg, ↓asO_ife, ↓asO_tup, ↓asO_lst, ↓asO_idx, ↓asO_slc, ↓asO_rev, ↓asO_call, ↓asO_bi, ↓asO_join, ↓asO_pop, ↓asO_sset, ↓asO_cmp, ↓Res.bind, ↓asB, ↓asI, ↓asS, ↓asD, ↓Res.opt, ↓two, ↓resO, ↓S.get, ↓S.put, ↓S.put?, ↓asgT, ↓asgTs, ↓RX.dat, ↓obind_eq, ↓omap_eq, and_merge, or_merge, and_mergeB, or_mergeB, isiD, cmpD, lenD, binD, idxD, biD, nonD, atI_0, atI_1, atI_2, List.length_cons, List.length_nil, List.map_cons, List.map_nil, List.append_eq, List.cons_append, List.nil_append, List.getElem?_cons_zero, List.getElem?_cons_succ, List.getElem?_nil, List.mapM_cons, List.mapM_nil, Option.pure_def, Option.bind_eq_bind, id_eq, Bool.false_eq_true, List.foldl_cons, List.foldl_nil, ↓frzS, cmpOk_int, eqD_int, isLockD, h1, h2]
  | _ => simp [fn_is_lock, runFn_eq, finR_rt, finR_nx, finR_ite, ↓startE, ↓evSs, ↓evS, ↓evX, ↓evL, ↓evOs, ↓evBs, ↓evP, ↓evI, ↓asO_pk, ↓asO_var, ↓asO_con, ↓asO_glb, ↓asO_bin, ↓asO_neg, ↓asO_ife, ↓asO_tup, ↓asO_lst, ↓asO_idx, ↓asO_slc, ↓asO_rev, ↓asO_call, ↓asO_bi, ↓asO_join, ↓asO_pop, ↓asO_sset, ↓asO_cmp, ↓Res.bind, ↓asB, ↓asI, ↓asS, ↓asD, ↓Res.opt, ↓two, ↓resO, ↓S.get, ↓S.put, ↓S.put?, ↓asgT, ↓asgTs, ↓RX.dat, ↓obind_eq, ↓omap_eq, and_merge, or_merge, and_mergeB, or_mergeB, isiD, cmpD, lenD, binD, idxD, biD, nonD, atI_0, atI_1, atI_2, List.length_cons, List.length_nil, List.map_cons, List.map_nil, List.append_eq, List.cons_append, List.nil_append, List.getElem?_cons_zero, List.getElem?_cons_succ, List.getElem?_nil, List.mapM_cons, List.mapM_nil, Option.pure_def, Option.bind_eq_bind, id_eq, Bool.false_eq_true, List.foldl_cons, List.foldl_nil, ↓frzS, isLockD, fitD] at h ⊢
def isTaskD (x : D) (ns ls : List Str) : Bool := match x with
  | .tup [n, l, r, g, .tup code] => isNameD n && (withinD l 1 9 && (withinD r 0 1000 && (withinD g 0 1000 && (decide (code.length ≤ 12) && (code.all (fun s => isStepD s ns ls) && evenD code)))))
  | _ => false
def HS (C : Ctx) (i : Nat) : Prop := ∀ (x : D) (ns ls : List Str) (st : Store), fitD x = true → C.call i [x, .lst (ns.map D.str), .lst (ls.map D.str)] st = some (.bl (isStepD x ns ls), st)
def HE (C : Ctx) (i : Nat) : Prop := ∀ (xs : List D) (st : Store), (∀ x ∈ xs, kindD x) → xs.length < sizeLine → C.call i [.tup xs] st = some (.bl (evenD xs), st)
theorem blsD_all (p : D → Bool) (xs : List D) : blsD (xs.map fun x => D.bl (p x)) = some (xs.map p) := by
  have := blsD_map (xs.map p)
  rwa [List.map_map] at this
theorem is_task_ok {C : Ctx} {i_n i_w i_s i_e : Nat} {x : D} {ns ls : List Str} {st : Store} (hn : HN C i_n) (hw : HW C i_w) (hs : HS C i_s) (he : HE C i_e) (h : fitD x = true) :
    runFn C (fn_is_task i_n i_w i_s i_e) [x, .lst (ns.map D.str), .lst (ls.map D.str)] st = some (.bl (isTaskD x ns ls), st) := by
  cases x with
  | tup xs =>
    simp only [fitD] at h
    match xs, h with
    | [], _ => simp [fn_is_task, runFn_eq, finR_rt, finR_nx, finR_ite, ↓startE, ↓evSs, ↓evS, ↓evX, ↓evL, ↓evOs, ↓evBs, ↓evP, ↓evI, ↓asO_pk, ↓asO_var, ↓asO_con, ↓asO_glb, ↓asO_bin, ↓asO_neg, ↓asO_ife, ↓asO_tup, ↓asO_lst, ↓asO_idx, ↓asO_slc, ↓asO_rev, ↓asO_call, ↓asO_bi, ↓asO_join, ↓asO_pop, ↓asO_sset, ↓asO_cmp, ↓Res.bind, ↓asB, ↓asI, ↓asS, ↓asD, ↓Res.opt, ↓two, ↓resO, ↓S.get, ↓S.put, ↓S.put?, ↓asgT, ↓asgTs, ↓RX.dat, ↓obind_eq, ↓omap_eq, and_merge, or_merge, and_mergeB, or_mergeB, isiD, cmpD, lenD, binD, idxD, biD, nonD, atI_0, atI_1, atI_2, List.length_cons, List.length_nil, List.map_cons, List.map_nil, List.append_eq, List.cons_append, List.nil_append, List.getElem?_cons_zero, List.getElem?_cons_succ, List.getElem?_nil, List.mapM_cons, List.mapM_nil, Option.pure_def, Option.bind_eq_bind, id_eq, Bool.false_eq_true, List.foldl_cons, List.foldl_nil, ↓frzS, cmpOk_int, eqD_int, isTaskD]
    | [a], _ => simp [fn_is_task, runFn_eq, finR_rt, finR_nx, finR_ite, ↓startE, ↓evSs, ↓evS, ↓evX, ↓evL, ↓evOs, ↓evBs, ↓evP, ↓evI, ↓asO_pk, ↓asO_var, ↓asO_con, ↓asO_glb, ↓asO_bin, ↓asO_neg, ↓asO_ife, ↓asO_tup, ↓asO_lst, ↓asO_idx, ↓asO_slc, ↓asO_rev, ↓asO_call, ↓asO_bi, ↓asO_join, ↓asO_pop, ↓asO_sset, ↓asO_cmp, ↓Res.bind, ↓asB, ↓asI, ↓asS, ↓asD, ↓Res.opt, ↓two, ↓resO, ↓S.get, ↓S.put, ↓S.put?, ↓asgT, ↓asgTs, ↓RX.dat, ↓obind_eq, ↓omap_eq, and_merge, or_merge, and_mergeB, or_mergeB, isiD, cmpD, lenD, binD, idxD, biD, nonD, atI_0, atI_1, atI_2, List.length_cons, List.length_nil, List.map_cons, List.map_nil, List.append_eq, List.cons_append, List.nil_append, List.getElem?_cons_zero, List.getElem?_cons_succ, List.getElem?_nil, List.mapM_cons, List.mapM_nil, Option.pure_def, Option.bind_eq_bind, id_eq, Bool.false_eq_true, List.foldl_cons, List.foldl_nil, ↓frzS, cmpOk_int, eqD_int, isTaskD]
    | [a, b], _ => simp [fn_is_task, runFn_eq, finR_rt, finR_nx, finR_ite, ↓startE, ↓evSs, ↓evS, ↓evX, ↓evL, ↓evOs, ↓evBs, ↓evP, ↓evI, ↓asO_pk, ↓asO_var, ↓asO_con, ↓asO_glb, ↓asO_bin, ↓asO_neg, ↓asO_ife, ↓asO_tup, ↓asO_lst, ↓asO_idx, ↓asO_slc, ↓asO_rev, ↓asO_call, ↓asO_bi, ↓asO_join, ↓asO_pop, ↓asO_sset, ↓asO_cmp, ↓Res.bind, ↓asB, ↓asI, ↓asS, ↓asD, ↓Res.opt, ↓two, ↓resO, ↓S.get, ↓S.put, ↓S.put?, ↓asgT, ↓asgTs, ↓RX.dat, ↓obind_eq, ↓omap_eq, and_merge, or_merge, and_mergeB, or_mergeB, isiD, cmpD, lenD, binD, idxD, biD, nonD, atI_0, atI_1, atI_2, List.length_cons, List.length_nil, List.map_cons, List.map_nil, List.append_eq, List.cons_append, List.nil_append, List.getElem?_cons_zero, List.getElem?_cons_succ, List.getElem?_nil, List.mapM_cons, List.mapM_nil, Option.pure_def, Option.bind_eq_bind, id_eq, Bool.false_eq_true, List.foldl_cons, List.foldl_nil, ↓frzS, cmpOk_int, eqD_int, isTaskD]
    | [a, b, c], _ => simp [fn_is_task, runFn_eq, finR_rt, finR_nx, finR_ite, ↓startE, ↓evSs, ↓evS, ↓evX, ↓evL, ↓evOs, ↓evBs, ↓evP, ↓evI, ↓asO_pk, ↓asO_var, ↓asO_con, ↓asO_glb, ↓asO_bin, ↓asO_neg, ↓asO_ife, ↓asO_tup, ↓asO_lst, ↓asO_idx, ↓asO_slc, ↓asO_rev, ↓asO_call, ↓asO_bi, ↓asO_join, ↓asO_pop, ↓asO_sset, ↓asO_cmp, ↓Res.bind, ↓asB, ↓asI, ↓asS, ↓asD, ↓Res.opt, ↓two, ↓resO, ↓S.get, ↓S.put, ↓S.put?, ↓asgT, ↓asgTs, ↓RX.dat, ↓obind_eq, ↓omap_eq, and_merge, or_merge, and_mergeB, or_mergeB, isiD, cmpD, lenD, binD, idxD, biD, nonD, atI_0, atI_1, atI_2, List.length_cons, List.length_nil, List.map_cons, List.map_nil, List.append_eq, List.cons_append, List.nil_append, List.getElem?_cons_zero, List.getElem?_cons_succ, List.getElem?_nil, List.mapM_cons, List.mapM_nil, Option.pure_def, Option.bind_eq_bind, id_eq, Bool.false_eq_true, List.foldl_cons, List.foldl_nil, ↓frzS, cmpOk_int, eqD_int, isTaskD]
    | [a, b, c, d], _ => simp [fn_is_task, runFn_eq, finR_rt, finR_nx, finR_ite, ↓startE, ↓evSs, ↓evS, ↓evX, ↓evL, ↓evOs, ↓evBs, ↓evP, ↓evI, ↓asO_pk, ↓asO_var, ↓asO_con, ↓asO_glb, ↓asO_bin, ↓asO_neg, ↓asO_ife, ↓asO_tup, ↓asO_lst, ↓asO_idx, ↓asO_slc, ↓asO_rev, ↓asO_call, ↓asO_bi, ↓asO_join, ↓asO_pop, ↓asO_sset, ↓asO_cmp, ↓Res.bind, ↓asB, ↓asI, ↓asS, ↓asD, ↓Res.opt, ↓two, ↓resO, ↓S.get, ↓S.put, ↓S.put?, ↓asgT, ↓asgTs, ↓RX.dat, ↓obind_eq, ↓omap_eq, and_merge, or_merge, and_mergeB, or_mergeB, isiD, cmpD, lenD, binD, idxD, biD, nonD, atI_0, atI_1, atI_2, List.length_cons, List.length_nil, List.map_cons, List.map_nil, List.append_eq, List.cons_append, List.nil_append, List.getElem?_cons_zero, List.getElem?_cons_succ, List.getElem?_nil, List.mapM_cons, List.mapM_nil, Option.pure_def, Option.bind_eq_bind, id_eq, Bool.false_eq_true, List.foldl_cons, List.foldl_nil, ↓frzS, cmpOk_int, eqD_int, isTaskD]
    | a :: b :: c :: d :: e :: f :: r, _ =>
      have : ¬ ((r.length : Int) + 1 + 1 + 1 + 1 + 1 + 1 = 5) := by omega
      simp [fn_is_task, runFn_eq, finR_rt, finR_nx, finR_ite, ↓startE, ↓evSs, ↓evS, ↓evX, ↓evL, ↓evOs, ↓evBs, ↓evP, ↓evI, ↓asO_pk, ↓asO_var, ↓asO_con, ↓asO_glb, ↓asO_bin, ↓asO_neg, ↓asO_ife, ↓asO_tup, ↓asO_lst, ↓asO_idx, ↓asO_slc, ↓asO_rev, ↓asO_call, ↓asO_bi, ↓asO_join, ↓asO_pop, ↓asO_sset, ↓asO_cmp, ↓Res.bind, ↓asB, ↓asI, ↓asS, ↓asD, ↓Res.opt, ↓two, ↓resO, ↓S.get, ↓S.put, ↓S.put?, ↓asgT, ↓asgTs, ↓RX.dat, ↓obind_eq, ↓omap_eq, and_merge, or_merge, and_mergeB, or_mergeB, isiD, cmpD, lenD, binD, idxD, biD, nonD, atI_0, atI_1, atI_2, List.length_cons, List.length_nil, List.map_cons, List.map_nil, List.append_eq, List.cons_append, List.nil_append, List.getElem?_cons_zero, List.getElem?_cons_succ, List.getElem?_nil, List.mapM_cons, List.mapM_nil, Option.pure_def, Option.bind_eq_bind, id_eq, Bool.false_eq_true, List.foldl_cons, List.foldl_nil, ↓frzS, cmpOk_int, eqD_int, isTaskD, this]
    | [n, l, r, g, c], h =>
      have h1 := fun st => hn n st (fits_mem h n (by simp))
      have h2 := fun lo hi st => hw l lo hi st (fit_py (fits_mem h l (by simp)))
      have h3 := fun lo hi st => hw r lo hi st (fit_py (fits_mem h r (by simp)))
      have h4 := fun lo hi st => hw g lo hi st (fit_py (fits_mem h g (by simp)))
      have hcf := fits_mem h c (by simp)
      cases q1 : isNameD n with
      | false => cases c <;> simp [fn_is_task, runFn_eq, finR_rt, finR_nx, finR_ite, ↓startE, ↓evSs, ↓evS, ↓evX, ↓evL, ↓evOs, ↓evBs, ↓evP, ↓evI, ↓asO_pk, ↓asO_var, ↓asO_con, ↓asO_glb, ↓asO_bin, ↓asO_neg, ↓asO_ife, ↓asO_tup, ↓asO_lst, ↓asO_idx, ↓asO_slc, ↓asO_rev, ↓asO_call, ↓asO_bi, ↓asO_join, ↓asO_pop, ↓asO_sset, ↓asO_cmp, ↓Res.bind, ↓asB, ↓asI, ↓asS, ↓asD, ↓Res.opt, ↓two, ↓resO, ↓S.get, ↓S.put, ↓S.put?, ↓asgT, ↓asgTs, ↓RX.dat, ↓obind_eq, ↓omap_eq, and_merge, or_merge, and_mergeB, or_mergeB, isiD, cmpD, lenD, binD, idxD, biD, nonD, atI_0, atI_1, atI_2, List.length_cons, List.length_nil, List.map_cons, List.map_nil, List.append_eq, List.cons_append, List.nil_append, List.getElem?_cons_zero, List.getElem?_cons_succ, List.getElem?_nil, List.mapM_cons, List.mapM_nil, Option.pure_def, Option.bind_eq_bind, id_eq, Bool.false_eq_true, List.foldl_cons, List.foldl_nil, ↓frzS, cmpOk_int, eqD_int, isTaskD, h1, q1]
      | true =>
      cases q2 : withinD l 1 9 with
      | false => cases c <;> simp [fn_is_task, runFn_eq, finR_rt, finR_nx, finR_ite, ↓startE, ↓evSs, ↓evS, ↓evX, ↓evL, ↓evOs, ↓evBs, ↓evP, ↓evI, ↓asO_pk, ↓asO_var, ↓asO_con, ↓asO_glb, ↓asO_bin, ↓asO_neg, ↓asO_ife, ↓asO_tup, ↓asO_lst, ↓asO_idx, ↓asO_slc, ↓asO_rev, ↓asO_call, ↓asO_bi, ↓asO_join, ↓asO_pop, ↓asO_sset, ↓asO_cmp, ↓Res.bind, ↓asB, ↓asI, ↓asS, ↓asD, ↓Res.opt, ↓two, ↓resO, ↓S.get, ↓S.put, ↓S.put?, ↓asgT, ↓asgTs, ↓RX.dat, ↓obind_eq, ↓omap_eq, and_merge, or_merge, and_mergeB, or_mergeB, isiD, cmpD, lenD, binD, idxD, biD, nonD, atI_0, atI_1, atI_2, List.length_cons, List.length_nil, List.map_cons, List.map_nil, List.append_eq, List.cons_append, List.nil_append, List.getElem?_cons_zero, List.getElem?_cons_succ, List.getElem?_nil, List.mapM_cons, List.mapM_nil, Option.pure_def, Option.bind_eq_bind, id_eq, Bool.false_eq_true, List.foldl_cons, List.foldl_nil, ↓frzS, cmpOk_int, eqD_int, isTaskD, h1, q1, h2, q2]
      | true =>
      cases q3 : withinD r 0 1000 with
      | false => cases c <;> simp [fn_is_task, runFn_eq, finR_rt, finR_nx, finR_ite, ↓startE, ↓evSs, ↓evS, ↓evX, ↓evL, ↓evOs, ↓evBs, ↓evP, ↓evI, ↓asO_pk, ↓asO_var, ↓asO_con, ↓asO_glb, ↓asO_bin, ↓asO_neg, ↓asO_ife, ↓asO_tup, ↓asO_lst, ↓asO_idx, ↓asO_slc, ↓asO_rev, ↓asO_call, ↓asO_bi, ↓asO_join, ↓asO_pop, ↓asO_sset, ↓asO_cmp, ↓Res.bind, ↓asB, ↓asI, ↓asS, ↓asD, ↓Res.opt, ↓two, ↓resO, ↓S.get, ↓S.put, ↓S.put?, ↓asgT, ↓asgTs, ↓RX.dat, ↓obind_eq, ↓omap_eq, and_merge, or_merge, and_mergeB, or_mergeB, isiD, cmpD, lenD, binD, idxD, biD, nonD, atI_0, atI_1, atI_2, List.length_cons, List.length_nil, List.map_cons, List.map_nil, List.append_eq, List.cons_append, List.nil_append, List.getElem?_cons_zero, List.getElem?_cons_succ, List.getElem?_nil, List.mapM_cons, List.mapM_nil, Option.pure_def, Option.bind_eq_bind, id_eq, Bool.false_eq_true, List.foldl_cons, List.foldl_nil, ↓frzS, cmpOk_int, eqD_int, isTaskD, h1, q1, h2, q2, h3, q3]
      | true =>
      cases q4 : withinD g 0 1000 with
      | false => cases c <;> simp [fn_is_task, runFn_eq, finR_rt, finR_nx, finR_ite, ↓startE, ↓evSs, ↓evS, ↓evX, ↓evL, ↓evOs, ↓evBs, ↓evP, ↓evI, ↓asO_pk, ↓asO_var, ↓asO_con, ↓asO_glb, ↓asO_bin, ↓asO_neg, ↓asO_ife, ↓asO_tup, ↓asO_lst, ↓asO_idx, ↓asO_slc, ↓asO_rev, ↓asO_call, ↓asO_bi, ↓asO_join, ↓asO_pop, ↓asO_sset, ↓asO_cmp, ↓Res.bind, ↓asB, ↓asI, ↓asS, ↓asD, ↓Res.opt, ↓two, ↓resO, ↓S.get, ↓S.put, ↓S.put?, ↓asgT, ↓asgTs, ↓RX.dat, ↓obind_eq, ↓omap_eq, and_merge, or_merge, and_mergeB, or_mergeB, isiD, cmpD, lenD, binD, idxD, biD, nonD, atI_0, atI_1, atI_2, List.length_cons, List.length_nil, List.map_cons, List.map_nil, List.append_eq, List.cons_append, List.nil_append, List.getElem?_cons_zero, List.getElem?_cons_succ, List.getElem?_nil, List.mapM_cons, List.mapM_nil, Option.pure_def, Option.bind_eq_bind, id_eq, Bool.false_eq_true, List.foldl_cons, List.foldl_nil, ↓frzS, cmpOk_int, eqD_int, isTaskD, h1, q1, h2, q2, h3, q3, h4, q4]
      | true =>
      cases c with
      | tup cs =>
        by_cases q5 : cs.length ≤ 12
        · have q5' : ¬ ((12 : Int) < cs.length) := by omega
          simp only [fitD] at hcf
          have hc : ∀ a b c d e f, evX C (ce_is_task_0 i_n i_w i_s i_e) ⟨[a, some (.val (.lst (ns.map D.str))), some (.val (.lst (ls.map D.str))), b, c, d, e, some (.val (.tup cs)), f, none], st⟩ =
              .ok (.fr (cs.map fun x => D.bl (isStepD x ns ls))) ⟨[a, some (.val (.lst (ns.map D.str))), some (.val (.lst (ls.map D.str))), b, c, d, e, some (.val (.tup cs)), f, none], st⟩ := by
            intro a b c d e f
            unfold ce_is_task_0
            rw [ev_comp_pure (xs := cs) (fun _ => true) (fun x => D.bl (isStepD x ns ls))]
            · rw [List.filter_eq_self.mpr (by simp)]
            · simp [runFn_eq, finR_rt, finR_nx, finR_ite, ↓startE, ↓evSs, ↓evS, ↓evX, ↓evL, ↓evOs, ↓evBs, ↓evP, ↓evI, ↓asO_pk, ↓asO_var, ↓asO_con, ↓asO_glb, ↓asO_bin, ↓asO_neg, ↓asO_ife, ↓asO_tup, ↓asO_lst, ↓asO_idx, ↓asO_slc, ↓asO_rev, ↓asO_call, ↓asO_bi, ↓asO_join, ↓asO_pop, ↓asO_sset, ↓asO_cmp, ↓Res.bind, ↓asB, ↓asI, ↓asS, ↓asD, ↓Res.opt, ↓two, ↓resO, ↓S.get, ↓S.put, ↓S.put?, ↓asgT, ↓asgTs, ↓RX.dat, ↓obind_eq, ↓omap_eq, and_merge, or_merge, and_mergeB, or_mergeB, isiD, cmpD, lenD, binD, idxD, biD, nonD, atI_0, atI_1, atI_2, List.length_cons, List.length_nil, List.map_cons, List.map_nil, List.append_eq, List.cons_append, List.nil_append, List.getElem?_cons_zero, List.getElem?_cons_succ, List.getElem?_nil, List.mapM_cons, List.mapM_nil, Option.pure_def, Option.bind_eq_bind, id_eq, Bool.false_eq_true, List.foldl_cons, List.foldl_nil, ↓frzS, seqD]
            · rw [sizeLine_eq]; omega
            · intro x hx
              refine compPure_id rfl rfl rfl fun _ => ?_
              simp [el_is_task_0, runFn_eq, finR_rt, finR_nx, finR_ite, ↓startE, ↓evSs, ↓evS, ↓evX, ↓evL, ↓evOs, ↓evBs, ↓evP, ↓evI, ↓asO_pk, ↓asO_var, ↓asO_con, ↓asO_glb, ↓asO_bin, ↓asO_neg, ↓asO_ife, ↓asO_tup, ↓asO_lst, ↓asO_idx, ↓asO_slc, ↓asO_rev, ↓asO_call, ↓asO_bi, ↓asO_join, ↓asO_pop, ↓asO_sset, ↓asO_cmp, ↓Res.bind, ↓asB, ↓asI, ↓asS, ↓asD, ↓Res.opt, ↓two, ↓resO, ↓S.get, ↓S.put, ↓S.put?, ↓asgT, ↓asgTs, ↓RX.dat, ↓obind_eq, ↓omap_eq, and_merge, or_merge, and_mergeB, or_mergeB, isiD, cmpD, lenD, binD, idxD, biD, nonD, atI_0, atI_1, atI_2, List.length_cons, List.length_nil, List.map_cons, List.map_nil, List.append_eq, List.cons_append, List.nil_append, List.getElem?_cons_zero, List.getElem?_cons_succ, List.getElem?_nil, List.mapM_cons, List.mapM_nil, Option.pure_def, Option.bind_eq_bind, id_eq, Bool.false_eq_true, List.foldl_cons, List.foldl_nil, ↓frzS, compEnv, wipeE, roS, hs x ns ls st (fits_mem hcf x hx)]
          have ha := fun a b c d e f => as_np (e := ce_is_task_0 i_n i_w i_s i_e) rfl (hc a b c d e f)
          cases q6 : cs.all (fun s => isStepD s ns ls) with
          | false =>
            have q6' : (cs.map fun x => isStepD x ns ls).all id = false := by rw [List.all_map]; exact q6
            simp [fn_is_task, runFn_eq, finR_rt, finR_nx, finR_ite, ↓startE, ↓evSs, ↓evS, ↓evX, ↓evL, ↓evOs, ↓evBs, ↓evP, ↓evI, ↓asO_pk, ↓asO_var, ↓asO_con, ↓asO_glb, ↓asO_bin, ↓asO_neg, ↓asO_ife, ↓asO_tup, ↓asO_lst, ↓asO_idx, ↓asO_slc, ↓asO_rev, ↓asO_call, ↓asO_bi, ↓asO_join, ↓asO_pop, ↓asO_sset, ↓asO_cmp, ↓Res.bind, ↓asB, ↓asI, ↓asS, ↓asD, ↓Res.opt, ↓two, ↓resO, ↓S.get, ↓S.put, ↓S.put?, ↓asgT, ↓asgTs, ↓RX.dat, ↓obind_eq, ↓omap_eq, and_merge, or_merge, and_mergeB, or_mergeB, isiD, cmpD, lenD, binD, idxD, biD, nonD, atI_0, atI_1, atI_2, List.length_cons, List.length_nil, List.map_cons, List.map_nil, List.append_eq, List.cons_append, List.nil_append, List.getElem?_cons_zero, List.getElem?_cons_succ, List.getElem?_nil, List.mapM_cons, List.mapM_nil, Option.pure_def, Option.bind_eq_bind, id_eq, Bool.false_eq_true, List.foldl_cons, List.foldl_nil, ↓frzS, cmpOk_int, eqD_int, isTaskD, h1, q1, h2, q2, h3, q3, h4, q4, q5, q5', ha, blsD_all, q6', q6]
          | true =>
            have q6' : (cs.map fun x => isStepD x ns ls).all id = true := by rw [List.all_map]; exact q6
            have q7 : ∀ x ∈ cs, kindD x := fun x hx => isStepD_kind (List.all_eq_true.mp q6 x hx)
            have q8 : cs.length < sizeLine := by rw [sizeLine_eq]; omega
            have h5 := fun st => he cs st q7 q8
            simp [fn_is_task, runFn_eq, finR_rt, finR_nx, finR_ite, ↓startE, ↓evSs, ↓evS, ↓evX, ↓evL, ↓evOs, ↓evBs, ↓evP, ↓evI, ↓asO_pk, ↓asO_var, ↓asO_con, ↓asO_glb, ↓asO_bin, ↓asO_neg, ↓asO_ife, ↓asO_tup, ↓asO_lst, ↓asO_idx, ↓asO_slc, ↓asO_rev, ↓asO_call, ↓asO_bi, ↓asO_join, ↓asO_pop, ↓asO_sset, ↓asO_cmp, ↓Res.bind, ↓asB, ↓asI, ↓asS, ↓asD, ↓Res.opt, ↓two, ↓resO, ↓S.get, ↓S.put, ↓S.put?, ↓asgT, ↓asgTs, ↓RX.dat, ↓obind_eq, ↓omap_eq, and_merge, or_merge, and_mergeB, or_mergeB, isiD, cmpD, lenD, binD, idxD, biD, nonD, atI_0, atI_1, atI_2, List.length_cons, List.length_nil, List.map_cons, List.map_nil, List.append_eq, List.cons_append, List.nil_append, List.getElem?_cons_zero, List.getElem?_cons_succ, List.getElem?_nil, List.mapM_cons, List.mapM_nil, Option.pure_def, Option.bind_eq_bind, id_eq, Bool.false_eq_true, List.foldl_cons, List.foldl_nil, ↓frzS, cmpOk_int, eqD_int, isTaskD, h1, q1, h2, q2, h3, q3, h4, q4, q5, q5', ha, blsD_all, q6', q6, h5]
        · have q5' : ((12 : Int) < cs.length) := by omega
          simp [fn_is_task, runFn_eq, finR_rt, finR_nx, finR_ite, ↓startE, ↓evSs, ↓evS, ↓evX, ↓evL, ↓evOs, ↓evBs, ↓evP, ↓evI, ↓asO_pk, ↓asO_var, ↓asO_con, ↓asO_glb, ↓asO_bin, ↓asO_neg, ↓asO_ife, ↓asO_tup, ↓asO_lst, ↓asO_idx, ↓asO_slc, ↓asO_rev, ↓asO_call, ↓asO_bi, ↓asO_join, ↓asO_pop, ↓asO_sset, ↓asO_cmp, ↓Res.bind, ↓asB, ↓asI, ↓asS, ↓asD, ↓Res.opt, ↓two, ↓resO, ↓S.get, ↓S.put, ↓S.put?, ↓asgT, ↓asgTs, ↓RX.dat, ↓obind_eq, ↓omap_eq, and_merge, or_merge, and_mergeB, or_mergeB, isiD, cmpD, lenD, binD, idxD, biD, nonD, atI_0, atI_1, atI_2, List.length_cons, List.length_nil, List.map_cons, List.map_nil, List.append_eq, List.cons_append, List.nil_append, List.getElem?_cons_zero, List.getElem?_cons_succ, List.getElem?_nil, List.mapM_cons, List.mapM_nil, Option.pure_def, Option.bind_eq_bind, id_eq, Bool.false_eq_true, List.foldl_cons, List.foldl_nil, ↓frzS, cmpOk_int, eqD_int, isTaskD, h1, q1, h2, q2, h3, q3, h4, q4, q5, q5']
      | _ => simp [fn_is_task, runFn_eq, finR_rt, finR_nx, finR_ite, ↓startE, ↓evSs, ↓evS, ↓evX, ↓evL, ↓evOs, ↓evBs, ↓evP, ↓evI, ↓asO_pk, ↓asO_var, ↓asO_con, ↓asO_glb, ↓asO_bin, ↓asO_neg, ↓asO_ife, ↓asO_tup, ↓asO_lst, ↓asO_idx, ↓asO_slc, ↓asO_rev, ↓asO_call, ↓asO_bi, ↓asO_join, ↓asO_pop, ↓asO_sset, ↓asO_cmp, ↓Res.bind, ↓asB, ↓asI, ↓asS, ↓asD, ↓Res.opt, ↓two, ↓resO, ↓S.get, ↓S.put, ↓S.put?, ↓asgT, ↓asgTs, ↓RX.dat, ↓obind_eq, ↓omap_eq, and_merge, or_merge, and_mergeB, or_mergeB, isiD, cmpD, lenD, binD, idxD, biD, nonD, atI_0, atI_1, atI_2, List.length_cons, List.length_nil, List.map_cons, List.map_nil, List.append_eq, List.cons_append, List.nil_append, List.getElem?_cons_zero, List.getElem?_cons_succ, List.getElem?_nil, List.mapM_cons, List.mapM_nil, Option.pure_def, Option.bind_eq_bind, id_eq, Bool.false_eq_true, List.foldl_cons, List.foldl_nil, ↓frzS, cmpOk_int, eqD_int, isTaskD, h1, q1, h2, q2, h3, q3, h4, q4, fitD] at hcf ⊢
  | _ => simp [fn_is_task, runFn_eq, finR_rt, finR_nx, finR_ite, ↓startE, ↓evSs, ↓evS, ↓evX, ↓evL, ↓evOs, ↓evBs, ↓evP, ↓evI, ↓asO_pk, ↓asO_var, ↓asO_con, ↓asO_glb, ↓asO_bin, ↓asO_neg, ↓asO_ife, ↓asO_tup, ↓asO_lst, ↓asO_idx, ↓asO_slc, ↓asO_rev, ↓asO_call, ↓asO_bi, ↓asO_join, ↓asO_pop, ↓asO_sset, ↓asO_cmp, ↓Res.bind, ↓asB, ↓asI, ↓asS, ↓asD, ↓Res.opt, ↓two, ↓resO, ↓S.get, ↓S.put, ↓S.put?, ↓asgT, ↓asgTs, ↓RX.dat, ↓obind_eq, ↓omap_eq, and_merge, or_merge, and_mergeB, or_mergeB, isiD, cmpD, lenD, binD, idxD, biD, nonD, atI_0, atI_1, atI_2, List.length_cons, List.length_nil, List.map_cons, List.map_nil, List.append_eq, List.cons_append, List.nil_append, List.getElem?_cons_zero, List.getElem?_cons_succ, List.getElem?_nil, List.mapM_cons, List.mapM_nil, Option.pure_def, Option.bind_eq_bind, id_eq, Bool.false_eq_true, List.foldl_cons, List.foldl_nil, ↓frzS, isTaskD, fitD] at h ⊢
/-! names_in -/
def hasName (x : D) : Bool := match x with
  | .tup (h :: _) => isNameD h
  | _ => false
def nameOf (x : D) : Str := match x with
  | .tup (.str z :: _) => z
  | _ => Str.empty
def namesIn (x : D) (most : Nat) : Option (List Str) := match x with
  | .tup xs => if xs.length ≤ most ∧ xs.all hasName = true ∧ risesS (xs.map nameOf) = true then some (xs.map nameOf) else none
  | _ => none
def namesD (x : Option (List Str)) : D := match x with
  | some ns => .lst (ns.map D.str)
  | none => .non
def HR (C : Ctx) (i : Nat) : Prop := ∀ (ns : List Str) (st : Store), ns.length ≤ sizeLine → C.call i [.lst (ns.map D.str)] st = some (.bl (risesS ns), st)
theorem hasName_eq {x : D} (h : hasName x = true) : ∃ r, x = .tup (.str (nameOf x) :: r) := by
  unfold hasName at h
  split at h
  · rename_i a r
    cases a <;> simp [isNameD] at h
    exact ⟨_, rfl⟩
  · cases h
theorem names_loop {C : Ctx} {i_n i_r : Nat} {st : Store} {v0 v1 : Option Slot} (hn : HN C i_n) : ∀ (xs : List D) (j : Option Slot), fitDs xs = true →
    if xs.all hasName = true then ∃ j', forL (evSs C (bo_names_in_0 i_n i_r)) (fun x s => asgT (.name 2) (.d x) s) xs ⟨[v0, v1, j, none, none], st⟩ = .ok .nx ⟨[v0, v1, j', none, none], st⟩
    else ∃ s2, forL (evSs C (bo_names_in_0 i_n i_r)) (fun x s => asgT (.name 2) (.d x) s) xs ⟨[v0, v1, j, none, none], st⟩ = .ok (.rt .non) s2 ∧ s2.st = st
  | [], j, _ => by simp [forL]
  | x :: r, j, h => by
    simp only [fitDs, Bool.and_eq_true] at h
    obtain ⟨hx, hr⟩ := h
    have e1 : asgT (.name 2) (.d x) ⟨[v0, v1, j, none, none], st⟩ = some ⟨[v0, v1, some (.val x), none, none], st⟩ := rfl
    unfold forL
    simp only [e1, opt_some, bind_ok, List.all_cons]
    cases hp : hasName x with
    | true =>
      have e2 : evSs C (bo_names_in_0 i_n i_r) ⟨[v0, v1, some (.val x), none, none], st⟩ = .ok .nx ⟨[v0, v1, some (.val x), none, none], st⟩ := by
        obtain ⟨r', e⟩ := hasName_eq hp
        rw [e] at hp hx ⊢
        simp only [hasName] at hp
        simp only [fitD] at hx
        have h1 := fun st => hn _ st (fits_mem hx _ (List.mem_cons_self))
        have h2 := cmpOk_tup0 (fits_py hx)
        simp [bo_names_in_0, runFn_eq, finR_rt, finR_nx, finR_ite, ↓startE, ↓evSs, ↓evS, ↓evX, ↓evL, ↓evOs, ↓evBs, ↓evP, ↓evI, ↓asO_pk, ↓asO_var, ↓asO_con, ↓asO_glb, ↓asO_bin, ↓asO_neg, ↓asO_ife, ↓asO_tup, ↓asO_lst, ↓asO_idx, ↓asO_slc, ↓asO_rev, ↓asO_call, ↓asO_bi, ↓asO_join, ↓asO_pop, ↓asO_sset, ↓asO_cmp, ↓Res.bind, ↓asB, ↓asI, ↓asS, ↓asD, ↓Res.opt, ↓two, ↓resO, ↓S.get, ↓S.put, ↓S.put?, ↓asgT, ↓asgTs, ↓RX.dat, ↓obind_eq, ↓omap_eq, and_merge, or_merge, and_mergeB, or_mergeB, isiD, cmpD, lenD, binD, idxD, biD, nonD, atI_0, atI_1, atI_2, List.length_cons, List.length_nil, List.map_cons, List.map_nil, List.append_eq, List.cons_append, List.nil_append, List.getElem?_cons_zero, List.getElem?_cons_succ, List.getElem?_nil, List.mapM_cons, List.mapM_nil, Option.pure_def, Option.bind_eq_bind, id_eq, Bool.false_eq_true, List.foldl_cons, List.foldl_nil, ↓frzS, h1, hp, h2, eqD_tup0, sizeLine_eq]
      simp only [e2, bind_ok, Bool.true_and]
      exact names_loop hn r _ hr
    | false =>
      have e2 : ∃ s2, evSs C (bo_names_in_0 i_n i_r) ⟨[v0, v1, some (.val x), none, none], st⟩ = .ok (.rt .non) s2 ∧ s2.st = st := by
        cases x with
        | tup xs =>
          simp only [fitD] at hx
          have h2 := cmpOk_tup0 (fits_py hx)
          cases xs with
          | nil => simp [bo_names_in_0, runFn_eq, finR_rt, finR_nx, finR_ite, ↓startE, ↓evSs, ↓evS, ↓evX, ↓evL, ↓evOs, ↓evBs, ↓evP, ↓evI, ↓asO_pk, ↓asO_var, ↓asO_con, ↓asO_glb, ↓asO_bin, ↓asO_neg, ↓asO_ife, ↓asO_tup, ↓asO_lst, ↓asO_idx, ↓asO_slc, ↓asO_rev, ↓asO_call, ↓asO_bi, ↓asO_join, ↓asO_pop, ↓asO_sset, ↓asO_cmp, ↓Res.bind, ↓asB, ↓asI, ↓asS, ↓asD, ↓Res.opt, ↓two, ↓resO, ↓S.get, ↓S.put, ↓S.put?, ↓asgT, ↓asgTs, ↓RX.dat, ↓obind_eq, ↓omap_eq, and_merge, or_merge, and_mergeB, or_mergeB, isiD, cmpD, lenD, binD, idxD, biD, nonD, atI_0, atI_1, atI_2, List.length_cons, List.length_nil, List.map_cons, List.map_nil, List.append_eq, List.cons_append, List.nil_append, List.getElem?_cons_zero, List.getElem?_cons_succ, List.getElem?_nil, List.mapM_cons, List.mapM_nil, Option.pure_def, Option.bind_eq_bind, id_eq, Bool.false_eq_true, List.foldl_cons, List.foldl_nil, ↓frzS, h2, eqD_tup0, sizeLine_eq]
          | cons y ys =>
            simp only [hasName] at hp
            have h1 := fun st => hn _ st (fits_mem hx y (List.mem_cons_self))
            simp [bo_names_in_0, runFn_eq, finR_rt, finR_nx, finR_ite, ↓startE, ↓evSs, ↓evS, ↓evX, ↓evL, ↓evOs, ↓evBs, ↓evP, ↓evI, ↓asO_pk, ↓asO_var, ↓asO_con, ↓asO_glb, ↓asO_bin, ↓asO_neg, ↓asO_ife, ↓asO_tup, ↓asO_lst, ↓asO_idx, ↓asO_slc, ↓asO_rev, ↓asO_call, ↓asO_bi, ↓asO_join, ↓asO_pop, ↓asO_sset, ↓asO_cmp, ↓Res.bind, ↓asB, ↓asI, ↓asS, ↓asD, ↓Res.opt, ↓two, ↓resO, ↓S.get, ↓S.put, ↓S.put?, ↓asgT, ↓asgTs, ↓RX.dat, ↓obind_eq, ↓omap_eq, and_merge, or_merge, and_mergeB, or_mergeB, isiD, cmpD, lenD, binD, idxD, biD, nonD, atI_0, atI_1, atI_2, List.length_cons, List.length_nil, List.map_cons, List.map_nil, List.append_eq, List.cons_append, List.nil_append, List.getElem?_cons_zero, List.getElem?_cons_succ, List.getElem?_nil, List.mapM_cons, List.mapM_nil, Option.pure_def, Option.bind_eq_bind, id_eq, Bool.false_eq_true, List.foldl_cons, List.foldl_nil, ↓frzS, h1, hp, h2, eqD_tup0, sizeLine_eq]
        | _ => simp [bo_names_in_0, runFn_eq, finR_rt, finR_nx, finR_ite, ↓startE, ↓evSs, ↓evS, ↓evX, ↓evL, ↓evOs, ↓evBs, ↓evP, ↓evI, ↓asO_pk, ↓asO_var, ↓asO_con, ↓asO_glb, ↓asO_bin, ↓asO_neg, ↓asO_ife, ↓asO_tup, ↓asO_lst, ↓asO_idx, ↓asO_slc, ↓asO_rev, ↓asO_call, ↓asO_bi, ↓asO_join, ↓asO_pop, ↓asO_sset, ↓asO_cmp, ↓Res.bind, ↓asB, ↓asI, ↓asS, ↓asD, ↓Res.opt, ↓two, ↓resO, ↓S.get, ↓S.put, ↓S.put?, ↓asgT, ↓asgTs, ↓RX.dat, ↓obind_eq, ↓omap_eq, and_merge, or_merge, and_mergeB, or_mergeB, isiD, cmpD, lenD, binD, idxD, biD, nonD, atI_0, atI_1, atI_2, List.length_cons, List.length_nil, List.map_cons, List.map_nil, List.append_eq, List.cons_append, List.nil_append, List.getElem?_cons_zero, List.getElem?_cons_succ, List.getElem?_nil, List.mapM_cons, List.mapM_nil, Option.pure_def, Option.bind_eq_bind, id_eq, Bool.false_eq_true, List.foldl_cons, List.foldl_nil, ↓frzS, fitD] at hx ⊢
      obtain ⟨s2, q1, q2⟩ := e2
      simp only [q1, bind_ok, Bool.false_and, Bool.false_eq_true, if_false]
      exact ⟨s2, rfl, q2⟩
theorem names_in_ok {C : Ctx} {i_n i_r : Nat} {x : D} {most : Nat} {st : Store} (hn : HN C i_n) (hr : HR C i_r) (h : fitD x = true) (hm : most ≤ 100) : runFn C (fn_names_in i_n i_r) [x, .int most] st = some (namesD (namesIn x most), st) := by
  cases x with
  | tup xs =>
    simp only [fitD] at h
    by_cases h1 : xs.length ≤ most
    · have h1' : ¬ ((most : Int) < xs.length) := by omega
      have q := names_loop (i_r := i_r) (st := st) (v0 := some (.val (.tup xs))) (v1 := some (.val (.int most))) hn xs none h
      have hf : evS C (fo_names_in_0 i_n i_r) ⟨[some (.val (.tup xs)), some (.val (.int most)), none, none, none], st⟩ = forL (evSs C (bo_names_in_0 i_n i_r)) (fun x s => asgT (.name 2) (.d x) s) xs ⟨[some (.val (.tup xs)), some (.val (.int most)), none, none, none], st⟩ :=
        ev_for (by simp [runFn_eq, finR_rt, finR_nx, finR_ite, ↓startE, ↓evSs, ↓evS, ↓evX, ↓evL, ↓evOs, ↓evBs, ↓evP, ↓evI, ↓asO_pk, ↓asO_var, ↓asO_con, ↓asO_glb, ↓asO_bin, ↓asO_neg, ↓asO_ife, ↓asO_tup, ↓asO_lst, ↓asO_idx, ↓asO_slc, ↓asO_rev, ↓asO_call, ↓asO_bi, ↓asO_join, ↓asO_pop, ↓asO_sset, ↓asO_cmp, ↓Res.bind, ↓asB, ↓asI, ↓asS, ↓asD, ↓Res.opt, ↓two, ↓resO, ↓S.get, ↓S.put, ↓S.put?, ↓asgT, ↓asgTs, ↓RX.dat, ↓obind_eq, ↓omap_eq, and_merge, or_merge, and_mergeB, or_mergeB, isiD, cmpD, lenD, binD, idxD, biD, nonD, atI_0, atI_1, atI_2, List.length_cons, List.length_nil, List.map_cons, List.map_nil, List.append_eq, List.cons_append, List.nil_append, List.getElem?_cons_zero, List.getElem?_cons_succ, List.getElem?_nil, List.mapM_cons, List.mapM_nil, Option.pure_def, Option.bind_eq_bind, id_eq, Bool.false_eq_true, List.foldl_cons, List.foldl_nil, ↓frzS, seqD])
      rw [← hf] at q
      cases h2 : xs.all hasName with
      | false =>
        rw [h2] at q
        simp only [Bool.false_eq_true, if_false] at q
        obtain ⟨s2, q1, q2⟩ := q
        simp [fn_names_in, runFn_eq, finR_rt, finR_nx, finR_ite, ↓startE, ↓evSs, ↓evS, ↓evX, ↓evL, ↓evOs, ↓evBs, ↓evP, ↓evI, ↓asO_pk, ↓asO_var, ↓asO_con, ↓asO_glb, ↓asO_bin, ↓asO_neg, ↓asO_ife, ↓asO_tup, ↓asO_lst, ↓asO_idx, ↓asO_slc, ↓asO_rev, ↓asO_call, ↓asO_bi, ↓asO_join, ↓asO_pop, ↓asO_sset, ↓asO_cmp, ↓Res.bind, ↓asB, ↓asI, ↓asS, ↓asD, ↓Res.opt, ↓two, ↓resO, ↓S.get, ↓S.put, ↓S.put?, ↓asgT, ↓asgTs, ↓RX.dat, ↓obind_eq, ↓omap_eq, and_merge, or_merge, and_mergeB, or_mergeB, isiD, cmpD, lenD, binD, idxD, biD, nonD, atI_0, atI_1, atI_2, List.length_cons, List.length_nil, List.map_cons, List.map_nil, List.append_eq, List.cons_append, List.nil_append, List.getElem?_cons_zero, List.getElem?_cons_succ, List.getElem?_nil, List.mapM_cons, List.mapM_nil, Option.pure_def, Option.bind_eq_bind, id_eq, Bool.false_eq_true, List.foldl_cons, List.foldl_nil, ↓frzS, h1', q1, q2, namesIn, h2, namesD]
      | true =>
        rw [h2] at q
        simp only [if_true] at q
        obtain ⟨j, q1⟩ := q
        have hc : evX C (ce_names_in_1 i_n i_r) ⟨[some (.val (.tup xs)), some (.val (.int most)), j, none, none], st⟩ = .ok (.fr ((xs.map nameOf).map D.str)) ⟨[some (.val (.tup xs)), some (.val (.int most)), j, none, none], st⟩ := by
          unfold ce_names_in_1
          rw [ev_comp_pure (xs := xs) (fun _ => true) (fun x => .str (nameOf x))]
          · rw [List.filter_eq_self.mpr (by simp), List.map_map]
            rfl
          · simp [runFn_eq, finR_rt, finR_nx, finR_ite, ↓startE, ↓evSs, ↓evS, ↓evX, ↓evL, ↓evOs, ↓evBs, ↓evP, ↓evI, ↓asO_pk, ↓asO_var, ↓asO_con, ↓asO_glb, ↓asO_bin, ↓asO_neg, ↓asO_ife, ↓asO_tup, ↓asO_lst, ↓asO_idx, ↓asO_slc, ↓asO_rev, ↓asO_call, ↓asO_bi, ↓asO_join, ↓asO_pop, ↓asO_sset, ↓asO_cmp, ↓Res.bind, ↓asB, ↓asI, ↓asS, ↓asD, ↓Res.opt, ↓two, ↓resO, ↓S.get, ↓S.put, ↓S.put?, ↓asgT, ↓asgTs, ↓RX.dat, ↓obind_eq, ↓omap_eq, and_merge, or_merge, and_mergeB, or_mergeB, isiD, cmpD, lenD, binD, idxD, biD, nonD, atI_0, atI_1, atI_2, List.length_cons, List.length_nil, List.map_cons, List.map_nil, List.append_eq, List.cons_append, List.nil_append, List.getElem?_cons_zero, List.getElem?_cons_succ, List.getElem?_nil, List.mapM_cons, List.mapM_nil, Option.pure_def, Option.bind_eq_bind, id_eq, Bool.false_eq_true, List.foldl_cons, List.foldl_nil, ↓frzS, seqD]
          · rw [sizeLine_eq]; omega
          · intro x hx
            refine compPure_id rfl rfl rfl fun _ => ?_
            obtain ⟨r, e⟩ := hasName_eq (List.all_eq_true.mp h2 x hx)
            rw [e]
            simp [el_names_in_1, runFn_eq, finR_rt, finR_nx, finR_ite, ↓startE, ↓evSs, ↓evS, ↓evX, ↓evL, ↓evOs, ↓evBs, ↓evP, ↓evI, ↓asO_pk, ↓asO_var, ↓asO_con, ↓asO_glb, ↓asO_bin, ↓asO_neg, ↓asO_ife, ↓asO_tup, ↓asO_lst, ↓asO_idx, ↓asO_slc, ↓asO_rev, ↓asO_call, ↓asO_bi, ↓asO_join, ↓asO_pop, ↓asO_sset, ↓asO_cmp, ↓Res.bind, ↓asB, ↓asI, ↓asS, ↓asD, ↓Res.opt, ↓two, ↓resO, ↓S.get, ↓S.put, ↓S.put?, ↓asgT, ↓asgTs, ↓RX.dat, ↓obind_eq, ↓omap_eq, and_merge, or_merge, and_mergeB, or_mergeB, isiD, cmpD, lenD, binD, idxD, biD, nonD, atI_0, atI_1, atI_2, List.length_cons, List.length_nil, List.map_cons, List.map_nil, List.append_eq, List.cons_append, List.nil_append, List.getElem?_cons_zero, List.getElem?_cons_succ, List.getElem?_nil, List.mapM_cons, List.mapM_nil, Option.pure_def, Option.bind_eq_bind, id_eq, Bool.false_eq_true, List.foldl_cons, List.foldl_nil, ↓frzS, compEnv, wipeE, roS, nameOf]
        have h3 : (xs.map nameOf).length ≤ sizeLine := by rw [List.length_map, sizeLine_eq]; omega
        have h4 := fun st => hr (xs.map nameOf) st h3
        cases h5 : risesS (xs.map nameOf) <;> simp [fn_names_in, runFn_eq, finR_rt, finR_nx, finR_ite, ↓startE, ↓evSs, ↓evS, ↓evX, ↓evL, ↓evOs, ↓evBs, ↓evP, ↓evI, ↓asO_pk, ↓asO_var, ↓asO_con, ↓asO_glb, ↓asO_bin, ↓asO_neg, ↓asO_ife, ↓asO_tup, ↓asO_lst, ↓asO_idx, ↓asO_slc, ↓asO_rev, ↓asO_call, ↓asO_bi, ↓asO_join, ↓asO_pop, ↓asO_sset, ↓asO_cmp, ↓Res.bind, ↓asB, ↓asI, ↓asS, ↓asD, ↓Res.opt, ↓two, ↓resO, ↓S.get, ↓S.put, ↓S.put?, ↓asgT, ↓asgTs, ↓RX.dat, ↓obind_eq, ↓omap_eq, and_merge, or_merge, and_mergeB, or_mergeB, isiD, cmpD, lenD, binD, idxD, biD, nonD, atI_0, atI_1, atI_2, List.length_cons, List.length_nil, List.map_cons, List.map_nil, List.append_eq, List.cons_append, List.nil_append, List.getElem?_cons_zero, List.getElem?_cons_succ, List.getElem?_nil, List.mapM_cons, List.mapM_nil, Option.pure_def, Option.bind_eq_bind, id_eq, Bool.false_eq_true, List.foldl_cons, List.foldl_nil, ↓frzS, h1', q1, hc, h4, h5, namesIn, h1, h2, namesD, -List.map_map]
    · have h1' : ((most : Int) < xs.length) := by omega
      simp [fn_names_in, runFn_eq, finR_rt, finR_nx, finR_ite, ↓startE, ↓evSs, ↓evS, ↓evX, ↓evL, ↓evOs, ↓evBs, ↓evP, ↓evI, ↓asO_pk, ↓asO_var, ↓asO_con, ↓asO_glb, ↓asO_bin, ↓asO_neg, ↓asO_ife, ↓asO_tup, ↓asO_lst, ↓asO_idx, ↓asO_slc, ↓asO_rev, ↓asO_call, ↓asO_bi, ↓asO_join, ↓asO_pop, ↓asO_sset, ↓asO_cmp, ↓Res.bind, ↓asB, ↓asI, ↓asS, ↓asD, ↓Res.opt, ↓two, ↓resO, ↓S.get, ↓S.put, ↓S.put?, ↓asgT, ↓asgTs, ↓RX.dat, ↓obind_eq, ↓omap_eq, and_merge, or_merge, and_mergeB, or_mergeB, isiD, cmpD, lenD, binD, idxD, biD, nonD, atI_0, atI_1, atI_2, List.length_cons, List.length_nil, List.map_cons, List.map_nil, List.append_eq, List.cons_append, List.nil_append, List.getElem?_cons_zero, List.getElem?_cons_succ, List.getElem?_nil, List.mapM_cons, List.mapM_nil, Option.pure_def, Option.bind_eq_bind, id_eq, Bool.false_eq_true, List.foldl_cons, List.foldl_nil, ↓frzS, h1', namesIn, h1, namesD]
  | _ => simp [fn_names_in, runFn_eq, finR_rt, finR_nx, finR_ite, ↓startE, ↓evSs, ↓evS, ↓evX, ↓evL, ↓evOs, ↓evBs, ↓evP, ↓evI, ↓asO_pk, ↓asO_var, ↓asO_con, ↓asO_glb, ↓asO_bin, ↓asO_neg, ↓asO_ife, ↓asO_tup, ↓asO_lst, ↓asO_idx, ↓asO_slc, ↓asO_rev, ↓asO_call, ↓asO_bi, ↓asO_join, ↓asO_pop, ↓asO_sset, ↓asO_cmp, ↓Res.bind, ↓asB, ↓asI, ↓asS, ↓asD, ↓Res.opt, ↓two, ↓resO, ↓S.get, ↓S.put, ↓S.put?, ↓asgT, ↓asgTs, ↓RX.dat, ↓obind_eq, ↓omap_eq, and_merge, or_merge, and_mergeB, or_mergeB, isiD, cmpD, lenD, binD, idxD, biD, nonD, atI_0, atI_1, atI_2, List.length_cons, List.length_nil, List.map_cons, List.map_nil, List.append_eq, List.cons_append, List.nil_append, List.getElem?_cons_zero, List.getElem?_cons_succ, List.getElem?_nil, List.mapM_cons, List.mapM_nil, Option.pure_def, Option.bind_eq_bind, id_eq, Bool.false_eq_true, List.foldl_cons, List.foldl_nil, ↓frzS, namesIn, namesD, fitD] at h ⊢
end DE
end

section
set_option Elab.async false
set_option linter.all false
set_option maxRecDepth 100000
set_option maxHeartbeats 2000000
namespace DE
open PySem L2
def allTup (p : D → Bool) (x : D) : Bool := match x with
  | .tup xs => xs.all p
  | _ => false
def isKernelD (x : D) : Bool := match x with
  | .tup [ts, ls, d] => withinD d 1 3 && (match namesIn ts 6, namesIn ls 4 with
    | some ns, some ks => allTup isLockD ls && allTup (fun t => isTaskD t ns ks) ts
    | _, _ => false)
  | _ => false
def HI (C : Ctx) (i : Nat) : Prop := ∀ (x : D) (most : Nat) (st : Store), fitD x = true → most ≤ 100 → C.call i [x, .int most] st = some (namesD (namesIn x most), st)
def HL (C : Ctx) (i : Nat) : Prop := ∀ (x : D) (st : Store), fitD x = true → C.call i [x] st = some (.bl (isLockD x), st)
def HT' (C : Ctx) (i : Nat) : Prop := ∀ (x : D) (ns ls : List Str) (st : Store), fitD x = true → C.call i [x, .lst (ns.map D.str), .lst (ls.map D.str)] st = some (.bl (isTaskD x ns ls), st)
theorem namesIn_tup {x : D} {most : Nat} {ns : List Str} (h : namesIn x most = some ns) : ∃ xs, x = .tup xs ∧ xs.length ≤ most := by
  unfold namesIn at h
  split at h
  · rename_i xs
    split at h
    · rename_i q
      exact ⟨xs, rfl, q.1⟩
    · cases h
  · cases h
theorem is_kernel_ok {C : Ctx} {i_w i_i i_l i_t : Nat} {x : D} {st : Store} (hw : HW C i_w) (hi : HI C i_i) (hl : HL C i_l) (ht : HT' C i_t) (h : fitD x = true) :
    runFn C (fn_is_kernel i_w i_i i_l i_t) [x] st = some (.bl (isKernelD x), st) := by
  cases x with
  | tup xs =>
    simp only [fitD] at h
    match xs, h with
    | [], _ => simp [fn_is_kernel, runFn_eq, finR_rt, finR_nx, finR_ite, ↓startE, ↓evSs, ↓evS, ↓evX, ↓evL, ↓evOs, ↓evBs, ↓evP, ↓evI, ↓asO_pk, ↓asO_var, ↓asO_con, ↓asO_glb, ↓asO_bin, ↓asO_neg, ↓asO_ife, ↓asO_tup, ↓asO_lst, ↓asO_idx, ↓asO_slc, ↓asO_rev, ↓asO_call, ↓asO_bi, ↓asO_join, ↓asO_pop, ↓asO_sset, ↓asO_cmp, ↓Res.bind, ↓asB, ↓asI, ↓asS, ↓asD, ↓Res.opt, ↓two, ↓resO, ↓S.get, ↓S.put, ↓S.put?, ↓asgT, ↓asgTs, ↓RX.dat, ↓obind_eq, ↓omap_eq, and_merge, or_merge, and_mergeB, or_mergeB, isiD, cmpD, lenD, binD, idxD, biD, nonD, atI_0, atI_1, atI_2, List.length_cons, List.length_nil, List.map_cons, List.map_nil, List.append_eq, List.cons_append, List.nil_append, List.getElem?_cons_zero, List.getElem?_cons_succ, List.getElem?_nil, List.mapM_cons, List.mapM_nil, Option.pure_def, Option.bind_eq_bind, id_eq, Bool.false_eq_true, List.foldl_cons, List.foldl_nil, ↓frzS, cmpOk_int, eqD_int, isKernelD]
    | [a], _ => simp [fn_is_kernel, runFn_eq, finR_rt, finR_nx, finR_ite, ↓startE, ↓evSs, ↓evS, ↓evX, ↓evL, ↓evOs, ↓evBs, ↓evP, ↓evI, ↓asO_pk, ↓asO_var, ↓asO_con, ↓asO_glb, ↓asO_bin, ↓asO_neg, ↓asO_ife, ↓asO_tup, ↓asO_lst, ↓asO_idx, ↓asO_slc, ↓asO_rev, ↓asO_call, ↓asO_bi, ↓asO_join, ↓asO_pop, ↓asO_sset, ↓asO_cmp, ↓Res.bind, ↓asB, ↓asI, ↓asS, ↓asD, ↓Res.opt, ↓two, ↓resO, ↓S.get, ↓S.put, ↓S.put?, ↓asgT, ↓asgTs, ↓RX.dat, ↓obind_eq, ↓omap_eq, and_merge, or_merge, and_mergeB, or_mergeB, isiD, cmpD, lenD, binD, idxD, biD, nonD, atI_0, atI_1, atI_2, List.length_cons, List.length_nil, List.map_cons, List.map_nil, List.append_eq, List.cons_append, List.nil_append, List.getElem?_cons_zero, List.getElem?_cons_succ, List.getElem?_nil, List.mapM_cons, List.mapM_nil, Option.pure_def, Option.bind_eq_bind, id_eq, Bool.false_eq_true, List.foldl_cons, List.foldl_nil, ↓frzS, cmpOk_int, eqD_int, isKernelD]
    | [a, b], _ => simp [fn_is_kernel, runFn_eq, finR_rt, finR_nx, finR_ite, ↓startE, ↓evSs, ↓evS, ↓evX, ↓evL, ↓evOs, ↓evBs, ↓evP, ↓evI, ↓asO_pk, ↓asO_var, ↓asO_con, ↓asO_glb, ↓asO_bin, ↓asO_neg, ↓asO_ife, ↓asO_tup, ↓asO_lst, ↓asO_idx, ↓asO_slc, ↓asO_rev, ↓asO_call, ↓asO_bi, ↓asO_join, ↓asO_pop, ↓asO_sset, ↓asO_cmp, ↓Res.bind, ↓asB, ↓asI, ↓asS, ↓asD, ↓Res.opt, ↓two, ↓resO, ↓S.get, ↓S.put, ↓S.put?, ↓asgT, ↓asgTs, ↓RX.dat, ↓obind_eq, ↓omap_eq, and_merge, or_merge, and_mergeB, or_mergeB, isiD, cmpD, lenD, binD, idxD, biD, nonD, atI_0, atI_1, atI_2, List.length_cons, List.length_nil, List.map_cons, List.map_nil, List.append_eq, List.cons_append, List.nil_append, List.getElem?_cons_zero, List.getElem?_cons_succ, List.getElem?_nil, List.mapM_cons, List.mapM_nil, Option.pure_def, Option.bind_eq_bind, id_eq, Bool.false_eq_true, List.foldl_cons, List.foldl_nil, ↓frzS, cmpOk_int, eqD_int, isKernelD]
    | a :: b :: c :: d :: r, _ =>
      have : ¬ ((r.length : Int) + 1 + 1 + 1 + 1 = 3) := by omega
      simp [fn_is_kernel, runFn_eq, finR_rt, finR_nx, finR_ite, ↓startE, ↓evSs, ↓evS, ↓evX, ↓evL, ↓evOs, ↓evBs, ↓evP, ↓evI, ↓asO_pk, ↓asO_var, ↓asO_con, ↓asO_glb, ↓asO_bin, ↓asO_neg, ↓asO_ife, ↓asO_tup, ↓asO_lst, ↓asO_idx, ↓asO_slc, ↓asO_rev, ↓asO_call, ↓asO_bi, ↓asO_join, ↓asO_pop, ↓asO_sset, ↓asO_cmp, ↓Res.bind, ↓asB, ↓asI, ↓asS, ↓asD, ↓Res.opt, ↓two, ↓resO, ↓S.get, ↓S.put, ↓S.put?, ↓asgT, ↓asgTs, ↓RX.dat, ↓obind_eq, ↓omap_eq, and_merge, or_merge, and_mergeB, or_mergeB, isiD, cmpD, lenD, binD, idxD, biD, nonD, atI_0, atI_1, atI_2, List.length_cons, List.length_nil, List.map_cons, List.map_nil, List.append_eq, List.cons_append, List.nil_append, List.getElem?_cons_zero, List.getElem?_cons_succ, List.getElem?_nil, List.mapM_cons, List.mapM_nil, Option.pure_def, Option.bind_eq_bind, id_eq, Bool.false_eq_true, List.foldl_cons, List.foldl_nil, ↓frzS, cmpOk_int, eqD_int, isKernelD, this]
    | [ts, ls, d], h =>
      have f1 := fits_mem h ts (by simp)
      have f2 := fits_mem h ls (by simp)
      have h1 := fun lo hi st => hw d lo hi st (fit_py (fits_mem h d (by simp)))
      have h2 : ∀ st, C.call i_i [ts, .int 6] st = some (namesD (namesIn ts 6), st) := fun st => hi ts 6 st f1 (by omega)
      have h3 : ∀ st, C.call i_i [ls, .int 4] st = some (namesD (namesIn ls 4), st) := fun st => hi ls 4 st f2 (by omega)
      cases q1 : withinD d 1 3 with
      | false => simp [fn_is_kernel, runFn_eq, finR_rt, finR_nx, finR_ite, ↓startE, ↓evSs, ↓evS, ↓evX, ↓evL, ↓evOs, ↓evBs, ↓evP, ↓evI, ↓asO_pk, ↓asO_var, ↓asO_con, ↓asO_glb, ↓asO_bin, ↓asO_neg, ↓asO_ife, ↓asO_tup, ↓asO_lst, ↓asO_idx, ↓asO_slc, ↓asO_rev, ↓asO_call, ↓asO_bi, ↓asO_join, ↓asO_pop, ↓asO_sset, ↓asO_cmp, ↓Res.bind, ↓asB, ↓asI, ↓asS, ↓asD, ↓Res.opt, ↓two, ↓resO, ↓S.get, ↓S.put, ↓S.put?, ↓asgT, ↓asgTs, ↓RX.dat, ↓obind_eq, ↓omap_eq, and_merge, or_merge, and_mergeB, or_mergeB, isiD, cmpD, lenD, binD, idxD, biD, nonD, atI_0, atI_1, atI_2, List.length_cons, List.length_nil, List.map_cons, List.map_nil, List.append_eq, List.cons_append, List.nil_append, List.getElem?_cons_zero, List.getElem?_cons_succ, List.getElem?_nil, List.mapM_cons, List.mapM_nil, Option.pure_def, Option.bind_eq_bind, id_eq, Bool.false_eq_true, List.foldl_cons, List.foldl_nil, ↓frzS, cmpOk_int, eqD_int, isKernelD, h1, q1]
      | true =>
      cases q2 : namesIn ts 6 with
      | none =>
        cases q3 : namesIn ls 4 <;> simp [fn_is_kernel, runFn_eq, finR_rt, finR_nx, finR_ite, ↓startE, ↓evSs, ↓evS, ↓evX, ↓evL, ↓evOs, ↓evBs, ↓evP, ↓evI, ↓asO_pk, ↓asO_var, ↓asO_con, ↓asO_glb, ↓asO_bin, ↓asO_neg, ↓asO_ife, ↓asO_tup, ↓asO_lst, ↓asO_idx, ↓asO_slc, ↓asO_rev, ↓asO_call, ↓asO_bi, ↓asO_join, ↓asO_pop, ↓asO_sset, ↓asO_cmp, ↓Res.bind, ↓asB, ↓asI, ↓asS, ↓asD, ↓Res.opt, ↓two, ↓resO, ↓S.get, ↓S.put, ↓S.put?, ↓asgT, ↓asgTs, ↓RX.dat, ↓obind_eq, ↓omap_eq, and_merge, or_merge, and_mergeB, or_mergeB, isiD, cmpD, lenD, binD, idxD, biD, nonD, atI_0, atI_1, atI_2, List.length_cons, List.length_nil, List.map_cons, List.map_nil, List.append_eq, List.cons_append, List.nil_append, List.getElem?_cons_zero, List.getElem?_cons_succ, List.getElem?_nil, List.mapM_cons, List.mapM_nil, Option.pure_def, Option.bind_eq_bind, id_eq, Bool.false_eq_true, List.foldl_cons, List.foldl_nil, ↓frzS, cmpOk_int, eqD_int, isKernelD, h1, q1, h2, q2, h3, q3, namesD]
      | some ns =>
      cases q3 : namesIn ls 4 with
      | none => simp [fn_is_kernel, runFn_eq, finR_rt, finR_nx, finR_ite, ↓startE, ↓evSs, ↓evS, ↓evX, ↓evL, ↓evOs, ↓evBs, ↓evP, ↓evI, ↓asO_pk, ↓asO_var, ↓asO_con, ↓asO_glb, ↓asO_bin, ↓asO_neg, ↓asO_ife, ↓asO_tup, ↓asO_lst, ↓asO_idx, ↓asO_slc, ↓asO_rev, ↓asO_call, ↓asO_bi, ↓asO_join, ↓asO_pop, ↓asO_sset, ↓asO_cmp, ↓Res.bind, ↓asB, ↓asI, ↓asS, ↓asD, ↓Res.opt, ↓two, ↓resO, ↓S.get, ↓S.put, ↓S.put?, ↓asgT, ↓asgTs, ↓RX.dat, ↓obind_eq, ↓omap_eq, and_merge, or_merge, and_mergeB, or_mergeB, isiD, cmpD, lenD, binD, idxD, biD, nonD, atI_0, atI_1, atI_2, List.length_cons, List.length_nil, List.map_cons, List.map_nil, List.append_eq, List.cons_append, List.nil_append, List.getElem?_cons_zero, List.getElem?_cons_succ, List.getElem?_nil, List.mapM_cons, List.mapM_nil, Option.pure_def, Option.bind_eq_bind, id_eq, Bool.false_eq_true, List.foldl_cons, List.foldl_nil, ↓frzS, cmpOk_int, eqD_int, isKernelD, h1, q1, h2, q2, h3, q3, namesD]
      | some ks =>
      obtain ⟨t, rfl, l1⟩ := namesIn_tup q2
      obtain ⟨l, rfl, l2⟩ := namesIn_tup q3
      simp only [fitD] at f1 f2
      have hc : ∀ a b, evX C (ce_is_kernel_0 i_w i_i i_l i_t) ⟨[some (.val (.tup [.tup t, .tup l, d])), a, b, none, none], st⟩ = .ok (.fr (l.map fun x => D.bl (isLockD x))) ⟨[some (.val (.tup [.tup t, .tup l, d])), a, b, none, none], st⟩ := by
        intro a b
        unfold ce_is_kernel_0
        rw [ev_comp_pure (xs := l) (fun _ => true) (fun x => D.bl (isLockD x))]
        · rw [List.filter_eq_self.mpr (by simp)]
        · simp [runFn_eq, finR_rt, finR_nx, finR_ite, ↓startE, ↓evSs, ↓evS, ↓evX, ↓evL, ↓evOs, ↓evBs, ↓evP, ↓evI, ↓asO_pk, ↓asO_var, ↓asO_con, ↓asO_glb, ↓asO_bin, ↓asO_neg, ↓asO_ife, ↓asO_tup, ↓asO_lst, ↓asO_idx, ↓asO_slc, ↓asO_rev, ↓asO_call, ↓asO_bi, ↓asO_join, ↓asO_pop, ↓asO_sset, ↓asO_cmp, ↓Res.bind, ↓asB, ↓asI, ↓asS, ↓asD, ↓Res.opt, ↓two, ↓resO, ↓S.get, ↓S.put, ↓S.put?, ↓asgT, ↓asgTs, ↓RX.dat, ↓obind_eq, ↓omap_eq, and_merge, or_merge, and_mergeB, or_mergeB, isiD, cmpD, lenD, binD, idxD, biD, nonD, atI_0, atI_1, atI_2, List.length_cons, List.length_nil, List.map_cons, List.map_nil, List.append_eq, List.cons_append, List.nil_append, List.getElem?_cons_zero, List.getElem?_cons_succ, List.getElem?_nil, List.mapM_cons, List.mapM_nil, Option.pure_def, Option.bind_eq_bind, id_eq, Bool.false_eq_true, List.foldl_cons, List.foldl_nil, ↓frzS, seqD]
        · rw [sizeLine_eq]; omega
        · intro x hx
          refine compPure_id rfl rfl rfl fun _ => ?_
          simp [el_is_kernel_0, runFn_eq, finR_rt, finR_nx, finR_ite, ↓startE, ↓evSs, ↓evS, ↓evX, ↓evL, ↓evOs, ↓evBs, ↓evP, ↓evI, ↓asO_pk, ↓asO_var, ↓asO_con, ↓asO_glb, ↓asO_bin, ↓asO_neg, ↓asO_ife, ↓asO_tup, ↓asO_lst, ↓asO_idx, ↓asO_slc, ↓asO_rev, ↓asO_call, ↓asO_bi, ↓asO_join, ↓asO_pop, ↓asO_sset, ↓asO_cmp, ↓Res.bind, ↓asB, ↓asI, ↓asS, ↓asD, ↓Res.opt, ↓two, ↓resO, ↓S.get, ↓S.put, ↓S.put?, ↓asgT, ↓asgTs, ↓RX.dat, ↓obind_eq, ↓omap_eq, and_merge, or_merge, and_mergeB, or_mergeB, isiD, cmpD, lenD, binD, idxD, biD, nonD, atI_0, atI_1, atI_2, List.length_cons, List.length_nil, List.map_cons, List.map_nil, List.append_eq, List.cons_append, List.nil_append, List.getElem?_cons_zero, List.getElem?_cons_succ, List.getElem?_nil, List.mapM_cons, List.mapM_nil, Option.pure_def, Option.bind_eq_bind, id_eq, Bool.false_eq_true, List.foldl_cons, List.foldl_nil, ↓frzS, compEnv, wipeE, roS, hl x st (fits_mem f2 x hx)]
      have ha := fun a b => as_np (e := ce_is_kernel_0 i_w i_i i_l i_t) rfl (hc a b)
      have hc2 : evX C (ce_is_kernel_1 i_w i_i i_l i_t) ⟨[some (.val (.tup [.tup t, .tup l, d])), some (.val (.lst (ns.map D.str))), some (.val (.lst (ks.map D.str))), none, none], st⟩ = .ok (.fr (t.map fun x => D.bl (isTaskD x ns ks))) ⟨[some (.val (.tup [.tup t, .tup l, d])), some (.val (.lst (ns.map D.str))), some (.val (.lst (ks.map D.str))), none, none], st⟩ := by
        unfold ce_is_kernel_1
        rw [ev_comp_pure (xs := t) (fun _ => true) (fun x => D.bl (isTaskD x ns ks))]
        · rw [List.filter_eq_self.mpr (by simp)]
        · simp [runFn_eq, finR_rt, finR_nx, finR_ite, ↓startE, ↓evSs, ↓evS, ↓evX, ↓evL, ↓evOs, ↓evBs, ↓evP, ↓evI, ↓asO_pk, ↓asO_var, ↓asO_con, ↓asO_glb, ↓asO_bin, ↓asO_neg, ↓asO_ife, ↓asO_tup, ↓asO_lst, ↓asO_idx, ↓asO_slc, ↓asO_rev, ↓asO_call, ↓asO_bi, ↓asO_join, ↓asO_pop, ↓asO_sset, ↓asO_cmp, ↓Res.bind, ↓asB, ↓asI, ↓asS, ↓asD, ↓Res.opt, ↓two, ↓resO, ↓S.get, ↓S.put, ↓S.put?, ↓asgT, ↓asgTs, ↓RX.dat, ↓obind_eq, ↓omap_eq, and_merge, or_merge, and_mergeB, or_mergeB, isiD, cmpD, lenD, binD, idxD, biD, nonD, atI_0, atI_1, atI_2, List.length_cons, List.length_nil, List.map_cons, List.map_nil, List.append_eq, List.cons_append, List.nil_append, List.getElem?_cons_zero, List.getElem?_cons_succ, List.getElem?_nil, List.mapM_cons, List.mapM_nil, Option.pure_def, Option.bind_eq_bind, id_eq, Bool.false_eq_true, List.foldl_cons, List.foldl_nil, ↓frzS, seqD]
        · rw [sizeLine_eq]; omega
        · intro x hx
          refine compPure_id rfl rfl rfl fun _ => ?_
          simp [el_is_kernel_1, runFn_eq, finR_rt, finR_nx, finR_ite, ↓startE, ↓evSs, ↓evS, ↓evX, ↓evL, ↓evOs, ↓evBs, ↓evP, ↓evI, ↓asO_pk, ↓asO_var, ↓asO_con, ↓asO_glb, ↓asO_bin, ↓asO_neg, ↓asO_ife, ↓asO_tup, ↓asO_lst, ↓asO_idx, ↓asO_slc, ↓asO_rev, ↓asO_call, ↓asO_bi, ↓asO_join, ↓asO_pop, ↓asO_sset, ↓asO_cmp, ↓Res.bind, ↓asB, ↓asI, ↓asS, ↓asD, ↓Res.opt, ↓two, ↓resO, ↓S.get, ↓S.put, ↓S.put?, ↓asgT, ↓asgTs, ↓RX.dat, ↓obind_eq, ↓omap_eq, and_merge, or_merge, and_mergeB, or_mergeB, isiD, cmpD, lenD, binD, idxD, biD, nonD, atI_0, atI_1, atI_2, List.length_cons, List.length_nil, List.map_cons, List.map_nil, List.append_eq, List.cons_append, List.nil_append, List.getElem?_cons_zero, List.getElem?_cons_succ, List.getElem?_nil, List.mapM_cons, List.mapM_nil, Option.pure_def, Option.bind_eq_bind, id_eq, Bool.false_eq_true, List.foldl_cons, List.foldl_nil, ↓frzS, compEnv, wipeE, roS, ht x ns ks st (fits_mem f1 x hx)]
      have ha2 := as_np (e := ce_is_kernel_1 i_w i_i i_l i_t) rfl hc2
      have e1 : (l.map isLockD).all id = l.all isLockD := by rw [List.all_map]; rfl
      have e2 : (t.map fun x => isTaskD x ns ks).all id = t.all fun x => isTaskD x ns ks := by rw [List.all_map]; rfl
      cases q4 : l.all isLockD with
      | false =>
        rw [q4] at e1
        simp [fn_is_kernel, runFn_eq, finR_rt, finR_nx, finR_ite, ↓startE, ↓evSs, ↓evS, ↓evX, ↓evL, ↓evOs, ↓evBs, ↓evP, ↓evI, ↓asO_pk, ↓asO_var, ↓asO_con, ↓asO_glb, ↓asO_bin, ↓asO_neg, ↓asO_ife, ↓asO_tup, ↓asO_lst, ↓asO_idx, ↓asO_slc, ↓asO_rev, ↓asO_call, ↓asO_bi, ↓asO_join, ↓asO_pop, ↓asO_sset, ↓asO_cmp, ↓Res.bind, ↓asB, ↓asI, ↓asS, ↓asD, ↓Res.opt, ↓two, ↓resO, ↓S.get, ↓S.put, ↓S.put?, ↓asgT, ↓asgTs, ↓RX.dat, ↓obind_eq, ↓omap_eq, and_merge, or_merge, and_mergeB, or_mergeB, isiD, cmpD, lenD, binD, idxD, biD, nonD, atI_0, atI_1, atI_2, List.length_cons, List.length_nil, List.map_cons, List.map_nil, List.append_eq, List.cons_append, List.nil_append, List.getElem?_cons_zero, List.getElem?_cons_succ, List.getElem?_nil, List.mapM_cons, List.mapM_nil, Option.pure_def, Option.bind_eq_bind, id_eq, Bool.false_eq_true, List.foldl_cons, List.foldl_nil, ↓frzS, cmpOk_int, eqD_int, isKernelD, h1, q1, h2, q2, h3, q3, namesD, ha, blsD_all, e1, allTup, q4]
      | true =>
        rw [q4] at e1
        simp [fn_is_kernel, runFn_eq, finR_rt, finR_nx, finR_ite, ↓startE, ↓evSs, ↓evS, ↓evX, ↓evL, ↓evOs, ↓evBs, ↓evP, ↓evI, ↓asO_pk, ↓asO_var, ↓asO_con, ↓asO_glb, ↓asO_bin, ↓asO_neg, ↓asO_ife, ↓asO_tup, ↓asO_lst, ↓asO_idx, ↓asO_slc, ↓asO_rev, ↓asO_call, ↓asO_bi, ↓asO_join, ↓asO_pop, ↓asO_sset, ↓asO_cmp, ↓Res.bind, ↓asB, ↓asI, ↓asS, ↓asD, ↓Res.opt, ↓two, ↓resO, ↓S.get, ↓S.put, ↓S.put?, ↓asgT, ↓asgTs, ↓RX.dat, ↓obind_eq, ↓omap_eq, and_merge, or_merge, and_mergeB, or_mergeB, isiD, cmpD, lenD, binD, idxD, biD, nonD, atI_0, atI_1, atI_2, List.length_cons, List.length_nil, List.map_cons, List.map_nil, List.append_eq, List.cons_append, List.nil_append, List.getElem?_cons_zero, List.getElem?_cons_succ, List.getElem?_nil, List.mapM_cons, List.mapM_nil, Option.pure_def, Option.bind_eq_bind, id_eq, Bool.false_eq_true, List.foldl_cons, List.foldl_nil, ↓frzS, cmpOk_int, eqD_int, isKernelD, h1, q1, h2, q2, h3, q3, namesD, ha, blsD_all, e1, allTup, q4, ha2, e2]
  | _ => simp [fn_is_kernel, runFn_eq, finR_rt, finR_nx, finR_ite, ↓startE, ↓evSs, ↓evS, ↓evX, ↓evL, ↓evOs, ↓evBs, ↓evP, ↓evI, ↓asO_pk, ↓asO_var, ↓asO_con, ↓asO_glb, ↓asO_bin, ↓asO_neg, ↓asO_ife, ↓asO_tup, ↓asO_lst, ↓asO_idx, ↓asO_slc, ↓asO_rev, ↓asO_call, ↓asO_bi, ↓asO_join, ↓asO_pop, ↓asO_sset, ↓asO_cmp, ↓Res.bind, ↓asB, ↓asI, ↓asS, ↓asD, ↓Res.opt, ↓two, ↓resO, ↓S.get, ↓S.put, ↓S.put?, ↓asgT, ↓asgTs, ↓RX.dat, ↓obind_eq, ↓omap_eq, and_merge, or_merge, and_mergeB, or_mergeB, isiD, cmpD, lenD, binD, idxD, biD, nonD, atI_0, atI_1, atI_2, List.length_cons, List.length_nil, List.map_cons, List.map_nil, List.append_eq, List.cons_append, List.nil_append, List.getElem?_cons_zero, List.getElem?_cons_succ, List.getElem?_nil, List.mapM_cons, List.mapM_nil, Option.pure_def, Option.bind_eq_bind, id_eq, Bool.false_eq_true, List.foldl_cons, List.foldl_nil, ↓frzS, isKernelD, fitD] at h ⊢
end DE
end

section
set_option Elab.async false
set_option linter.all false
set_option maxRecDepth 100000
set_option maxHeartbeats 2000000
namespace DE
open PySem L2
def notLow (x : D) : Bool := match x with
  | .str y => !(!(Builtin.Str.occurrences letters y 0 letters.length 1).isEmpty)
  | _ => false
theorem notLow_one (c : Nat) : notLow (.str ⟨#[c]⟩) = !isLow c := by
  unfold notLow
  exact congrArg not (in_letters c)
theorem low_empty : ∀ cs : List Nat, ((cs.map fun c => D.str ⟨#[c]⟩).filter notLow).isEmpty = cs.all isLow
  | [] => rfl
  | c :: r => by
    have ih := low_empty r
    simp only [List.map_cons, List.filter_cons, List.all_cons, notLow_one]
    cases isLow c
    · rfl
    · simpa using ih
theorem strs_py (cs : List Nat) : isPys ((cs.map fun c => D.str ⟨#[c]⟩).filter notLow) = true := by
  apply isPys_of
  intro x hx
  obtain ⟨c, _, rfl⟩ := List.mem_map.mp (List.mem_filter.mp hx).1
  rfl
theorem law_is_name_ok {C : Ctx} {x : D} {st : Store} (h : fitD x = true) : runFn C fn__law_is_name [x] st = some (.bl (isNameD x), st) := by
  cases x with
  | str z =>
    have hz : z.length ≤ sizeLine := by simpa [fitD] using h
    have hc : evX C ce__law_is_name_0 ⟨[some (.val (.str z)), none, none], st⟩ = .ok (.fr (((z.cps.toList.map fun c => D.str ⟨#[c]⟩).filter notLow).map fun x => x)) ⟨[some (.val (.str z)), none, none], st⟩ := by
      unfold ce__law_is_name_0
      rw [ev_comp_pure (xs := z.cps.toList.map fun c => D.str ⟨#[c]⟩) notLow (fun x => x)]
      · simp [runFn_eq, finR_rt, finR_nx, finR_ite, ↓startE, ↓evSs, ↓evS, ↓evX, ↓evL, ↓evOs, ↓evBs, ↓evP, ↓evI, ↓asO_pk, ↓asO_var, ↓asO_con, ↓asO_glb, ↓asO_bin, ↓asO_neg, ↓asO_ife, ↓asO_tup, ↓asO_lst, ↓asO_idx, ↓asO_slc, ↓asO_rev, ↓asO_call, ↓asO_bi, ↓asO_join, ↓asO_pop, ↓asO_sset, ↓asO_cmp, ↓Res.bind, ↓asB, ↓asI, ↓asS, ↓asD, ↓Res.opt, ↓two, ↓resO, ↓S.get, ↓S.put, ↓S.put?, ↓asgT, ↓asgTs, ↓RX.dat, ↓obind_eq, ↓omap_eq, and_merge, or_merge, and_mergeB, or_mergeB, isiD, cmpD, lenD, binD, idxD, biD, nonD, atI_0, atI_1, atI_2, List.length_cons, List.length_nil, List.map_cons, List.map_nil, List.append_eq, List.cons_append, List.nil_append, List.getElem?_cons_zero, List.getElem?_cons_succ, List.getElem?_nil, List.mapM_cons, List.mapM_nil, Option.pure_def, Option.bind_eq_bind, id_eq, Bool.false_eq_true, List.foldl_cons, List.foldl_nil, ↓frzS, seqD]
      · rw [strs_all]; exact hz
      · intro x hx
        obtain ⟨c, _, rfl⟩ := List.mem_map.mp hx
        exact compPure_id rfl rfl rfl fun _ => rfl
    have ha := as_np (e := ce__law_is_name_0) rfl hc
    have e0 := low_empty z.cps.toList
    have e1 := strs_py z.cps.toList
    generalize ((z.cps.toList.map fun c => D.str ⟨#[c]⟩).filter notLow) = ys at ha e0 e1
    rw [List.map_id'] at ha
    have e2 := cmpOk_lst0 e1
    simp only [RX.dat] at ha
    have e3 : isNameD (.str z) = (decide (1 ≤ z.length) && decide (z.length ≤ 8) && ys.isEmpty) := by rw [e0]; rfl
    by_cases h1 : (z.length : Int) < 1
    · have q1 : ¬ 1 ≤ z.length := by omega
      simp [fn__law_is_name, runFn_eq, finR_rt, finR_nx, finR_ite, ↓startE, ↓evSs, ↓evS, ↓evX, ↓evL, ↓evOs, ↓evBs, ↓evP, ↓evI, ↓asO_pk, ↓asO_var, ↓asO_con, ↓asO_glb, ↓asO_bin, ↓asO_neg, ↓asO_ife, ↓asO_tup, ↓asO_lst, ↓asO_idx, ↓asO_slc, ↓asO_rev, ↓asO_call, ↓asO_bi, ↓asO_join, ↓asO_pop, ↓asO_sset, ↓asO_cmp, ↓Res.bind, ↓asB, ↓asI, ↓asS, ↓asD, ↓Res.opt, ↓two, ↓resO, ↓S.get, ↓S.put, ↓S.put?, ↓asgT, ↓asgTs, ↓RX.dat, ↓obind_eq, ↓omap_eq, and_merge, or_merge, and_mergeB, or_mergeB, isiD, cmpD, lenD, binD, idxD, biD, nonD, atI_0, atI_1, atI_2, List.length_cons, List.length_nil, List.map_cons, List.map_nil, List.append_eq, List.cons_append, List.nil_append, List.getElem?_cons_zero, List.getElem?_cons_succ, List.getElem?_nil, List.mapM_cons, List.mapM_nil, Option.pure_def, Option.bind_eq_bind, id_eq, Bool.false_eq_true, List.foldl_cons, List.foldl_nil, ↓frzS, hz, ha, h1, e3, q1]
    · have q1 : 1 ≤ z.length := by omega
      by_cases h2 : (8 : Int) < z.length
      · have q2 : ¬ z.length ≤ 8 := by omega
        simp [fn__law_is_name, runFn_eq, finR_rt, finR_nx, finR_ite, ↓startE, ↓evSs, ↓evS, ↓evX, ↓evL, ↓evOs, ↓evBs, ↓evP, ↓evI, ↓asO_pk, ↓asO_var, ↓asO_con, ↓asO_glb, ↓asO_bin, ↓asO_neg, ↓asO_ife, ↓asO_tup, ↓asO_lst, ↓asO_idx, ↓asO_slc, ↓asO_rev, ↓asO_call, ↓asO_bi, ↓asO_join, ↓asO_pop, ↓asO_sset, ↓asO_cmp, ↓Res.bind, ↓asB, ↓asI, ↓asS, ↓asD, ↓Res.opt, ↓two, ↓resO, ↓S.get, ↓S.put, ↓S.put?, ↓asgT, ↓asgTs, ↓RX.dat, ↓obind_eq, ↓omap_eq, and_merge, or_merge, and_mergeB, or_mergeB, isiD, cmpD, lenD, binD, idxD, biD, nonD, atI_0, atI_1, atI_2, List.length_cons, List.length_nil, List.map_cons, List.map_nil, List.append_eq, List.cons_append, List.nil_append, List.getElem?_cons_zero, List.getElem?_cons_succ, List.getElem?_nil, List.mapM_cons, List.mapM_nil, Option.pure_def, Option.bind_eq_bind, id_eq, Bool.false_eq_true, List.foldl_cons, List.foldl_nil, ↓frzS, hz, ha, h1, h2, e3, q2]
      · have q2 : z.length ≤ 8 := by omega
        simp [fn__law_is_name, runFn_eq, finR_rt, finR_nx, finR_ite, ↓startE, ↓evSs, ↓evS, ↓evX, ↓evL, ↓evOs, ↓evBs, ↓evP, ↓evI, ↓asO_pk, ↓asO_var, ↓asO_con, ↓asO_glb, ↓asO_bin, ↓asO_neg, ↓asO_ife, ↓asO_tup, ↓asO_lst, ↓asO_idx, ↓asO_slc, ↓asO_rev, ↓asO_call, ↓asO_bi, ↓asO_join, ↓asO_pop, ↓asO_sset, ↓asO_cmp, ↓Res.bind, ↓asB, ↓asI, ↓asS, ↓asD, ↓Res.opt, ↓two, ↓resO, ↓S.get, ↓S.put, ↓S.put?, ↓asgT, ↓asgTs, ↓RX.dat, ↓obind_eq, ↓omap_eq, and_merge, or_merge, and_mergeB, or_mergeB, isiD, cmpD, lenD, binD, idxD, biD, nonD, atI_0, atI_1, atI_2, List.length_cons, List.length_nil, List.map_cons, List.map_nil, List.append_eq, List.cons_append, List.nil_append, List.getElem?_cons_zero, List.getElem?_cons_succ, List.getElem?_nil, List.mapM_cons, List.mapM_nil, Option.pure_def, Option.bind_eq_bind, id_eq, Bool.false_eq_true, List.foldl_cons, List.foldl_nil, ↓frzS, hz, ha, h1, h2, e3, q1, q2, e2, eqD_lst0]
  | _ => simp [fn__law_is_name, runFn_eq, finR_rt, finR_nx, finR_ite, ↓startE, ↓evSs, ↓evS, ↓evX, ↓evL, ↓evOs, ↓evBs, ↓evP, ↓evI, ↓asO_pk, ↓asO_var, ↓asO_con, ↓asO_glb, ↓asO_bin, ↓asO_neg, ↓asO_ife, ↓asO_tup, ↓asO_lst, ↓asO_idx, ↓asO_slc, ↓asO_rev, ↓asO_call, ↓asO_bi, ↓asO_join, ↓asO_pop, ↓asO_sset, ↓asO_cmp, ↓Res.bind, ↓asB, ↓asI, ↓asS, ↓asD, ↓Res.opt, ↓two, ↓resO, ↓S.get, ↓S.put, ↓S.put?, ↓asgT, ↓asgTs, ↓RX.dat, ↓obind_eq, ↓omap_eq, and_merge, or_merge, and_mergeB, or_mergeB, isiD, cmpD, lenD, binD, idxD, biD, nonD, atI_0, atI_1, atI_2, List.length_cons, List.length_nil, List.map_cons, List.map_nil, List.append_eq, List.cons_append, List.nil_append, List.getElem?_cons_zero, List.getElem?_cons_succ, List.getElem?_nil, List.mapM_cons, List.mapM_nil, Option.pure_def, Option.bind_eq_bind, id_eq, Bool.false_eq_true, List.foldl_cons, List.foldl_nil, ↓frzS, isNameD, fitD] at h ⊢
theorem law_is_step_ok {C : Ctx} {iw : Nat} {x : D} {ns ls : List Str} {st : Store} (hw : HW C iw) (hx : isPy x = true) : runFn C (fn__law_is_step iw) [x, .lst (ns.map D.str), .lst (ls.map D.str)] st = some (.bl (isStepD x ns ls), st) := by
  cases x with
  | tup xs =>
    match xs, hx with
    | [], hx => simp [fn__law_is_step, runFn_eq, finR_rt, finR_nx, finR_ite, ↓startE, ↓evSs, ↓evS, ↓evX, ↓evL, ↓evOs, ↓evBs, ↓evP, ↓evI, ↓asO_pk, ↓asO_var, ↓asO_con, ↓asO_glb, ↓asO_bin, ↓asO_neg, ↓asO_ife, ↓asO_tup, ↓asO_lst, ↓asO_idx, ↓asO_slc, ↓asO_rev, ↓asO_call, ↓asO_bi, ↓asO_join, ↓asO_pop, ↓asO_sset, ↓asO_cmp, ↓Res.bind, ↓asB, ↓asI, ↓asS, ↓asD, ↓Res.opt, ↓two, ↓resO, ↓S.get, ↓S.put, ↓S.put?, ↓asgT, ↓asgTs, ↓RX.dat, ↓obind_eq, ↓omap_eq, and_merge, or_merge, and_mergeB, or_mergeB, isiD, cmpD, lenD, binD, idxD, biD, nonD, atI_0, atI_1, atI_2, List.length_cons, List.length_nil, List.map_cons, List.map_nil, List.append_eq, List.cons_append, List.nil_append, List.getElem?_cons_zero, List.getElem?_cons_succ, List.getElem?_nil, List.mapM_cons, List.mapM_nil, Option.pure_def, Option.bind_eq_bind, id_eq, Bool.false_eq_true, List.foldl_cons, List.foldl_nil, ↓frzS, cmpOk_int, eqD_int, isStepD]
    | [a], hx => simp [fn__law_is_step, runFn_eq, finR_rt, finR_nx, finR_ite, ↓startE, ↓evSs, ↓evS, ↓evX, ↓evL, ↓evOs, ↓evBs, ↓evP, ↓evI, ↓asO_pk, ↓asO_var, ↓asO_con, ↓asO_glb, ↓asO_bin, ↓asO_neg, ↓asO_ife, ↓asO_tup, ↓asO_lst, ↓asO_idx, ↓asO_slc, ↓asO_rev, ↓asO_call, ↓asO_bi, ↓asO_join, ↓asO_pop, ↓asO_sset, ↓asO_cmp, ↓Res.bind, ↓asB, ↓asI, ↓asS, ↓asD, ↓Res.opt, ↓two, ↓resO, ↓S.get, ↓S.put, ↓S.put?, ↓asgT, ↓asgTs, ↓RX.dat, ↓obind_eq, ↓omap_eq, and_merge, or_merge, and_mergeB, or_mergeB, isiD, cmpD, lenD, binD, idxD, biD, nonD, atI_0, atI_1, atI_2, List.length_cons, List.length_nil, List.map_cons, List.map_nil, List.append_eq, List.cons_append, List.nil_append, List.getElem?_cons_zero, List.getElem?_cons_succ, List.getElem?_nil, List.mapM_cons, List.mapM_nil, Option.pure_def, Option.bind_eq_bind, id_eq, Bool.false_eq_true, List.foldl_cons, List.foldl_nil, ↓frzS, cmpOk_int, eqD_int, isStepD]
    | a :: b :: c :: r, hx =>
      have : ¬ ((r.length : Int) + 1 + 1 + 1 = 2) := by omega
      simp [fn__law_is_step, runFn_eq, finR_rt, finR_nx, finR_ite, ↓startE, ↓evSs, ↓evS, ↓evX, ↓evL, ↓evOs, ↓evBs, ↓evP, ↓evI, ↓asO_pk, ↓asO_var, ↓asO_con, ↓asO_glb, ↓asO_bin, ↓asO_neg, ↓asO_ife, ↓asO_tup, ↓asO_lst, ↓asO_idx, ↓asO_slc, ↓asO_rev, ↓asO_call, ↓asO_bi, ↓asO_join, ↓asO_pop, ↓asO_sset, ↓asO_cmp, ↓Res.bind, ↓asB, ↓asI, ↓asS, ↓asD, ↓Res.opt, ↓two, ↓resO, ↓S.get, ↓S.put, ↓S.put?, ↓asgT, ↓asgTs, ↓RX.dat, ↓obind_eq, ↓omap_eq, and_merge, or_merge, and_mergeB, or_mergeB, isiD, cmpD, lenD, binD, idxD, biD, nonD, atI_0, atI_1, atI_2, List.length_cons, List.length_nil, List.map_cons, List.map_nil, List.append_eq, List.cons_append, List.nil_append, List.getElem?_cons_zero, List.getElem?_cons_succ, List.getElem?_nil, List.mapM_cons, List.mapM_nil, Option.pure_def, Option.bind_eq_bind, id_eq, Bool.false_eq_true, List.foldl_cons, List.foldl_nil, ↓frzS, cmpOk_int, eqD_int, isStepD, this]
    | [a, b], hx =>
      have hb : isPy b = true := isPys_mem hx b (by simp)
      have hb2 := fun lo hi st => hw b lo hi st hb
      cases a with
      | str w =>
        by_cases h1 : w = "work"
        · simp [fn__law_is_step, runFn_eq, finR_rt, finR_nx, finR_ite, ↓startE, ↓evSs, ↓evS, ↓evX, ↓evL, ↓evOs, ↓evBs, ↓evP, ↓evI, ↓asO_pk, ↓asO_var, ↓asO_con, ↓asO_glb, ↓asO_bin, ↓asO_neg, ↓asO_ife, ↓asO_tup, ↓asO_lst, ↓asO_idx, ↓asO_slc, ↓asO_rev, ↓asO_call, ↓asO_bi, ↓asO_join, ↓asO_pop, ↓asO_sset, ↓asO_cmp, ↓Res.bind, ↓asB, ↓asI, ↓asS, ↓asD, ↓Res.opt, ↓two, ↓resO, ↓S.get, ↓S.put, ↓S.put?, ↓asgT, ↓asgTs, ↓RX.dat, ↓obind_eq, ↓omap_eq, and_merge, or_merge, and_mergeB, or_mergeB, isiD, cmpD, lenD, binD, idxD, biD, nonD, atI_0, atI_1, atI_2, List.length_cons, List.length_nil, List.map_cons, List.map_nil, List.append_eq, List.cons_append, List.nil_append, List.getElem?_cons_zero, List.getElem?_cons_succ, List.getElem?_nil, List.mapM_cons, List.mapM_nil, Option.pure_def, Option.bind_eq_bind, id_eq, Bool.false_eq_true, List.foldl_cons, List.foldl_nil, ↓frzS, cmpOk_int, eqD_int, cmpOk_str, eqD_str, memD_str3, isStepD, hb2, h1, sizeLine_eq]
        by_cases h2 : w = "grow" ∨ w = "shrink"
        · simp [fn__law_is_step, runFn_eq, finR_rt, finR_nx, finR_ite, ↓startE, ↓evSs, ↓evS, ↓evX, ↓evL, ↓evOs, ↓evBs, ↓evP, ↓evI, ↓asO_pk, ↓asO_var, ↓asO_con, ↓asO_glb, ↓asO_bin, ↓asO_neg, ↓asO_ife, ↓asO_tup, ↓asO_lst, ↓asO_idx, ↓asO_slc, ↓asO_rev, ↓asO_call, ↓asO_bi, ↓asO_join, ↓asO_pop, ↓asO_sset, ↓asO_cmp, ↓Res.bind, ↓asB, ↓asI, ↓asS, ↓asD, ↓Res.opt, ↓two, ↓resO, ↓S.get, ↓S.put, ↓S.put?, ↓asgT, ↓asgTs, ↓RX.dat, ↓obind_eq, ↓omap_eq, and_merge, or_merge, and_mergeB, or_mergeB, isiD, cmpD, lenD, binD, idxD, biD, nonD, atI_0, atI_1, atI_2, List.length_cons, List.length_nil, List.map_cons, List.map_nil, List.append_eq, List.cons_append, List.nil_append, List.getElem?_cons_zero, List.getElem?_cons_succ, List.getElem?_nil, List.mapM_cons, List.mapM_nil, Option.pure_def, Option.bind_eq_bind, id_eq, Bool.false_eq_true, List.foldl_cons, List.foldl_nil, ↓frzS, cmpOk_int, eqD_int, cmpOk_str, eqD_str, isStepD, hb2, memD_str2, memD_str3, sizeLine_eq, h1, h2]
        by_cases h3 : w = "take" ∨ w = "free"
        · have h4 : w ≠ "raise" := by rcases h3 with rfl | rfl <;> decide +kernel
          cases b <;> simp [fn__law_is_step, runFn_eq, finR_rt, finR_nx, finR_ite, ↓startE, ↓evSs, ↓evS, ↓evX, ↓evL, ↓evOs, ↓evBs, ↓evP, ↓evI, ↓asO_pk, ↓asO_var, ↓asO_con, ↓asO_glb, ↓asO_bin, ↓asO_neg, ↓asO_ife, ↓asO_tup, ↓asO_lst, ↓asO_idx, ↓asO_slc, ↓asO_rev, ↓asO_call, ↓asO_bi, ↓asO_join, ↓asO_pop, ↓asO_sset, ↓asO_cmp, ↓Res.bind, ↓asB, ↓asI, ↓asS, ↓asD, ↓Res.opt, ↓two, ↓resO, ↓S.get, ↓S.put, ↓S.put?, ↓asgT, ↓asgTs, ↓RX.dat, ↓obind_eq, ↓omap_eq, and_merge, or_merge, and_mergeB, or_mergeB, isiD, cmpD, lenD, binD, idxD, biD, nonD, atI_0, atI_1, atI_2, List.length_cons, List.length_nil, List.map_cons, List.map_nil, List.append_eq, List.cons_append, List.nil_append, List.getElem?_cons_zero, List.getElem?_cons_succ, List.getElem?_nil, List.mapM_cons, List.mapM_nil, Option.pure_def, Option.bind_eq_bind, id_eq, Bool.false_eq_true, List.foldl_cons, List.foldl_nil, ↓frzS, cmpOk_int, eqD_int, cmpOk_str, eqD_str, isStepD, memD_str2, memD_str3, memD_strs, sizeLine_eq, h1, h2, h3, h4, isPy, isPys] at hx hb ⊢
        · cases b <;> simp [fn__law_is_step, runFn_eq, finR_rt, finR_nx, finR_ite, ↓startE, ↓evSs, ↓evS, ↓evX, ↓evL, ↓evOs, ↓evBs, ↓evP, ↓evI, ↓asO_pk, ↓asO_var, ↓asO_con, ↓asO_glb, ↓asO_bin, ↓asO_neg, ↓asO_ife, ↓asO_tup, ↓asO_lst, ↓asO_idx, ↓asO_slc, ↓asO_rev, ↓asO_call, ↓asO_bi, ↓asO_join, ↓asO_pop, ↓asO_sset, ↓asO_cmp, ↓Res.bind, ↓asB, ↓asI, ↓asS, ↓asD, ↓Res.opt, ↓two, ↓resO, ↓S.get, ↓S.put, ↓S.put?, ↓asgT, ↓asgTs, ↓RX.dat, ↓obind_eq, ↓omap_eq, and_merge, or_merge, and_mergeB, or_mergeB, isiD, cmpD, lenD, binD, idxD, biD, nonD, atI_0, atI_1, atI_2, List.length_cons, List.length_nil, List.map_cons, List.map_nil, List.append_eq, List.cons_append, List.nil_append, List.getElem?_cons_zero, List.getElem?_cons_succ, List.getElem?_nil, List.mapM_cons, List.mapM_nil, Option.pure_def, Option.bind_eq_bind, id_eq, Bool.false_eq_true, List.foldl_cons, List.foldl_nil, ↓frzS, cmpOk_int, eqD_int, cmpOk_str, eqD_str, isStepD, memD_str2, memD_str3, memD_strs, sizeLine_eq, h1, h2, h3, isPy, isPys] at hx hb ⊢
      | _ => simp [fn__law_is_step, runFn_eq, finR_rt, finR_nx, finR_ite, ↓startE, ↓evSs, ↓evS, ↓evX, ↓evL, ↓evOs, ↓evBs, ↓evP, ↓evI, ↓asO_pk, ↓asO_var, ↓asO_con, ↓asO_glb, ↓asO_bin, ↓asO_neg, ↓asO_ife, ↓asO_tup, ↓asO_lst, ↓asO_idx, ↓asO_slc, ↓asO_rev, ↓asO_call, ↓asO_bi, ↓asO_join, ↓asO_pop, ↓asO_sset, ↓asO_cmp, ↓Res.bind, ↓asB, ↓asI, ↓asS, ↓asD, ↓Res.opt, ↓two, ↓resO, ↓S.get, ↓S.put, ↓S.put?, ↓asgT, ↓asgTs, ↓RX.dat, ↓obind_eq, ↓omap_eq, and_merge, or_merge, and_mergeB, or_mergeB, isiD, cmpD, lenD, binD, idxD, biD, nonD, atI_0, atI_1, atI_2, List.length_cons, List.length_nil, List.map_cons, List.map_nil, List.append_eq, List.cons_append, List.nil_append, List.getElem?_cons_zero, List.getElem?_cons_succ, List.getElem?_nil, List.mapM_cons, List.mapM_nil, Option.pure_def, Option.bind_eq_bind, id_eq, Bool.false_eq_true, List.foldl_cons, List.foldl_nil, ↓frzS, cmpOk_int, eqD_int, isStepD, isPy, isPys, atI, ixN] at hx ⊢
  | _ => simp [fn__law_is_step, runFn_eq, finR_rt, finR_nx, finR_ite, ↓startE, ↓evSs, ↓evS, ↓evX, ↓evL, ↓evOs, ↓evBs, ↓evP, ↓evI, ↓asO_pk, ↓asO_var, ↓asO_con, ↓asO_glb, ↓asO_bin, ↓asO_neg, ↓asO_ife, ↓asO_tup, ↓asO_lst, ↓asO_idx, ↓asO_slc, ↓asO_rev, ↓asO_call, ↓asO_bi, ↓asO_join, ↓asO_pop, ↓asO_sset, ↓asO_cmp, ↓Res.bind, ↓asB, ↓asI, ↓asS, ↓asD, ↓Res.opt, ↓two, ↓resO, ↓S.get, ↓S.put, ↓S.put?, ↓asgT, ↓asgTs, ↓RX.dat, ↓obind_eq, ↓omap_eq, and_merge, or_merge, and_mergeB, or_mergeB, isiD, cmpD, lenD, binD, idxD, biD, nonD, atI_0, atI_1, atI_2, List.length_cons, List.length_nil, List.map_cons, List.map_nil, List.append_eq, List.cons_append, List.nil_append, List.getElem?_cons_zero, List.getElem?_cons_succ, List.getElem?_nil, List.mapM_cons, List.mapM_nil, Option.pure_def, Option.bind_eq_bind, id_eq, Bool.false_eq_true, List.foldl_cons, List.foldl_nil, ↓frzS, isStepD, isPy] at hx ⊢
/-! evenness again -/
def evenF (x0 : D) (h : List Str) (g : Int) (a b : Option Slot) : Env := [some (.val x0), some (.own (h.map D.str)), some (.val (.int g)), a, b, none]
theorem evenL_step {C : Ctx} {x0 : D} {h : List Str} {g : Int} {k : Bool} {a b : Option Slot} {st : Store} {w : Str} {p : D} (hk : kindS w p) (hl : h.length < sizeLine) :
    ∃ s1, asgT (.tup (.cons (.name 3) (.cons (.name 4) .nil))) (.d (.tup [.str w, p])) ⟨evenF x0 h g a b, st⟩ = some s1 ∧
      match evStep w p h g k with
      | none => finR (evSs C bo__law_even_0 s1) = some (.bl false, st)
      | some (h', g', k') => ∃ a' b', evSs C bo__law_even_0 s1 = .ok .nx ⟨evenF x0 h' g' a' b', st⟩ := by
  refine ⟨_, rfl, ?_⟩
  have hl' : h.length < 16777216 := by rw [sizeLine_eq] at hl; exact hl
  rcases hk with ⟨hw, i, rfl⟩ | ⟨hw, z, rfl⟩
  · rcases hw with rfl | rfl | rfl
    · have e : evStep "work" (.int i) h g k = some (h, g, true) := by simp [evStep, w_work_take, w_work_free, w_work_grow, w_work_shrink, w_work_raise, w_take_work, w_take_free, w_take_grow, w_take_shrink, w_take_raise, w_free_work, w_free_take, w_free_grow, w_free_shrink, w_free_raise, w_grow_work, w_grow_take, w_grow_free, w_grow_shrink, w_grow_raise, w_shrink_work, w_shrink_take, w_shrink_free, w_shrink_grow, w_shrink_raise, w_raise_work, w_raise_take, w_raise_free, w_raise_grow, w_raise_shrink]
      rw [e]
      refine ⟨some (.val (.str "work")), some (.val (.int i)), ?_⟩
      simp [bo__law_even_0, evenF, runFn_eq, finR_rt, finR_nx, finR_ite, ↓startE, ↓evSs, ↓evS, ↓evX, ↓evL, ↓evOs, ↓evBs, ↓evP, ↓evI, ↓asO_pk, ↓asO_var, ↓asO_con, ↓asO_glb, ↓asO_bin, ↓asO_neg, ↓asO_ife, ↓asO_tup, ↓asO_lst, ↓asO_idx, ↓asO_slc, ↓asO_rev, ↓asO_call, ↓asO_bi, ↓asO_join, ↓asO_pop, ↓asO_sset, ↓asO_cmp, ↓Res.bind, ↓asB, ↓asI, ↓asS, ↓asD, ↓Res.opt, ↓two, ↓resO, ↓S.get, ↓S.put, ↓S.put?, ↓asgT, ↓asgTs, ↓RX.dat, ↓obind_eq, ↓omap_eq, and_merge, or_merge, and_mergeB, or_mergeB, isiD, cmpD, lenD, binD, idxD, biD, nonD, atI_0, atI_1, atI_2, List.length_cons, List.length_nil, List.map_cons, List.map_nil, List.append_eq, List.cons_append, List.nil_append, List.getElem?_cons_zero, List.getElem?_cons_succ, List.getElem?_nil, List.mapM_cons, List.mapM_nil, Option.pure_def, Option.bind_eq_bind, id_eq, Bool.false_eq_true, List.foldl_cons, List.foldl_nil, ↓frzS, cmpOk_str, eqD_str, memD_str2, memD_strs, sizeLine_eq, w_work_take, w_work_free, w_work_grow, w_work_shrink, w_work_raise, w_take_work, w_take_free, w_take_grow, w_take_shrink, w_take_raise, w_free_work, w_free_take, w_free_grow, w_free_shrink, w_free_raise, w_grow_work, w_grow_take, w_grow_free, w_grow_shrink, w_grow_raise, w_shrink_work, w_shrink_take, w_shrink_free, w_shrink_grow, w_shrink_raise, w_raise_work, w_raise_take, w_raise_free, w_raise_grow, w_raise_shrink]
    · by_cases h1 : 0 ≤ g + i
      · by_cases h2 : g + i ≤ 1000
        · have e : evStep "grow" (.int i) h g k = some (h, g + i, k) := by simp [evStep, w_work_take, w_work_free, w_work_grow, w_work_shrink, w_work_raise, w_take_work, w_take_free, w_take_grow, w_take_shrink, w_take_raise, w_free_work, w_free_take, w_free_grow, w_free_shrink, w_free_raise, w_grow_work, w_grow_take, w_grow_free, w_grow_shrink, w_grow_raise, w_shrink_work, w_shrink_take, w_shrink_free, w_shrink_grow, w_shrink_raise, w_raise_work, w_raise_take, w_raise_free, w_raise_grow, w_raise_shrink, h1, h2]
          rw [e]
          refine ⟨some (.val (.str "grow")), some (.val (.int i)), ?_⟩
          simp [bo__law_even_0, evenF, runFn_eq, finR_rt, finR_nx, finR_ite, ↓startE, ↓evSs, ↓evS, ↓evX, ↓evL, ↓evOs, ↓evBs, ↓evP, ↓evI, ↓asO_pk, ↓asO_var, ↓asO_con, ↓asO_glb, ↓asO_bin, ↓asO_neg, ↓asO_ife, ↓asO_tup, ↓asO_lst, ↓asO_idx, ↓asO_slc, ↓asO_rev, ↓asO_call, ↓asO_bi, ↓asO_join, ↓asO_pop, ↓asO_sset, ↓asO_cmp, ↓Res.bind, ↓asB, ↓asI, ↓asS, ↓asD, ↓Res.opt, ↓two, ↓resO, ↓S.get, ↓S.put, ↓S.put?, ↓asgT, ↓asgTs, ↓RX.dat, ↓obind_eq, ↓omap_eq, and_merge, or_merge, and_mergeB, or_mergeB, isiD, cmpD, lenD, binD, idxD, biD, nonD, atI_0, atI_1, atI_2, List.length_cons, List.length_nil, List.map_cons, List.map_nil, List.append_eq, List.cons_append, List.nil_append, List.getElem?_cons_zero, List.getElem?_cons_succ, List.getElem?_nil, List.mapM_cons, List.mapM_nil, Option.pure_def, Option.bind_eq_bind, id_eq, Bool.false_eq_true, List.foldl_cons, List.foldl_nil, ↓frzS, cmpOk_str, eqD_str, memD_str2, memD_strs, sizeLine_eq, w_work_take, w_work_free, w_work_grow, w_work_shrink, w_work_raise, w_take_work, w_take_free, w_take_grow, w_take_shrink, w_take_raise, w_free_work, w_free_take, w_free_grow, w_free_shrink, w_free_raise, w_grow_work, w_grow_take, w_grow_free, w_grow_shrink, w_grow_raise, w_shrink_work, w_shrink_take, w_shrink_free, w_shrink_grow, w_shrink_raise, w_raise_work, w_raise_take, w_raise_free, w_raise_grow, w_raise_shrink, h1, h2]
        · have e : evStep "grow" (.int i) h g k = none := by simp [evStep, w_work_take, w_work_free, w_work_grow, w_work_shrink, w_work_raise, w_take_work, w_take_free, w_take_grow, w_take_shrink, w_take_raise, w_free_work, w_free_take, w_free_grow, w_free_shrink, w_free_raise, w_grow_work, w_grow_take, w_grow_free, w_grow_shrink, w_grow_raise, w_shrink_work, w_shrink_take, w_shrink_free, w_shrink_grow, w_shrink_raise, w_raise_work, w_raise_take, w_raise_free, w_raise_grow, w_raise_shrink, h1, h2]
          rw [e]
          simp [bo__law_even_0, evenF, runFn_eq, finR_rt, finR_nx, finR_ite, ↓startE, ↓evSs, ↓evS, ↓evX, ↓evL, ↓evOs, ↓evBs, ↓evP, ↓evI, ↓asO_pk, ↓asO_var, ↓asO_con, ↓asO_glb, ↓asO_bin, ↓asO_neg, ↓asO_ife, ↓asO_tup, ↓asO_lst, ↓asO_idx, ↓asO_slc, ↓asO_rev, ↓asO_call, ↓asO_bi, ↓asO_join, ↓asO_pop, ↓asO_sset, ↓asO_cmp, ↓Res.bind, ↓asB, ↓asI, ↓asS, ↓asD, ↓Res.opt, ↓two, ↓resO, ↓S.get, ↓S.put, ↓S.put?, ↓asgT, ↓asgTs, ↓RX.dat, ↓obind_eq, ↓omap_eq, and_merge, or_merge, and_mergeB, or_mergeB, isiD, cmpD, lenD, binD, idxD, biD, nonD, atI_0, atI_1, atI_2, List.length_cons, List.length_nil, List.map_cons, List.map_nil, List.append_eq, List.cons_append, List.nil_append, List.getElem?_cons_zero, List.getElem?_cons_succ, List.getElem?_nil, List.mapM_cons, List.mapM_nil, Option.pure_def, Option.bind_eq_bind, id_eq, Bool.false_eq_true, List.foldl_cons, List.foldl_nil, ↓frzS, cmpOk_str, eqD_str, memD_str2, memD_strs, sizeLine_eq, w_work_take, w_work_free, w_work_grow, w_work_shrink, w_work_raise, w_take_work, w_take_free, w_take_grow, w_take_shrink, w_take_raise, w_free_work, w_free_take, w_free_grow, w_free_shrink, w_free_raise, w_grow_work, w_grow_take, w_grow_free, w_grow_shrink, w_grow_raise, w_shrink_work, w_shrink_take, w_shrink_free, w_shrink_grow, w_shrink_raise, w_raise_work, w_raise_take, w_raise_free, w_raise_grow, w_raise_shrink, h1, h2]
      · have e : evStep "grow" (.int i) h g k = none := by simp [evStep, w_work_take, w_work_free, w_work_grow, w_work_shrink, w_work_raise, w_take_work, w_take_free, w_take_grow, w_take_shrink, w_take_raise, w_free_work, w_free_take, w_free_grow, w_free_shrink, w_free_raise, w_grow_work, w_grow_take, w_grow_free, w_grow_shrink, w_grow_raise, w_shrink_work, w_shrink_take, w_shrink_free, w_shrink_grow, w_shrink_raise, w_raise_work, w_raise_take, w_raise_free, w_raise_grow, w_raise_shrink, h1]
        rw [e]
        simp [bo__law_even_0, evenF, runFn_eq, finR_rt, finR_nx, finR_ite, ↓startE, ↓evSs, ↓evS, ↓evX, ↓evL, ↓evOs, ↓evBs, ↓evP, ↓evI, ↓asO_pk, ↓asO_var, ↓asO_con, ↓asO_glb, ↓asO_bin, ↓asO_neg, ↓asO_ife, ↓asO_tup, ↓asO_lst, ↓asO_idx, ↓asO_slc, ↓asO_rev, ↓asO_call, ↓asO_bi, ↓asO_join, ↓asO_pop, ↓asO_sset, ↓asO_cmp, ↓Res.bind, ↓asB, ↓asI, ↓asS, ↓asD, ↓Res.opt, ↓two, ↓resO, ↓S.get, ↓S.put, ↓S.put?, ↓asgT, ↓asgTs, ↓RX.dat, ↓obind_eq, ↓omap_eq, and_merge, or_merge, and_mergeB, or_mergeB, isiD, cmpD, lenD, binD, idxD, biD, nonD, atI_0, atI_1, atI_2, List.length_cons, List.length_nil, List.map_cons, List.map_nil, List.append_eq, List.cons_append, List.nil_append, List.getElem?_cons_zero, List.getElem?_cons_succ, List.getElem?_nil, List.mapM_cons, List.mapM_nil, Option.pure_def, Option.bind_eq_bind, id_eq, Bool.false_eq_true, List.foldl_cons, List.foldl_nil, ↓frzS, cmpOk_str, eqD_str, memD_str2, memD_strs, sizeLine_eq, w_work_take, w_work_free, w_work_grow, w_work_shrink, w_work_raise, w_take_work, w_take_free, w_take_grow, w_take_shrink, w_take_raise, w_free_work, w_free_take, w_free_grow, w_free_shrink, w_free_raise, w_grow_work, w_grow_take, w_grow_free, w_grow_shrink, w_grow_raise, w_shrink_work, w_shrink_take, w_shrink_free, w_shrink_grow, w_shrink_raise, w_raise_work, w_raise_take, w_raise_free, w_raise_grow, w_raise_shrink, h1]
    · by_cases h1 : 0 ≤ g + -i
      · by_cases h2 : g + -i ≤ 1000
        · have e : evStep "shrink" (.int i) h g k = some (h, g + -i, k) := by simp [evStep, w_work_take, w_work_free, w_work_grow, w_work_shrink, w_work_raise, w_take_work, w_take_free, w_take_grow, w_take_shrink, w_take_raise, w_free_work, w_free_take, w_free_grow, w_free_shrink, w_free_raise, w_grow_work, w_grow_take, w_grow_free, w_grow_shrink, w_grow_raise, w_shrink_work, w_shrink_take, w_shrink_free, w_shrink_grow, w_shrink_raise, w_raise_work, w_raise_take, w_raise_free, w_raise_grow, w_raise_shrink, h1, h2]
          rw [e]
          refine ⟨some (.val (.str "shrink")), some (.val (.int i)), ?_⟩
          simp [bo__law_even_0, evenF, runFn_eq, finR_rt, finR_nx, finR_ite, ↓startE, ↓evSs, ↓evS, ↓evX, ↓evL, ↓evOs, ↓evBs, ↓evP, ↓evI, ↓asO_pk, ↓asO_var, ↓asO_con, ↓asO_glb, ↓asO_bin, ↓asO_neg, ↓asO_ife, ↓asO_tup, ↓asO_lst, ↓asO_idx, ↓asO_slc, ↓asO_rev, ↓asO_call, ↓asO_bi, ↓asO_join, ↓asO_pop, ↓asO_sset, ↓asO_cmp, ↓Res.bind, ↓asB, ↓asI, ↓asS, ↓asD, ↓Res.opt, ↓two, ↓resO, ↓S.get, ↓S.put, ↓S.put?, ↓asgT, ↓asgTs, ↓RX.dat, ↓obind_eq, ↓omap_eq, and_merge, or_merge, and_mergeB, or_mergeB, isiD, cmpD, lenD, binD, idxD, biD, nonD, atI_0, atI_1, atI_2, List.length_cons, List.length_nil, List.map_cons, List.map_nil, List.append_eq, List.cons_append, List.nil_append, List.getElem?_cons_zero, List.getElem?_cons_succ, List.getElem?_nil, List.mapM_cons, List.mapM_nil, Option.pure_def, Option.bind_eq_bind, id_eq, Bool.false_eq_true, List.foldl_cons, List.foldl_nil, ↓frzS, cmpOk_str, eqD_str, memD_str2, memD_strs, sizeLine_eq, w_work_take, w_work_free, w_work_grow, w_work_shrink, w_work_raise, w_take_work, w_take_free, w_take_grow, w_take_shrink, w_take_raise, w_free_work, w_free_take, w_free_grow, w_free_shrink, w_free_raise, w_grow_work, w_grow_take, w_grow_free, w_grow_shrink, w_grow_raise, w_shrink_work, w_shrink_take, w_shrink_free, w_shrink_grow, w_shrink_raise, w_raise_work, w_raise_take, w_raise_free, w_raise_grow, w_raise_shrink, h1, h2]
        · have e : evStep "shrink" (.int i) h g k = none := by simp [evStep, w_work_take, w_work_free, w_work_grow, w_work_shrink, w_work_raise, w_take_work, w_take_free, w_take_grow, w_take_shrink, w_take_raise, w_free_work, w_free_take, w_free_grow, w_free_shrink, w_free_raise, w_grow_work, w_grow_take, w_grow_free, w_grow_shrink, w_grow_raise, w_shrink_work, w_shrink_take, w_shrink_free, w_shrink_grow, w_shrink_raise, w_raise_work, w_raise_take, w_raise_free, w_raise_grow, w_raise_shrink, h1, h2]
          rw [e]
          simp [bo__law_even_0, evenF, runFn_eq, finR_rt, finR_nx, finR_ite, ↓startE, ↓evSs, ↓evS, ↓evX, ↓evL, ↓evOs, ↓evBs, ↓evP, ↓evI, ↓asO_pk, ↓asO_var, ↓asO_con, ↓asO_glb, ↓asO_bin, ↓asO_neg, ↓asO_ife, ↓asO_tup, ↓asO_lst, ↓asO_idx, ↓asO_slc, ↓asO_rev, ↓asO_call, ↓asO_bi, ↓asO_join, ↓asO_pop, ↓asO_sset, ↓asO_cmp, ↓Res.bind, ↓asB, ↓asI, ↓asS, ↓asD, ↓Res.opt, ↓two, ↓resO, ↓S.get, ↓S.put, ↓S.put?, ↓asgT, ↓asgTs, ↓RX.dat, ↓obind_eq, ↓omap_eq, and_merge, or_merge, and_mergeB, or_mergeB, isiD, cmpD, lenD, binD, idxD, biD, nonD, atI_0, atI_1, atI_2, List.length_cons, List.length_nil, List.map_cons, List.map_nil, List.append_eq, List.cons_append, List.nil_append, List.getElem?_cons_zero, List.getElem?_cons_succ, List.getElem?_nil, List.mapM_cons, List.mapM_nil, Option.pure_def, Option.bind_eq_bind, id_eq, Bool.false_eq_true, List.foldl_cons, List.foldl_nil, ↓frzS, cmpOk_str, eqD_str, memD_str2, memD_strs, sizeLine_eq, w_work_take, w_work_free, w_work_grow, w_work_shrink, w_work_raise, w_take_work, w_take_free, w_take_grow, w_take_shrink, w_take_raise, w_free_work, w_free_take, w_free_grow, w_free_shrink, w_free_raise, w_grow_work, w_grow_take, w_grow_free, w_grow_shrink, w_grow_raise, w_shrink_work, w_shrink_take, w_shrink_free, w_shrink_grow, w_shrink_raise, w_raise_work, w_raise_take, w_raise_free, w_raise_grow, w_raise_shrink, h1, h2]
      · have e : evStep "shrink" (.int i) h g k = none := by simp [evStep, w_work_take, w_work_free, w_work_grow, w_work_shrink, w_work_raise, w_take_work, w_take_free, w_take_grow, w_take_shrink, w_take_raise, w_free_work, w_free_take, w_free_grow, w_free_shrink, w_free_raise, w_grow_work, w_grow_take, w_grow_free, w_grow_shrink, w_grow_raise, w_shrink_work, w_shrink_take, w_shrink_free, w_shrink_grow, w_shrink_raise, w_raise_work, w_raise_take, w_raise_free, w_raise_grow, w_raise_shrink, h1]
        rw [e]
        simp [bo__law_even_0, evenF, runFn_eq, finR_rt, finR_nx, finR_ite, ↓startE, ↓evSs, ↓evS, ↓evX, ↓evL, ↓evOs, ↓evBs, ↓evP, ↓evI, ↓asO_pk, ↓asO_var, ↓asO_con, ↓asO_glb, ↓asO_bin, ↓asO_neg, ↓asO_ife, ↓asO_tup, ↓asO_lst, ↓asO_idx, ↓asO_slc, ↓asO_rev, ↓asO_call, ↓asO_bi, ↓asO_join, ↓asO_pop, ↓asO_sset, ↓asO_cmp, ↓Res.bind, ↓asB, ↓asI, ↓asS, ↓asD, ↓Res.opt, ↓two, ↓resO, ↓S.get, ↓S.put, ↓S.put?, ↓asgT, ↓asgTs, ↓RX.dat, ↓obind_eq, ↓omap_eq, and_merge, or_merge, and_mergeB, or_mergeB, isiD, cmpD, lenD, binD, idxD, biD, nonD, atI_0, atI_1, atI_2, List.length_cons, List.length_nil, List.map_cons, List.map_nil, List.append_eq, List.cons_append, List.nil_append, List.getElem?_cons_zero, List.getElem?_cons_succ, List.getElem?_nil, List.mapM_cons, List.mapM_nil, Option.pure_def, Option.bind_eq_bind, id_eq, Bool.false_eq_true, List.foldl_cons, List.foldl_nil, ↓frzS, cmpOk_str, eqD_str, memD_str2, memD_strs, sizeLine_eq, w_work_take, w_work_free, w_work_grow, w_work_shrink, w_work_raise, w_take_work, w_take_free, w_take_grow, w_take_shrink, w_take_raise, w_free_work, w_free_take, w_free_grow, w_free_shrink, w_free_raise, w_grow_work, w_grow_take, w_grow_free, w_grow_shrink, w_grow_raise, w_shrink_work, w_shrink_take, w_shrink_free, w_shrink_grow, w_shrink_raise, w_raise_work, w_raise_take, w_raise_free, w_raise_grow, w_raise_shrink, h1]
  · rcases hw with rfl | rfl | rfl
    · by_cases h1 : z ∈ h
      · have e : evStep "take" (.str z) h g k = none := by simp [evStep, h1]
        rw [e]
        simp [bo__law_even_0, evenF, runFn_eq, finR_rt, finR_nx, finR_ite, ↓startE, ↓evSs, ↓evS, ↓evX, ↓evL, ↓evOs, ↓evBs, ↓evP, ↓evI, ↓asO_pk, ↓asO_var, ↓asO_con, ↓asO_glb, ↓asO_bin, ↓asO_neg, ↓asO_ife, ↓asO_tup, ↓asO_lst, ↓asO_idx, ↓asO_slc, ↓asO_rev, ↓asO_call, ↓asO_bi, ↓asO_join, ↓asO_pop, ↓asO_sset, ↓asO_cmp, ↓Res.bind, ↓asB, ↓asI, ↓asS, ↓asD, ↓Res.opt, ↓two, ↓resO, ↓S.get, ↓S.put, ↓S.put?, ↓asgT, ↓asgTs, ↓RX.dat, ↓obind_eq, ↓omap_eq, and_merge, or_merge, and_mergeB, or_mergeB, isiD, cmpD, lenD, binD, idxD, biD, nonD, atI_0, atI_1, atI_2, List.length_cons, List.length_nil, List.map_cons, List.map_nil, List.append_eq, List.cons_append, List.nil_append, List.getElem?_cons_zero, List.getElem?_cons_succ, List.getElem?_nil, List.mapM_cons, List.mapM_nil, Option.pure_def, Option.bind_eq_bind, id_eq, Bool.false_eq_true, List.foldl_cons, List.foldl_nil, ↓frzS, cmpOk_str, eqD_str, memD_str2, memD_strs, sizeLine_eq, w_work_take, w_work_free, w_work_grow, w_work_shrink, w_work_raise, w_take_work, w_take_free, w_take_grow, w_take_shrink, w_take_raise, w_free_work, w_free_take, w_free_grow, w_free_shrink, w_free_raise, w_grow_work, w_grow_take, w_grow_free, w_grow_shrink, w_grow_raise, w_shrink_work, w_shrink_take, w_shrink_free, w_shrink_grow, w_shrink_raise, w_raise_work, w_raise_take, w_raise_free, w_raise_grow, w_raise_shrink, h1]
      · have e : evStep "take" (.str z) h g k = some (h ++ [z], g, k) := by simp [evStep, h1]
        rw [e]
        refine ⟨some (.val (.str "take")), some (.val (.str z)), ?_⟩
        simp [bo__law_even_0, evenF, runFn_eq, finR_rt, finR_nx, finR_ite, ↓startE, ↓evSs, ↓evS, ↓evX, ↓evL, ↓evOs, ↓evBs, ↓evP, ↓evI, ↓asO_pk, ↓asO_var, ↓asO_con, ↓asO_glb, ↓asO_bin, ↓asO_neg, ↓asO_ife, ↓asO_tup, ↓asO_lst, ↓asO_idx, ↓asO_slc, ↓asO_rev, ↓asO_call, ↓asO_bi, ↓asO_join, ↓asO_pop, ↓asO_sset, ↓asO_cmp, ↓Res.bind, ↓asB, ↓asI, ↓asS, ↓asD, ↓Res.opt, ↓two, ↓resO, ↓S.get, ↓S.put, ↓S.put?, ↓asgT, ↓asgTs, ↓RX.dat, ↓obind_eq, ↓omap_eq, and_merge, or_merge, and_mergeB, or_mergeB, isiD, cmpD, lenD, binD, idxD, biD, nonD, atI_0, atI_1, atI_2, List.length_cons, List.length_nil, List.map_cons, List.map_nil, List.append_eq, List.cons_append, List.nil_append, List.getElem?_cons_zero, List.getElem?_cons_succ, List.getElem?_nil, List.mapM_cons, List.mapM_nil, Option.pure_def, Option.bind_eq_bind, id_eq, Bool.false_eq_true, List.foldl_cons, List.foldl_nil, ↓frzS, cmpOk_str, eqD_str, memD_str2, memD_strs, sizeLine_eq, w_work_take, w_work_free, w_work_grow, w_work_shrink, w_work_raise, w_take_work, w_take_free, w_take_grow, w_take_shrink, w_take_raise, w_free_work, w_free_take, w_free_grow, w_free_shrink, w_free_raise, w_grow_work, w_grow_take, w_grow_free, w_grow_shrink, w_grow_raise, w_shrink_work, w_shrink_take, w_shrink_free, w_shrink_grow, w_shrink_raise, w_raise_work, w_raise_take, w_raise_free, w_raise_grow, w_raise_shrink, h1, lstSlot, hl']
    · cases e0 : h[h.length - 1]? with
      | none =>
        have e : evStep "free" (.str z) h g k = none := by simp [evStep, w_work_take, w_work_free, w_work_grow, w_work_shrink, w_work_raise, w_take_work, w_take_free, w_take_grow, w_take_shrink, w_take_raise, w_free_work, w_free_take, w_free_grow, w_free_shrink, w_free_raise, w_grow_work, w_grow_take, w_grow_free, w_grow_shrink, w_grow_raise, w_shrink_work, w_shrink_take, w_shrink_free, w_shrink_grow, w_shrink_raise, w_raise_work, w_raise_take, w_raise_free, w_raise_grow, w_raise_shrink, e0]
        rw [e]
        have hh : h = [] := by
          rw [List.getElem?_eq_none_iff] at e0
          cases h with
          | nil => rfl
          | cons x r =>
            simp at e0
            omega
        subst hh
        have h00 : cmpOk (.lst []) (.lst []) = true := cmpOk_strs0 []
        simp [h00, bo__law_even_0, evenF, runFn_eq, finR_rt, finR_nx, finR_ite, ↓startE, ↓evSs, ↓evS, ↓evX, ↓evL, ↓evOs, ↓evBs, ↓evP, ↓evI, ↓asO_pk, ↓asO_var, ↓asO_con, ↓asO_glb, ↓asO_bin, ↓asO_neg, ↓asO_ife, ↓asO_tup, ↓asO_lst, ↓asO_idx, ↓asO_slc, ↓asO_rev, ↓asO_call, ↓asO_bi, ↓asO_join, ↓asO_pop, ↓asO_sset, ↓asO_cmp, ↓Res.bind, ↓asB, ↓asI, ↓asS, ↓asD, ↓Res.opt, ↓two, ↓resO, ↓S.get, ↓S.put, ↓S.put?, ↓asgT, ↓asgTs, ↓RX.dat, ↓obind_eq, ↓omap_eq, and_merge, or_merge, and_mergeB, or_mergeB, isiD, cmpD, lenD, binD, idxD, biD, nonD, atI_0, atI_1, atI_2, List.length_cons, List.length_nil, List.map_cons, List.map_nil, List.append_eq, List.cons_append, List.nil_append, List.getElem?_cons_zero, List.getElem?_cons_succ, List.getElem?_nil, List.mapM_cons, List.mapM_nil, Option.pure_def, Option.bind_eq_bind, id_eq, Bool.false_eq_true, List.foldl_cons, List.foldl_nil, ↓frzS, cmpOk_str, eqD_str, memD_str2, memD_strs, sizeLine_eq, w_work_take, w_work_free, w_work_grow, w_work_shrink, w_work_raise, w_take_work, w_take_free, w_take_grow, w_take_shrink, w_take_raise, w_free_work, w_free_take, w_free_grow, w_free_shrink, w_free_raise, w_grow_work, w_grow_take, w_grow_free, w_grow_shrink, w_grow_raise, w_shrink_work, w_shrink_take, w_shrink_free, w_shrink_grow, w_shrink_raise, w_raise_work, w_raise_take, w_raise_free, w_raise_grow, w_raise_shrink, cmpOk_lst0, eqD_lst0, isPys]
      | some y =>
        have hne : h.isEmpty = false := by
          cases h with
          | nil => simp at e0
          | cons x r => rfl
        have h0 := cmpOk_strs0 h
        have h3 := last_strs e0
        by_cases h1 : y = z
        · subst h1
          have e : evStep "free" (.str y) h g k = some (h.dropLast, g, k) := by simp [evStep, w_work_take, w_work_free, w_work_grow, w_work_shrink, w_work_raise, w_take_work, w_take_free, w_take_grow, w_take_shrink, w_take_raise, w_free_work, w_free_take, w_free_grow, w_free_shrink, w_free_raise, w_grow_work, w_grow_take, w_grow_free, w_grow_shrink, w_grow_raise, w_shrink_work, w_shrink_take, w_shrink_free, w_shrink_grow, w_shrink_raise, w_raise_work, w_raise_take, w_raise_free, w_raise_grow, w_raise_shrink, e0]
          rw [e]
          refine ⟨some (.val (.str "free")), some (.val (.str y)), ?_⟩
          simp [bo__law_even_0, evenF, runFn_eq, finR_rt, finR_nx, finR_ite, ↓startE, ↓evSs, ↓evS, ↓evX, ↓evL, ↓evOs, ↓evBs, ↓evP, ↓evI, ↓asO_pk, ↓asO_var, ↓asO_con, ↓asO_glb, ↓asO_bin, ↓asO_neg, ↓asO_ife, ↓asO_tup, ↓asO_lst, ↓asO_idx, ↓asO_slc, ↓asO_rev, ↓asO_call, ↓asO_bi, ↓asO_join, ↓asO_pop, ↓asO_sset, ↓asO_cmp, ↓Res.bind, ↓asB, ↓asI, ↓asS, ↓asD, ↓Res.opt, ↓two, ↓resO, ↓S.get, ↓S.put, ↓S.put?, ↓asgT, ↓asgTs, ↓RX.dat, ↓obind_eq, ↓omap_eq, and_merge, or_merge, and_mergeB, or_mergeB, isiD, cmpD, lenD, binD, idxD, biD, nonD, atI_0, atI_1, atI_2, List.length_cons, List.length_nil, List.map_cons, List.map_nil, List.append_eq, List.cons_append, List.nil_append, List.getElem?_cons_zero, List.getElem?_cons_succ, List.getElem?_nil, List.mapM_cons, List.mapM_nil, Option.pure_def, Option.bind_eq_bind, id_eq, Bool.false_eq_true, List.foldl_cons, List.foldl_nil, ↓frzS, cmpOk_str, eqD_str, memD_str2, memD_strs, sizeLine_eq, w_work_take, w_work_free, w_work_grow, w_work_shrink, w_work_raise, w_take_work, w_take_free, w_take_grow, w_take_shrink, w_take_raise, w_free_work, w_free_take, w_free_grow, w_free_shrink, w_free_raise, w_grow_work, w_grow_take, w_grow_free, w_grow_shrink, w_grow_raise, w_shrink_work, w_shrink_take, w_shrink_free, w_shrink_grow, w_shrink_raise, w_raise_work, w_raise_take, w_raise_free, w_raise_grow, w_raise_shrink, h0, eqD_lst0, hne, h3, e0]
        · have e : evStep "free" (.str z) h g k = none := by simp [evStep, w_work_take, w_work_free, w_work_grow, w_work_shrink, w_work_raise, w_take_work, w_take_free, w_take_grow, w_take_shrink, w_take_raise, w_free_work, w_free_take, w_free_grow, w_free_shrink, w_free_raise, w_grow_work, w_grow_take, w_grow_free, w_grow_shrink, w_grow_raise, w_shrink_work, w_shrink_take, w_shrink_free, w_shrink_grow, w_shrink_raise, w_raise_work, w_raise_take, w_raise_free, w_raise_grow, w_raise_shrink, e0, h1]
          rw [e]
          simp [bo__law_even_0, evenF, runFn_eq, finR_rt, finR_nx, finR_ite, ↓startE, ↓evSs, ↓evS, ↓evX, ↓evL, ↓evOs, ↓evBs, ↓evP, ↓evI, ↓asO_pk, ↓asO_var, ↓asO_con, ↓asO_glb, ↓asO_bin, ↓asO_neg, ↓asO_ife, ↓asO_tup, ↓asO_lst, ↓asO_idx, ↓asO_slc, ↓asO_rev, ↓asO_call, ↓asO_bi, ↓asO_join, ↓asO_pop, ↓asO_sset, ↓asO_cmp, ↓Res.bind, ↓asB, ↓asI, ↓asS, ↓asD, ↓Res.opt, ↓two, ↓resO, ↓S.get, ↓S.put, ↓S.put?, ↓asgT, ↓asgTs, ↓RX.dat, ↓obind_eq, ↓omap_eq, and_merge, or_merge, and_mergeB, or_mergeB, isiD, cmpD, lenD, binD, idxD, biD, nonD, atI_0, atI_1, atI_2, List.length_cons, List.length_nil, List.map_cons, List.map_nil, List.append_eq, List.cons_append, List.nil_append, List.getElem?_cons_zero, List.getElem?_cons_succ, List.getElem?_nil, List.mapM_cons, List.mapM_nil, Option.pure_def, Option.bind_eq_bind, id_eq, Bool.false_eq_true, List.foldl_cons, List.foldl_nil, ↓frzS, cmpOk_str, eqD_str, memD_str2, memD_strs, sizeLine_eq, w_work_take, w_work_free, w_work_grow, w_work_shrink, w_work_raise, w_take_work, w_take_free, w_take_grow, w_take_shrink, w_take_raise, w_free_work, w_free_take, w_free_grow, w_free_shrink, w_free_raise, w_grow_work, w_grow_take, w_grow_free, w_grow_shrink, w_grow_raise, w_shrink_work, w_shrink_take, w_shrink_free, w_shrink_grow, w_shrink_raise, w_raise_work, w_raise_take, w_raise_free, w_raise_grow, w_raise_shrink, h0, eqD_lst0, hne, h3, e0, h1]
    · have e : evStep "raise" (.str z) h g k = some (h, g, k) := by simp [evStep, w_work_take, w_work_free, w_work_grow, w_work_shrink, w_work_raise, w_take_work, w_take_free, w_take_grow, w_take_shrink, w_take_raise, w_free_work, w_free_take, w_free_grow, w_free_shrink, w_free_raise, w_grow_work, w_grow_take, w_grow_free, w_grow_shrink, w_grow_raise, w_shrink_work, w_shrink_take, w_shrink_free, w_shrink_grow, w_shrink_raise, w_raise_work, w_raise_take, w_raise_free, w_raise_grow, w_raise_shrink]
      rw [e]
      refine ⟨some (.val (.str "raise")), some (.val (.str z)), ?_⟩
      simp [bo__law_even_0, evenF, runFn_eq, finR_rt, finR_nx, finR_ite, ↓startE, ↓evSs, ↓evS, ↓evX, ↓evL, ↓evOs, ↓evBs, ↓evP, ↓evI, ↓asO_pk, ↓asO_var, ↓asO_con, ↓asO_glb, ↓asO_bin, ↓asO_neg, ↓asO_ife, ↓asO_tup, ↓asO_lst, ↓asO_idx, ↓asO_slc, ↓asO_rev, ↓asO_call, ↓asO_bi, ↓asO_join, ↓asO_pop, ↓asO_sset, ↓asO_cmp, ↓Res.bind, ↓asB, ↓asI, ↓asS, ↓asD, ↓Res.opt, ↓two, ↓resO, ↓S.get, ↓S.put, ↓S.put?, ↓asgT, ↓asgTs, ↓RX.dat, ↓obind_eq, ↓omap_eq, and_merge, or_merge, and_mergeB, or_mergeB, isiD, cmpD, lenD, binD, idxD, biD, nonD, atI_0, atI_1, atI_2, List.length_cons, List.length_nil, List.map_cons, List.map_nil, List.append_eq, List.cons_append, List.nil_append, List.getElem?_cons_zero, List.getElem?_cons_succ, List.getElem?_nil, List.mapM_cons, List.mapM_nil, Option.pure_def, Option.bind_eq_bind, id_eq, Bool.false_eq_true, List.foldl_cons, List.foldl_nil, ↓frzS, cmpOk_str, eqD_str, memD_str2, memD_strs, sizeLine_eq, w_work_take, w_work_free, w_work_grow, w_work_shrink, w_work_raise, w_take_work, w_take_free, w_take_grow, w_take_shrink, w_take_raise, w_free_work, w_free_take, w_free_grow, w_free_shrink, w_free_raise, w_grow_work, w_grow_take, w_grow_free, w_grow_shrink, w_grow_raise, w_shrink_work, w_shrink_take, w_shrink_free, w_shrink_grow, w_shrink_raise, w_raise_work, w_raise_take, w_raise_free, w_raise_grow, w_raise_shrink]
theorem evenL_loop {C : Ctx} {x0 : D} {st : Store} : ∀ (xs : List D) (h : List Str) (g : Int) (k : Bool) (a b : Option Slot), (∀ x ∈ xs, kindD x) → h.length + xs.length < sizeLine →
    match evenGo xs h g k with
    | none => finR (forL (evSs C bo__law_even_0) (fun x s => asgT (.tup (.cons (.name 3) (.cons (.name 4) .nil))) (.d x) s) xs ⟨evenF x0 h g a b, st⟩) = some (.bl false, st)
    | some (h', g', k') => ∃ a' b', forL (evSs C bo__law_even_0) (fun x s => asgT (.tup (.cons (.name 3) (.cons (.name 4) .nil))) (.d x) s) xs ⟨evenF x0 h g a b, st⟩ = .ok .nx ⟨evenF x0 h' g' a' b', st⟩
  | [], h, g, k, a, b, _, _ => ⟨a, b, rfl⟩
  | x :: r, h, g, k, a, b, hx, hl => by
    obtain ⟨w, p, rfl, hk⟩ := hx x (by simp)
    simp only [List.length_cons] at hl
    obtain ⟨s1, e1, e2⟩ := evenL_step (C := C) (x0 := x0) (h := h) (g := g) (k := k) (a := a) (b := b) (st := st) hk (by omega)
    unfold evenGo forL
    simp only [e1, opt_some, bind_ok]
    cases e : evStep w p h g k with
    | none =>
      rw [e] at e2
      obtain ⟨s2, q1, q2⟩ := finR_bl e2
      simp only [q1, bind_ok, finR_rt, q2]
    | some v =>
      obtain ⟨h', g', k'⟩ := v
      rw [e] at e2
      obtain ⟨a', b', q⟩ := e2
      simp only [q, bind_ok]
      exact evenL_loop r h' g' k' a' b' (fun y hy => hx y (by simp [hy])) (by have := evStep_len e; omega)
def isWork (x : D) : Bool := match x with
  | .tup [.str w, _] => decide (w = "work")
  | _ => false
theorem evStep_k {w : Str} {p : D} {h h' : List Str} {g g' : Int} {k k' : Bool} (e : evStep w p h g k = some (h', g', k')) : k' = (k || isWork (.tup [.str w, p])) := by
  unfold evStep at e
  have n1 : ∀ u : Str, u ≠ "work" → decide (u = "work") = false := fun u h => decide_eq_false h
  split at e
  · rename_i hw
    subst hw
    repeat' split at e
    all_goals first | cases e | skip
    rw [isWork, n1 _ (by decide +kernel), Bool.or_false]
  split at e
  · rename_i hw
    subst hw
    repeat' split at e
    all_goals first | cases e | skip
    rw [isWork, n1 _ (by decide +kernel), Bool.or_false]
  split at e
  · rename_i hw
    subst hw
    repeat' split at e
    all_goals first | cases e | skip
    rw [isWork, n1 _ (by decide +kernel), Bool.or_false]
  split at e
  · rename_i hw
    subst hw
    repeat' split at e
    all_goals first | cases e | skip
    rw [isWork, n1 _ (by decide +kernel), Bool.or_false]
  cases e
  rfl
theorem evenGo_k : ∀ {xs : List D} {h h' : List Str} {g g' : Int} {k k' : Bool}, evenGo xs h g k = some (h', g', k') → k' = (k || xs.any isWork)
  | [], h, h', g, g', k, k', e => by cases e; simp
  | x :: r, h, h', g, g', k, k', e => by
    unfold evenGo at e
    split at e
    · rename_i hq
      cases hq
      split at e
      · cases e
      · rename_i e1
        rw [evenGo_k e, evStep_k e1, List.any_cons, Bool.or_assoc]
    · cases e
    · rename_i hq
      cases hq
theorem work_empty (xs : List D) (hx : ∀ x ∈ xs, kindD x) (f : D → D) : ((xs.filter isWork).map f).isEmpty = !(xs.any isWork) := by
  induction xs with
  | nil => rfl
  | cons x r ih =>
    have ih := ih fun y hy => hx y (by simp [hy])
    rw [List.filter_cons, List.any_cons]
    cases isWork x
    · simpa using ih
    · rfl
def wordOf (x : D) : D := match x with
  | .tup [w, _] => w
  | _ => .non
theorem law_even_ok {C : Ctx} {xs : List D} {st : Store} (hx : ∀ x ∈ xs, kindD x) (hl : xs.length < sizeLine) : runFn C fn__law_even [.tup xs] st = some (.bl (evenD xs), st) := by
  have q := evenL_loop (C := C) (x0 := .tup xs) (st := st) xs [] 0 false none none hx (by simpa using hl)
  have hf : evS C fo__law_even_0 ⟨evenF (.tup xs) [] 0 none none, st⟩ = forL (evSs C bo__law_even_0) (fun x s => asgT (.tup (.cons (.name 3) (.cons (.name 4) .nil))) (.d x) s) xs ⟨evenF (.tup xs) [] 0 none none, st⟩ :=
    ev_for (by simp [runFn_eq, finR_rt, finR_nx, finR_ite, ↓startE, ↓evSs, ↓evS, ↓evX, ↓evL, ↓evOs, ↓evBs, ↓evP, ↓evI, ↓asO_pk, ↓asO_var, ↓asO_con, ↓asO_glb, ↓asO_bin, ↓asO_neg, ↓asO_ife, ↓asO_tup, ↓asO_lst, ↓asO_idx, ↓asO_slc, ↓asO_rev, ↓asO_call, ↓asO_bi, ↓asO_join, ↓asO_pop, ↓asO_sset, ↓asO_cmp, ↓Res.bind, ↓asB, ↓asI, ↓asS, ↓asD, ↓Res.opt, ↓two, ↓resO, ↓S.get, ↓S.put, ↓S.put?, ↓asgT, ↓asgTs, ↓RX.dat, ↓obind_eq, ↓omap_eq, and_merge, or_merge, and_mergeB, or_mergeB, isiD, cmpD, lenD, binD, idxD, biD, nonD, atI_0, atI_1, atI_2, List.length_cons, List.length_nil, List.map_cons, List.map_nil, List.append_eq, List.cons_append, List.nil_append, List.getElem?_cons_zero, List.getElem?_cons_succ, List.getElem?_nil, List.mapM_cons, List.mapM_nil, Option.pure_def, Option.bind_eq_bind, id_eq, Bool.false_eq_true, List.foldl_cons, List.foldl_nil, ↓frzS, evenF, seqD])
  cases e : evenGo xs [] 0 false with
  | none =>
    rw [e] at q
    obtain ⟨s2, q1, q2⟩ := finR_bl q
    rw [← hf] at q1
    simp only [evenF, List.map_nil] at q1
    simp [fn__law_even, runFn_eq, finR_rt, finR_nx, finR_ite, ↓startE, ↓evSs, ↓evS, ↓evX, ↓evL, ↓evOs, ↓evBs, ↓evP, ↓evI, ↓asO_pk, ↓asO_var, ↓asO_con, ↓asO_glb, ↓asO_bin, ↓asO_neg, ↓asO_ife, ↓asO_tup, ↓asO_lst, ↓asO_idx, ↓asO_slc, ↓asO_rev, ↓asO_call, ↓asO_bi, ↓asO_join, ↓asO_pop, ↓asO_sset, ↓asO_cmp, ↓Res.bind, ↓asB, ↓asI, ↓asS, ↓asD, ↓Res.opt, ↓two, ↓resO, ↓S.get, ↓S.put, ↓S.put?, ↓asgT, ↓asgTs, ↓RX.dat, ↓obind_eq, ↓omap_eq, and_merge, or_merge, and_mergeB, or_mergeB, isiD, cmpD, lenD, binD, idxD, biD, nonD, atI_0, atI_1, atI_2, List.length_cons, List.length_nil, List.map_cons, List.map_nil, List.append_eq, List.cons_append, List.nil_append, List.getElem?_cons_zero, List.getElem?_cons_succ, List.getElem?_nil, List.mapM_cons, List.mapM_nil, Option.pure_def, Option.bind_eq_bind, id_eq, Bool.false_eq_true, List.foldl_cons, List.foldl_nil, ↓frzS, evenD, e, q1, q2]
  | some v =>
    obtain ⟨h, g, k⟩ := v
    rw [e] at q
    obtain ⟨a, b, q1⟩ := q
    rw [← hf] at q1
    simp only [evenF, List.map_nil] at q1
    have h0 := cmpOk_strs0 h
    have hc : evX C ce__law_even_1 ⟨[some (.val (.tup xs)), some (.own (h.map D.str)), some (.val (.int g)), a, b, none], st⟩ = .ok (.fr ((xs.filter isWork).map wordOf)) ⟨[some (.val (.tup xs)), some (.own (h.map D.str)), some (.val (.int g)), a, b, none], st⟩ := by
      unfold ce__law_even_1
      rw [ev_comp_pure (xs := xs) isWork wordOf]
      · simp [runFn_eq, finR_rt, finR_nx, finR_ite, ↓startE, ↓evSs, ↓evS, ↓evX, ↓evL, ↓evOs, ↓evBs, ↓evP, ↓evI, ↓asO_pk, ↓asO_var, ↓asO_con, ↓asO_glb, ↓asO_bin, ↓asO_neg, ↓asO_ife, ↓asO_tup, ↓asO_lst, ↓asO_idx, ↓asO_slc, ↓asO_rev, ↓asO_call, ↓asO_bi, ↓asO_join, ↓asO_pop, ↓asO_sset, ↓asO_cmp, ↓Res.bind, ↓asB, ↓asI, ↓asS, ↓asD, ↓Res.opt, ↓two, ↓resO, ↓S.get, ↓S.put, ↓S.put?, ↓asgT, ↓asgTs, ↓RX.dat, ↓obind_eq, ↓omap_eq, and_merge, or_merge, and_mergeB, or_mergeB, isiD, cmpD, lenD, binD, idxD, biD, nonD, atI_0, atI_1, atI_2, List.length_cons, List.length_nil, List.map_cons, List.map_nil, List.append_eq, List.cons_append, List.nil_append, List.getElem?_cons_zero, List.getElem?_cons_succ, List.getElem?_nil, List.mapM_cons, List.mapM_nil, Option.pure_def, Option.bind_eq_bind, id_eq, Bool.false_eq_true, List.foldl_cons, List.foldl_nil, ↓frzS, seqD]
      · omega
      · intro x hx'
        obtain ⟨w, p, rfl, _⟩ := hx x hx'
        refine compPure_id rfl rfl ?_ fun _ => rfl
        simp [runFn_eq, finR_rt, finR_nx, finR_ite, ↓startE, ↓evSs, ↓evS, ↓evX, ↓evL, ↓evOs, ↓evBs, ↓evP, ↓evI, ↓asO_pk, ↓asO_var, ↓asO_con, ↓asO_glb, ↓asO_bin, ↓asO_neg, ↓asO_ife, ↓asO_tup, ↓asO_lst, ↓asO_idx, ↓asO_slc, ↓asO_rev, ↓asO_call, ↓asO_bi, ↓asO_join, ↓asO_pop, ↓asO_sset, ↓asO_cmp, ↓Res.bind, ↓asB, ↓asI, ↓asS, ↓asD, ↓Res.opt, ↓two, ↓resO, ↓S.get, ↓S.put, ↓S.put?, ↓asgT, ↓asgTs, ↓RX.dat, ↓obind_eq, ↓omap_eq, and_merge, or_merge, and_mergeB, or_mergeB, isiD, cmpD, lenD, binD, idxD, biD, nonD, atI_0, atI_1, atI_2, List.length_cons, List.length_nil, List.map_cons, List.map_nil, List.append_eq, List.cons_append, List.nil_append, List.getElem?_cons_zero, List.getElem?_cons_succ, List.getElem?_nil, List.mapM_cons, List.mapM_nil, Option.pure_def, Option.bind_eq_bind, id_eq, Bool.false_eq_true, List.foldl_cons, List.foldl_nil, ↓frzS, compEnv, wipeE, roS, cmpOk_str, eqD_str, isWork]
    have ha := as_np (e := ce__law_even_1) rfl hc
    have e1 := work_empty xs hx wordOf
    have e2 : isPys ((xs.filter isWork).map wordOf) = true := by
      apply isPys_of
      intro x hx'
      obtain ⟨y, hy, rfl⟩ := List.mem_map.mp hx'
      obtain ⟨w, p, rfl, _⟩ := hx y (List.mem_filter.mp hy).1
      rfl
    have e3 := evenGo_k e
    generalize ((xs.filter isWork).map wordOf) = ys at ha e1 e2
    have e4 := cmpOk_lst0 e2
    have e5 : k = !ys.isEmpty := by rw [e3, e1]; simp
    simp only [RX.dat] at ha
    simp [fn__law_even, runFn_eq, finR_rt, finR_nx, finR_ite, ↓startE, ↓evSs, ↓evS, ↓evX, ↓evL, ↓evOs, ↓evBs, ↓evP, ↓evI, ↓asO_pk, ↓asO_var, ↓asO_con, ↓asO_glb, ↓asO_bin, ↓asO_neg, ↓asO_ife, ↓asO_tup, ↓asO_lst, ↓asO_idx, ↓asO_slc, ↓asO_rev, ↓asO_call, ↓asO_bi, ↓asO_join, ↓asO_pop, ↓asO_sset, ↓asO_cmp, ↓Res.bind, ↓asB, ↓asI, ↓asS, ↓asD, ↓Res.opt, ↓two, ↓resO, ↓S.get, ↓S.put, ↓S.put?, ↓asgT, ↓asgTs, ↓RX.dat, ↓obind_eq, ↓omap_eq, and_merge, or_merge, and_mergeB, or_mergeB, isiD, cmpD, lenD, binD, idxD, biD, nonD, atI_0, atI_1, atI_2, List.length_cons, List.length_nil, List.map_cons, List.map_nil, List.append_eq, List.cons_append, List.nil_append, List.getElem?_cons_zero, List.getElem?_cons_succ, List.getElem?_nil, List.mapM_cons, List.mapM_nil, Option.pure_def, Option.bind_eq_bind, id_eq, Bool.false_eq_true, List.foldl_cons, List.foldl_nil, ↓frzS, evenD, e, q1, h0, eqD_lst0, cmpOk_int, eqD_int, ha, e4, e5]
    cases h <;> simp [Bool.and_assoc]
end DE
end

section
set_option Elab.async false
set_option linter.all false
set_option maxRecDepth 100000
set_option maxHeartbeats 2000000
namespace DE
open PySem L2
/-! rising names are those that sorted(set(..)) leaves as they are -/
theorem ltS_iff (a b : Str) : ltS a b = true ↔ a.cps.toList < b.cps.toList := by simp [ltS]
theorem rises_pair : ∀ {ns : List Str}, risesS ns = true → ns.Pairwise fun a b => ltS a b = true
  | [], _ => List.Pairwise.nil
  | [a], _ => by simp
  | a :: b :: r, h => by
    simp only [risesS, Bool.and_eq_true] at h
    have ih := rises_pair h.2
    refine List.pairwise_cons.mpr ⟨fun y hy => ?_, ih⟩
    rcases List.mem_cons.mp hy with rfl | hy
    · exact h.1
    · have := (List.pairwise_cons.mp ih).1 y hy
      rw [ltS_iff] at *
      exact List.lt_trans h.1 this
theorem pair_rises : ∀ {ns : List Str}, (ns.Pairwise fun a b => ltS a b = true) → risesS ns = true
  | [], _ => rfl
  | [a], _ => rfl
  | a :: b :: r, h => by
    obtain ⟨h1, h2⟩ := List.pairwise_cons.mp h
    simp only [risesS, Bool.and_eq_true]
    exact ⟨h1 b (by simp), pair_rises h2⟩
theorem ltS_ne {a b : Str} (h : ltS a b = true) : a ≠ b := by
  rw [ltS_iff] at h
  rintro rfl
  exact absurd h (List.lt_irrefl _)
theorem lt_of_le_ne {a b : Str} (h : leS a b = true) (hn : a ≠ b) : ltS a b = true := by
  rw [leS_iff] at h
  rw [ltS_iff]
  rcases List.le_iff_lt_or_eq.mp h with h | h
  · exact h
  · exfalso
    apply hn
    cases a; cases b
    simp only at h
    rw [Array.toList_inj.mp h]
theorem foldl_addL : ∀ (ns acc : List Str), ns.Nodup → (∀ x ∈ ns, x ∉ acc) → ns.foldl addL acc = ns.reverse ++ acc
  | [], acc, _, _ => rfl
  | n :: r, acc, h, q => by
    obtain ⟨h1, h2⟩ := List.nodup_cons.mp h
    have e : addL acc n = n :: acc := by
      unfold addL
      rw [if_neg (q n (by simp))]
    rw [List.foldl_cons, e, foldl_addL r (n :: acc) h2 fun x hx => by
      intro z
      rcases List.mem_cons.mp z with rfl | z
      · exact h1 hx
      · exact q x (by simp [hx]) z]
    simp
theorem setL_nodup : ∀ (ns acc : List Str), acc.Nodup → (ns.foldl addL acc).Nodup
  | [], acc, h => h
  | n :: r, acc, h => by
    rw [List.foldl_cons]
    refine setL_nodup r _ ?_
    unfold addL
    split
    · exact h
    · exact List.nodup_cons.mpr ⟨by assumption, h⟩
theorem sset_eq (ns : List Str) : decide ((setL ns).mergeSort leS = ns) = risesS ns := by
  rw [Bool.eq_iff_iff, decide_eq_true_eq]
  constructor
  · intro h
    have p := List.pairwise_mergeSort leS_trans leS_total (setL ns)
    have nd : ((setL ns).mergeSort leS).Nodup := (List.mergeSort_perm _ _).nodup_iff.mpr (setL_nodup ns [] List.nodup_nil)
    rw [h] at p nd
    apply pair_rises
    exact List.Pairwise.imp₂ (fun a b h1 h2 => lt_of_le_ne h1 h2) p nd
  · intro h
    have p := rises_pair h
    have nd : ns.Nodup := p.imp fun h => ltS_ne h
    have e : setL ns = ns.reverse := by
      unfold setL
      rw [foldl_addL ns [] nd (by simp)]
      simp
    rw [e]
    refine (List.Perm.eq_of_pairwise (le := fun a b => leS a b = true) (fun a b _ _ q1 q2 => leS_anti a b q1 q2) (List.pairwise_mergeSort leS_trans leS_total _) (p.imp fun {a b} h => ?_) ((List.mergeSort_perm _ _).trans (List.reverse_perm _)))
    rw [leS_iff]
    exact List.le_of_lt ((ltS_iff a b).mp h)
theorem eqD_strs (a b : List Str) : eqD (.lst (a.map D.str)) (.lst (b.map D.str)) = decide (a = b) := by
  unfold eqD
  simp only [toPy, PyData.eqv]
  induction a generalizing b with
  | nil => cases b <;> simp [toPys, PyData.eqvAll]
  | cons x r ih =>
    cases b with
    | nil => simp [toPys, PyData.eqvAll]
    | cons y t =>
      have h1 := eqD_str x y
      unfold eqD at h1
      simp only [toPy] at h1
      simp only [List.map_cons, toPys, toPy, PyData.eqvAll, h1, ih t]
      simp
theorem depth_strs : ∀ ns : List Str, PyData.depthAll (toPys (ns.map D.str)) = 0
  | [] => rfl
  | x :: r => by simp [toPys, toPy, PyData.depthAll, PyData.depth, depth_strs r]
theorem cmpOk_strs (a b : List Str) : cmpOk (.lst (a.map D.str)) (.lst (b.map D.str)) = true := by
  simp [cmpOk, isPy, isPys_strs, toPy, PyData.depth, depth_strs]
/-! _law_names_of -/
def okName (size : Nat) (x : D) : Bool := match x with
  | .tup (h :: r) => decide (r.length + 1 = size) && isNameD h
  | _ => false
def namesOf (x : D) (most size : Nat) : Option (List Str) := match x with
  | .tup xs => if xs.length ≤ most ∧ xs.all (okName size) = true ∧ risesS (xs.map nameOf) = true then some (xs.map nameOf) else none
  | _ => none
theorem okName_has {size : Nat} {x : D} (h : okName size x = true) : hasName x = true ∧ ∃ ys, x = .tup ys ∧ ys.length = size := by
  unfold okName at h
  split at h
  · rename_i a r
    simp only [Bool.and_eq_true, decide_eq_true_eq] at h
    exact ⟨h.2, _, rfl, h.1⟩
  · cases h
theorem filter_empty (p : D → Bool) : ∀ xs : List D, ((xs.filter fun x => !p x).map fun x => x).isEmpty = xs.all p
  | [] => rfl
  | x :: r => by
    have ih := filter_empty p r
    rw [List.filter_cons, List.all_cons]
    cases p x
    · rfl
    · simpa using ih
theorem law_names_of_ok {C : Ctx} {i_n : Nat} {x : D} {most size : Nat} {st : Store} (hn : HN C i_n) (h : fitD x = true) (hm : most ≤ 60) (hs : 1 ≤ size) : runFn C (fn__law_names_of i_n) [x, .int most, .int size] st = some (namesD (namesOf x most size), st) := by
  cases x with
  | tup xs =>
    simp only [fitD] at h
    by_cases h1 : xs.length ≤ most
    · have h1' : ¬ ((most : Int) < xs.length) := by omega
      have hc : evX C (ce__law_names_of_0 i_n) ⟨[some (.val (.tup xs)), some (.val (.int most)), some (.val (.int size)), none, none, none], st⟩ = .ok (.fr ((xs.filter fun x => !okName size x).map fun x => x)) ⟨[some (.val (.tup xs)), some (.val (.int most)), some (.val (.int size)), none, none, none], st⟩ := by
        unfold ce__law_names_of_0
        rw [ev_comp_pure (xs := xs) (fun x => !okName size x) (fun x => x)]
        · simp [runFn_eq, finR_rt, finR_nx, finR_ite, ↓startE, ↓evSs, ↓evS, ↓evX, ↓evL, ↓evOs, ↓evBs, ↓evP, ↓evI, ↓asO_pk, ↓asO_var, ↓asO_con, ↓asO_glb, ↓asO_bin, ↓asO_neg, ↓asO_ife, ↓asO_tup, ↓asO_lst, ↓asO_idx, ↓asO_slc, ↓asO_rev, ↓asO_call, ↓asO_bi, ↓asO_join, ↓asO_pop, ↓asO_sset, ↓asO_cmp, ↓Res.bind, ↓asB, ↓asI, ↓asS, ↓asD, ↓Res.opt, ↓two, ↓resO, ↓S.get, ↓S.put, ↓S.put?, ↓asgT, ↓asgTs, ↓RX.dat, ↓obind_eq, ↓omap_eq, and_merge, or_merge, and_mergeB, or_mergeB, isiD, cmpD, lenD, binD, idxD, biD, nonD, atI_0, atI_1, atI_2, List.length_cons, List.length_nil, List.map_cons, List.map_nil, List.append_eq, List.cons_append, List.nil_append, List.getElem?_cons_zero, List.getElem?_cons_succ, List.getElem?_nil, List.mapM_cons, List.mapM_nil, Option.pure_def, Option.bind_eq_bind, id_eq, Bool.false_eq_true, List.foldl_cons, List.foldl_nil, ↓frzS, seqD]
        · rw [sizeLine_eq]; omega
        · intro x hx
          have hf := fits_mem h x hx
          refine compPure_id rfl rfl ?_ fun _ => rfl
          cases x with
          | tup ys =>
            simp only [fitD] at hf
            cases ys with
            | nil =>
              have : ¬ (0 = (size : Int)) := by omega
              simp [runFn_eq, finR_rt, finR_nx, finR_ite, ↓startE, ↓evSs, ↓evS, ↓evX, ↓evL, ↓evOs, ↓evBs, ↓evP, ↓evI, ↓asO_pk, ↓asO_var, ↓asO_con, ↓asO_glb, ↓asO_bin, ↓asO_neg, ↓asO_ife, ↓asO_tup, ↓asO_lst, ↓asO_idx, ↓asO_slc, ↓asO_rev, ↓asO_call, ↓asO_bi, ↓asO_join, ↓asO_pop, ↓asO_sset, ↓asO_cmp, ↓Res.bind, ↓asB, ↓asI, ↓asS, ↓asD, ↓Res.opt, ↓two, ↓resO, ↓S.get, ↓S.put, ↓S.put?, ↓asgT, ↓asgTs, ↓RX.dat, ↓obind_eq, ↓omap_eq, and_merge, or_merge, and_mergeB, or_mergeB, isiD, cmpD, lenD, binD, idxD, biD, nonD, atI_0, atI_1, atI_2, List.length_cons, List.length_nil, List.map_cons, List.map_nil, List.append_eq, List.cons_append, List.nil_append, List.getElem?_cons_zero, List.getElem?_cons_succ, List.getElem?_nil, List.mapM_cons, List.mapM_nil, Option.pure_def, Option.bind_eq_bind, id_eq, Bool.false_eq_true, List.foldl_cons, List.foldl_nil, ↓frzS, compEnv, wipeE, roS, cmpOk_int, eqD_int, okName, this]
            | cons y r =>
              have hy := fun st => hn y st (fits_mem hf y (by simp))
              by_cases e : r.length + 1 = size
              · have e' : (r.length : Int) + 1 = size := by omega
                simp [runFn_eq, finR_rt, finR_nx, finR_ite, ↓startE, ↓evSs, ↓evS, ↓evX, ↓evL, ↓evOs, ↓evBs, ↓evP, ↓evI, ↓asO_pk, ↓asO_var, ↓asO_con, ↓asO_glb, ↓asO_bin, ↓asO_neg, ↓asO_ife, ↓asO_tup, ↓asO_lst, ↓asO_idx, ↓asO_slc, ↓asO_rev, ↓asO_call, ↓asO_bi, ↓asO_join, ↓asO_pop, ↓asO_sset, ↓asO_cmp, ↓Res.bind, ↓asB, ↓asI, ↓asS, ↓asD, ↓Res.opt, ↓two, ↓resO, ↓S.get, ↓S.put, ↓S.put?, ↓asgT, ↓asgTs, ↓RX.dat, ↓obind_eq, ↓omap_eq, and_merge, or_merge, and_mergeB, or_mergeB, isiD, cmpD, lenD, binD, idxD, biD, nonD, atI_0, atI_1, atI_2, List.length_cons, List.length_nil, List.map_cons, List.map_nil, List.append_eq, List.cons_append, List.nil_append, List.getElem?_cons_zero, List.getElem?_cons_succ, List.getElem?_nil, List.mapM_cons, List.mapM_nil, Option.pure_def, Option.bind_eq_bind, id_eq, Bool.false_eq_true, List.foldl_cons, List.foldl_nil, ↓frzS, compEnv, wipeE, roS, cmpOk_int, eqD_int, okName, e, e', hy]
              · have e' : ¬ ((r.length : Int) + 1 = size) := by omega
                simp [runFn_eq, finR_rt, finR_nx, finR_ite, ↓startE, ↓evSs, ↓evS, ↓evX, ↓evL, ↓evOs, ↓evBs, ↓evP, ↓evI, ↓asO_pk, ↓asO_var, ↓asO_con, ↓asO_glb, ↓asO_bin, ↓asO_neg, ↓asO_ife, ↓asO_tup, ↓asO_lst, ↓asO_idx, ↓asO_slc, ↓asO_rev, ↓asO_call, ↓asO_bi, ↓asO_join, ↓asO_pop, ↓asO_sset, ↓asO_cmp, ↓Res.bind, ↓asB, ↓asI, ↓asS, ↓asD, ↓Res.opt, ↓two, ↓resO, ↓S.get, ↓S.put, ↓S.put?, ↓asgT, ↓asgTs, ↓RX.dat, ↓obind_eq, ↓omap_eq, and_merge, or_merge, and_mergeB, or_mergeB, isiD, cmpD, lenD, binD, idxD, biD, nonD, atI_0, atI_1, atI_2, List.length_cons, List.length_nil, List.map_cons, List.map_nil, List.append_eq, List.cons_append, List.nil_append, List.getElem?_cons_zero, List.getElem?_cons_succ, List.getElem?_nil, List.mapM_cons, List.mapM_nil, Option.pure_def, Option.bind_eq_bind, id_eq, Bool.false_eq_true, List.foldl_cons, List.foldl_nil, ↓frzS, compEnv, wipeE, roS, cmpOk_int, eqD_int, okName, e, e']
          | _ => simp [runFn_eq, finR_rt, finR_nx, finR_ite, ↓startE, ↓evSs, ↓evS, ↓evX, ↓evL, ↓evOs, ↓evBs, ↓evP, ↓evI, ↓asO_pk, ↓asO_var, ↓asO_con, ↓asO_glb, ↓asO_bin, ↓asO_neg, ↓asO_ife, ↓asO_tup, ↓asO_lst, ↓asO_idx, ↓asO_slc, ↓asO_rev, ↓asO_call, ↓asO_bi, ↓asO_join, ↓asO_pop, ↓asO_sset, ↓asO_cmp, ↓Res.bind, ↓asB, ↓asI, ↓asS, ↓asD, ↓Res.opt, ↓two, ↓resO, ↓S.get, ↓S.put, ↓S.put?, ↓asgT, ↓asgTs, ↓RX.dat, ↓obind_eq, ↓omap_eq, and_merge, or_merge, and_mergeB, or_mergeB, isiD, cmpD, lenD, binD, idxD, biD, nonD, atI_0, atI_1, atI_2, List.length_cons, List.length_nil, List.map_cons, List.map_nil, List.append_eq, List.cons_append, List.nil_append, List.getElem?_cons_zero, List.getElem?_cons_succ, List.getElem?_nil, List.mapM_cons, List.mapM_nil, Option.pure_def, Option.bind_eq_bind, id_eq, Bool.false_eq_true, List.foldl_cons, List.foldl_nil, ↓frzS, compEnv, wipeE, roS, okName, fitD] at hf ⊢
      have ha := as_np (e := ce__law_names_of_0 i_n) rfl hc
      have e0 := filter_empty (okName size) xs
      have e1 : isPys ((xs.filter fun x => !okName size x).map fun x => x) = true := by
        apply isPys_of
        intro x hx
        rw [List.map_id'] at hx
        exact fit_py (fits_mem h x (List.mem_filter.mp hx).1)
      generalize ((xs.filter fun x => !okName size x).map fun x => x) = ys at ha e0 e1
      have e2 := cmpOk_lst0 e1
      simp only [RX.dat] at ha
      cases h2 : xs.all (okName size) with
      | false =>
        rw [h2] at e0
        simp [fn__law_names_of, runFn_eq, finR_rt, finR_nx, finR_ite, ↓startE, ↓evSs, ↓evS, ↓evX, ↓evL, ↓evOs, ↓evBs, ↓evP, ↓evI, ↓asO_pk, ↓asO_var, ↓asO_con, ↓asO_glb, ↓asO_bin, ↓asO_neg, ↓asO_ife, ↓asO_tup, ↓asO_lst, ↓asO_idx, ↓asO_slc, ↓asO_rev, ↓asO_call, ↓asO_bi, ↓asO_join, ↓asO_pop, ↓asO_sset, ↓asO_cmp, ↓Res.bind, ↓asB, ↓asI, ↓asS, ↓asD, ↓Res.opt, ↓two, ↓resO, ↓S.get, ↓S.put, ↓S.put?, ↓asgT, ↓asgTs, ↓RX.dat, ↓obind_eq, ↓omap_eq, and_merge, or_merge, and_mergeB, or_mergeB, isiD, cmpD, lenD, binD, idxD, biD, nonD, atI_0, atI_1, atI_2, List.length_cons, List.length_nil, List.map_cons, List.map_nil, List.append_eq, List.cons_append, List.nil_append, List.getElem?_cons_zero, List.getElem?_cons_succ, List.getElem?_nil, List.mapM_cons, List.mapM_nil, Option.pure_def, Option.bind_eq_bind, id_eq, Bool.false_eq_true, List.foldl_cons, List.foldl_nil, ↓frzS, h1', ha, e2, eqD_lst0, e0, namesOf, h2, namesD]
      | true =>
        rw [h2] at e0
        have hc2 : evX C (ce__law_names_of_1 i_n) ⟨[some (.val (.tup xs)), some (.val (.int most)), some (.val (.int size)), none, none, none], st⟩ = .ok (.fr ((xs.map nameOf).map D.str)) ⟨[some (.val (.tup xs)), some (.val (.int most)), some (.val (.int size)), none, none, none], st⟩ := by
          unfold ce__law_names_of_1
          rw [ev_comp_pure (xs := xs) (fun _ => true) (fun x => .str (nameOf x))]
          · rw [List.filter_eq_self.mpr (by simp), List.map_map]
            rfl
          · simp [runFn_eq, finR_rt, finR_nx, finR_ite, ↓startE, ↓evSs, ↓evS, ↓evX, ↓evL, ↓evOs, ↓evBs, ↓evP, ↓evI, ↓asO_pk, ↓asO_var, ↓asO_con, ↓asO_glb, ↓asO_bin, ↓asO_neg, ↓asO_ife, ↓asO_tup, ↓asO_lst, ↓asO_idx, ↓asO_slc, ↓asO_rev, ↓asO_call, ↓asO_bi, ↓asO_join, ↓asO_pop, ↓asO_sset, ↓asO_cmp, ↓Res.bind, ↓asB, ↓asI, ↓asS, ↓asD, ↓Res.opt, ↓two, ↓resO, ↓S.get, ↓S.put, ↓S.put?, ↓asgT, ↓asgTs, ↓RX.dat, ↓obind_eq, ↓omap_eq, and_merge, or_merge, and_mergeB, or_mergeB, isiD, cmpD, lenD, binD, idxD, biD, nonD, atI_0, atI_1, atI_2, List.length_cons, List.length_nil, List.map_cons, List.map_nil, List.append_eq, List.cons_append, List.nil_append, List.getElem?_cons_zero, List.getElem?_cons_succ, List.getElem?_nil, List.mapM_cons, List.mapM_nil, Option.pure_def, Option.bind_eq_bind, id_eq, Bool.false_eq_true, List.foldl_cons, List.foldl_nil, ↓frzS, seqD]
          · rw [sizeLine_eq]; omega
          · intro x hx
            refine compPure_id rfl rfl rfl fun _ => ?_
            obtain ⟨r, e⟩ := hasName_eq (okName_has (List.all_eq_true.mp h2 x hx)).1
            rw [e]
            simp [el__law_names_of_1, runFn_eq, finR_rt, finR_nx, finR_ite, ↓startE, ↓evSs, ↓evS, ↓evX, ↓evL, ↓evOs, ↓evBs, ↓evP, ↓evI, ↓asO_pk, ↓asO_var, ↓asO_con, ↓asO_glb, ↓asO_bin, ↓asO_neg, ↓asO_ife, ↓asO_tup, ↓asO_lst, ↓asO_idx, ↓asO_slc, ↓asO_rev, ↓asO_call, ↓asO_bi, ↓asO_join, ↓asO_pop, ↓asO_sset, ↓asO_cmp, ↓Res.bind, ↓asB, ↓asI, ↓asS, ↓asD, ↓Res.opt, ↓two, ↓resO, ↓S.get, ↓S.put, ↓S.put?, ↓asgT, ↓asgTs, ↓RX.dat, ↓obind_eq, ↓omap_eq, and_merge, or_merge, and_mergeB, or_mergeB, isiD, cmpD, lenD, binD, idxD, biD, nonD, atI_0, atI_1, atI_2, List.length_cons, List.length_nil, List.map_cons, List.map_nil, List.append_eq, List.cons_append, List.nil_append, List.getElem?_cons_zero, List.getElem?_cons_succ, List.getElem?_nil, List.mapM_cons, List.mapM_nil, Option.pure_def, Option.bind_eq_bind, id_eq, Bool.false_eq_true, List.foldl_cons, List.foldl_nil, ↓frzS, compEnv, wipeE, roS, nameOf]
        have h3 : (xs.map nameOf).length < 64 := by rw [List.length_map]; omega
        have h4 := sset_eq (xs.map nameOf)
        have h5 : namesOf (.tup xs) most size = if risesS (xs.map nameOf) = true then some (xs.map nameOf) else none := by simp [namesOf, h1, h2]
        rw [h5]
        generalize xs.map nameOf = ns at hc2 h3 h4
        cases h6 : risesS ns <;> rw [h6] at h4 <;> simp only [decide_eq_false_iff_not, decide_eq_true_eq] at h4 <;> simp [fn__law_names_of, runFn_eq, finR_rt, finR_nx, finR_ite, ↓startE, ↓evSs, ↓evS, ↓evX, ↓evL, ↓evOs, ↓evBs, ↓evP, ↓evI, ↓asO_pk, ↓asO_var, ↓asO_con, ↓asO_glb, ↓asO_bin, ↓asO_neg, ↓asO_ife, ↓asO_tup, ↓asO_lst, ↓asO_idx, ↓asO_slc, ↓asO_rev, ↓asO_call, ↓asO_bi, ↓asO_join, ↓asO_pop, ↓asO_sset, ↓asO_cmp, ↓Res.bind, ↓asB, ↓asI, ↓asS, ↓asD, ↓Res.opt, ↓two, ↓resO, ↓S.get, ↓S.put, ↓S.put?, ↓asgT, ↓asgTs, ↓RX.dat, ↓obind_eq, ↓omap_eq, and_merge, or_merge, and_mergeB, or_mergeB, isiD, cmpD, lenD, binD, idxD, biD, nonD, atI_0, atI_1, atI_2, List.length_cons, List.length_nil, List.map_cons, List.map_nil, List.append_eq, List.cons_append, List.nil_append, List.getElem?_cons_zero, List.getElem?_cons_succ, List.getElem?_nil, List.mapM_cons, List.mapM_nil, Option.pure_def, Option.bind_eq_bind, id_eq, Bool.false_eq_true, List.foldl_cons, List.foldl_nil, ↓frzS, h1', ha, e2, eqD_lst0, e0, hc2, ssetD, strsD_map, h3, cmpOk_strs, eqD_strs, h4, h6, namesD]
    · have h1' : ((most : Int) < xs.length) := by omega
      simp [fn__law_names_of, runFn_eq, finR_rt, finR_nx, finR_ite, ↓startE, ↓evSs, ↓evS, ↓evX, ↓evL, ↓evOs, ↓evBs, ↓evP, ↓evI, ↓asO_pk, ↓asO_var, ↓asO_con, ↓asO_glb, ↓asO_bin, ↓asO_neg, ↓asO_ife, ↓asO_tup, ↓asO_lst, ↓asO_idx, ↓asO_slc, ↓asO_rev, ↓asO_call, ↓asO_bi, ↓asO_join, ↓asO_pop, ↓asO_sset, ↓asO_cmp, ↓Res.bind, ↓asB, ↓asI, ↓asS, ↓asD, ↓Res.opt, ↓two, ↓resO, ↓S.get, ↓S.put, ↓S.put?, ↓asgT, ↓asgTs, ↓RX.dat, ↓obind_eq, ↓omap_eq, and_merge, or_merge, and_mergeB, or_mergeB, isiD, cmpD, lenD, binD, idxD, biD, nonD, atI_0, atI_1, atI_2, List.length_cons, List.length_nil, List.map_cons, List.map_nil, List.append_eq, List.cons_append, List.nil_append, List.getElem?_cons_zero, List.getElem?_cons_succ, List.getElem?_nil, List.mapM_cons, List.mapM_nil, Option.pure_def, Option.bind_eq_bind, id_eq, Bool.false_eq_true, List.foldl_cons, List.foldl_nil, ↓frzS, h1', namesOf, h1, namesD]
  | _ => simp [fn__law_names_of, runFn_eq, finR_rt, finR_nx, finR_ite, ↓startE, ↓evSs, ↓evS, ↓evX, ↓evL, ↓evOs, ↓evBs, ↓evP, ↓evI, ↓asO_pk, ↓asO_var, ↓asO_con, ↓asO_glb, ↓asO_bin, ↓asO_neg, ↓asO_ife, ↓asO_tup, ↓asO_lst, ↓asO_idx, ↓asO_slc, ↓asO_rev, ↓asO_call, ↓asO_bi, ↓asO_join, ↓asO_pop, ↓asO_sset, ↓asO_cmp, ↓Res.bind, ↓asB, ↓asI, ↓asS, ↓asD, ↓Res.opt, ↓two, ↓resO, ↓S.get, ↓S.put, ↓S.put?, ↓asgT, ↓asgTs, ↓RX.dat, ↓obind_eq, ↓omap_eq, and_merge, or_merge, and_mergeB, or_mergeB, isiD, cmpD, lenD, binD, idxD, biD, nonD, atI_0, atI_1, atI_2, List.length_cons, List.length_nil, List.map_cons, List.map_nil, List.append_eq, List.cons_append, List.nil_append, List.getElem?_cons_zero, List.getElem?_cons_succ, List.getElem?_nil, List.mapM_cons, List.mapM_nil, Option.pure_def, Option.bind_eq_bind, id_eq, Bool.false_eq_true, List.foldl_cons, List.foldl_nil, ↓frzS, namesOf, namesD, fitD] at h ⊢
end DE
end

section
set_option Elab.async false
set_option linter.all false
set_option maxRecDepth 100000
set_option maxHeartbeats 2000000
namespace DE
open PySem L2
theorem allCongr {p q : D → Bool} : ∀ {xs : List D}, (∀ x ∈ xs, p x = q x) → xs.all p = xs.all q
  | [], _ => rfl
  | x :: r, h => by
    rw [List.all_cons, List.all_cons, h x (by simp), allCongr fun y hy => h y (by simp [hy])]
def isTaskL (x : D) (ns ls : List Str) : Bool := match x with
  | .tup [_, l, r, g, .tup code] => withinD l 1 9 && (withinD r 0 1000 && (withinD g 0 1000 && (decide (code.length ≤ 12) && (code.all (fun s => isStepD s ns ls) && evenD code))))
  | _ => false
def capD (x : D) : Bool := match x with
  | .tup [_, c] => withinD c 0 9
  | _ => false
def isKernelL (x : D) : Bool := match x with
  | .tup [ts, ls, d] => withinD d 1 3 && (match namesOf ts 6 5, namesOf ls 4 2 with
    | some ns, some ks => allTup capD ls && allTup (fun t => isTaskL t ns ks) ts
    | _, _ => false)
  | _ => false
theorem ok5 {x : D} (h : okName 5 x = true) : ∃ n l r g c, x = .tup [n, l, r, g, c] ∧ isNameD n = true := by
  unfold okName at h
  split at h
  · rename_i a r
    simp only [Bool.and_eq_true, decide_eq_true_eq] at h
    match r, h with
    | [l, r', g, c], h => exact ⟨a, l, r', g, c, rfl, h.2⟩
    | [], h => simp at h
    | [_], h => simp at h
    | [_, _], h => simp at h
    | [_, _, _], h => simp at h
    | _ :: _ :: _ :: _ :: _ :: _, h => simp at h
  · cases h
theorem ok2 {x : D} (h : okName 2 x = true) : ∃ n c, x = .tup [n, c] ∧ isNameD n = true := by
  unfold okName at h
  split at h
  · rename_i a r
    simp only [Bool.and_eq_true, decide_eq_true_eq] at h
    match r, h with
    | [c], h => exact ⟨a, c, rfl, h.2⟩
    | [], h => simp at h
    | _ :: _ :: _, h => simp at h
  · cases h
theorem task_LD {x : D} {ns ls : List Str} (h : okName 5 x = true) : isTaskL x ns ls = isTaskD x ns ls := by
  obtain ⟨n, l, r, g, c, rfl, hn⟩ := ok5 h
  cases c <;> simp [isTaskL, isTaskD, hn]
theorem task_ok5 {x : D} {ns ls : List Str} (h : isTaskD x ns ls = true) : okName 5 x = true := by
  unfold isTaskD at h
  split at h
  · simp only [Bool.and_eq_true] at h
    simp [okName, h.1]
  · cases h
theorem lock_LD {x : D} (h : okName 2 x = true) : capD x = isLockD x := by
  obtain ⟨n, c, rfl, hn⟩ := ok2 h
  simp [capD, isLockD, hn]
theorem lock_ok2 {x : D} (h : isLockD x = true) : okName 2 x = true := by
  unfold isLockD at h
  split at h
  · simp only [Bool.and_eq_true] at h
    simp [okName, h.1]
  · cases h
theorem of_in {x : D} {most size : Nat} {ns : List Str} (h : namesOf x most size = some ns) : namesIn x most = some ns ∧ ∃ xs, x = .tup xs ∧ xs.length ≤ most ∧ xs.all (okName size) = true := by
  unfold namesOf at h
  split at h
  · rename_i xs
    split at h
    · rename_i q
      cases h
      refine ⟨?_, xs, rfl, q.1, q.2.1⟩
      have : xs.all hasName = true := List.all_eq_true.mpr fun x hx => (okName_has (List.all_eq_true.mp q.2.1 x hx)).1
      simp [namesIn, q.1, this, q.2.2]
    · cases h
  · cases h
theorem in_of {x : D} {most size : Nat} {ns : List Str} (h : namesIn x most = some ns) (q : allTup (okName size) x = true) : namesOf x most size = some ns := by
  unfold namesIn at h
  split at h
  · rename_i xs
    split at h
    · rename_i q1
      cases h
      have q' : xs.all (okName size) = true := q
      simp only [namesOf, q1.1, q', q1.2.2, and_self, if_true]
    · cases h
  · cases h
theorem kernel_eq (x : D) : isKernelL x = isKernelD x := by
  unfold isKernelL isKernelD
  split
  · rename_i ts ls d
    congr 1
    cases e1 : namesOf ts 6 5 with
    | some ns =>
      obtain ⟨a1, xs, rfl, _, a2⟩ := of_in e1
      rw [a1]
      cases e2 : namesOf ls 4 2 with
      | some ks =>
        obtain ⟨b1, ys, rfl, _, b2⟩ := of_in e2
        rw [b1]
        simp only [allTup]
        congr 1
        · exact allCongr fun y hy => lock_LD (List.all_eq_true.mp b2 y hy)
        · exact allCongr fun y hy => task_LD (List.all_eq_true.mp a2 y hy)
      | none =>
        cases e3 : namesIn ls 4 with
        | none => rfl
        | some ks =>
          dsimp only
          cases e4 : allTup isLockD ls with
          | false => rfl
          | true =>
            have : allTup (okName 2) ls = true := by
              unfold allTup at e4 ⊢
              split at e4
              · exact List.all_eq_true.mpr fun y hy => lock_ok2 (List.all_eq_true.mp e4 y hy)
              · cases e4
            rw [in_of e3 this] at e2
            cases e2
    | none =>
      cases e3 : namesIn ts 6 with
      | none => rfl
      | some ns =>
        cases e5 : namesIn ls 4 with
        | none => rfl
        | some ks =>
          dsimp only
          cases e4 : allTup (fun t => isTaskD t ns ks) ts with
          | false => simp
          | true =>
            have : allTup (okName 5) ts = true := by
              unfold allTup at e4 ⊢
              split at e4
              · exact List.all_eq_true.mpr fun y hy => task_ok5 (List.all_eq_true.mp e4 y hy)
              · cases e4
            rw [in_of e3 this] at e1
            cases e1
  · rename_i h
    first
    | rfl
    | (split
       · exact absurd rfl (h _ _ _)
       · rfl)
def HO' (C : Ctx) (i : Nat) : Prop := ∀ (x : D) (most size : Nat) (st : Store), fitD x = true → most ≤ 60 → 1 ≤ size → C.call i [x, .int most, .int size] st = some (namesD (namesOf x most size), st)
def kE (x : D) (ns ks : List Str) (a b c d e : Option Slot) : Env := [some (.val x), some (.val (.lst (ns.map D.str))), some (.val (.lst (ks.map D.str))), a, b, c, d, e, none, none, none]
theorem lk_loop {C : Ctx} {i_w i_o i_s i_e : Nat} {x0 : D} {ns ks : List Str} {st : Store} (hw : HW C i_w) (hs : HS C i_s) (he : HE C i_e) : ∀ (xs : List D) (a b c d e : Option Slot), fitDs xs = true → xs.all (okName 5) = true →
    if (xs.all fun t => isTaskL t ns ks) = true then ∃ a' b' c' d' e', forL (evSs C (bo__law_is_kernel_2 i_w i_o i_s i_e)) (fun x s => asgT (.tup (.cons (.name 3) (.cons (.name 4) (.cons (.name 5) (.cons (.name 6) (.cons (.name 7) .nil)))))) (.d x) s) xs ⟨kE x0 ns ks a b c d e, st⟩ = .ok .nx ⟨kE x0 ns ks a' b' c' d' e', st⟩
    else finR (forL (evSs C (bo__law_is_kernel_2 i_w i_o i_s i_e)) (fun x s => asgT (.tup (.cons (.name 3) (.cons (.name 4) (.cons (.name 5) (.cons (.name 6) (.cons (.name 7) .nil)))))) (.d x) s) xs ⟨kE x0 ns ks a b c d e, st⟩) = some (.bl false, st)
  | [], a, b, c, d, e, _, _ => by
    simp only [List.all_nil, if_true]
    exact ⟨a, b, c, d, e, rfl⟩
  | x :: r, a, b, c, d, e, hf, ho => by
    simp only [fitDs, Bool.and_eq_true] at hf
    simp only [List.all_cons, Bool.and_eq_true] at ho
    obtain ⟨hx, hr⟩ := hf
    obtain ⟨n, l, r', g, cd, rfl, hn⟩ := ok5 ho.1
    simp only [fitD] at hx
    have f2 := fun lo hi st => hw l lo hi st (fit_py (fits_mem hx l (by simp)))
    have f3 := fun lo hi st => hw r' lo hi st (fit_py (fits_mem hx r' (by simp)))
    have f4 := fun lo hi st => hw g lo hi st (fit_py (fits_mem hx g (by simp)))
    have hcf := fits_mem hx cd (by simp)
    have e1 : asgT (.tup (.cons (.name 3) (.cons (.name 4) (.cons (.name 5) (.cons (.name 6) (.cons (.name 7) .nil)))))) (.d (.tup [n, l, r', g, cd])) ⟨kE x0 ns ks a b c d e, st⟩ = some ⟨kE x0 ns ks (some (.val n)) (some (.val l)) (some (.val r')) (some (.val g)) (some (.val cd)), st⟩ := rfl
    have body : if isTaskL (.tup [n, l, r', g, cd]) ns ks = true then evSs C (bo__law_is_kernel_2 i_w i_o i_s i_e) ⟨kE x0 ns ks (some (.val n)) (some (.val l)) (some (.val r')) (some (.val g)) (some (.val cd)), st⟩ = .ok .nx ⟨kE x0 ns ks (some (.val n)) (some (.val l)) (some (.val r')) (some (.val g)) (some (.val cd)), st⟩
        else finR (evSs C (bo__law_is_kernel_2 i_w i_o i_s i_e) ⟨kE x0 ns ks (some (.val n)) (some (.val l)) (some (.val r')) (some (.val g)) (some (.val cd)), st⟩) = some (.bl false, st) := by
      cases q2 : withinD l 1 9 with
      | false => cases cd <;> simp [isTaskL, q2, bo__law_is_kernel_2, kE, runFn_eq, finR_rt, finR_nx, finR_ite, ↓startE, ↓evSs, ↓evS, ↓evX, ↓evL, ↓evOs, ↓evBs, ↓evP, ↓evI, ↓asO_pk, ↓asO_var, ↓asO_con, ↓asO_glb, ↓asO_bin, ↓asO_neg, ↓asO_ife, ↓asO_tup, ↓asO_lst, ↓asO_idx, ↓asO_slc, ↓asO_rev, ↓asO_call, ↓asO_bi, ↓asO_join, ↓asO_pop, ↓asO_sset, ↓asO_cmp, ↓Res.bind, ↓asB, ↓asI, ↓asS, ↓asD, ↓Res.opt, ↓two, ↓resO, ↓S.get, ↓S.put, ↓S.put?, ↓asgT, ↓asgTs, ↓RX.dat, ↓obind_eq, ↓omap_eq, and_merge, or_merge, and_mergeB, or_mergeB, isiD, cmpD, lenD, binD, idxD, biD, nonD, atI_0, atI_1, atI_2, List.length_cons, List.length_nil, List.map_cons, List.map_nil, List.append_eq, List.cons_append, List.nil_append, List.getElem?_cons_zero, List.getElem?_cons_succ, List.getElem?_nil, List.mapM_cons, List.mapM_nil, Option.pure_def, Option.bind_eq_bind, id_eq, Bool.false_eq_true, List.foldl_cons, List.foldl_nil, ↓frzS, f2]
      | true =>
      cases q3 : withinD r' 0 1000 with
      | false => cases cd <;> simp [isTaskL, q2, q3, bo__law_is_kernel_2, kE, runFn_eq, finR_rt, finR_nx, finR_ite, ↓startE, ↓evSs, ↓evS, ↓evX, ↓evL, ↓evOs, ↓evBs, ↓evP, ↓evI, ↓asO_pk, ↓asO_var, ↓asO_con, ↓asO_glb, ↓asO_bin, ↓asO_neg, ↓asO_ife, ↓asO_tup, ↓asO_lst, ↓asO_idx, ↓asO_slc, ↓asO_rev, ↓asO_call, ↓asO_bi, ↓asO_join, ↓asO_pop, ↓asO_sset, ↓asO_cmp, ↓Res.bind, ↓asB, ↓asI, ↓asS, ↓asD, ↓Res.opt, ↓two, ↓resO, ↓S.get, ↓S.put, ↓S.put?, ↓asgT, ↓asgTs, ↓RX.dat, ↓obind_eq, ↓omap_eq, and_merge, or_merge, and_mergeB, or_mergeB, isiD, cmpD, lenD, binD, idxD, biD, nonD, atI_0, atI_1, atI_2, List.length_cons, List.length_nil, List.map_cons, List.map_nil, List.append_eq, List.cons_append, List.nil_append, List.getElem?_cons_zero, List.getElem?_cons_succ, List.getElem?_nil, List.mapM_cons, List.mapM_nil, Option.pure_def, Option.bind_eq_bind, id_eq, Bool.false_eq_true, List.foldl_cons, List.foldl_nil, ↓frzS, f2, f3]
      | true =>
      cases q4 : withinD g 0 1000 with
      | false => cases cd <;> simp [isTaskL, q2, q3, q4, bo__law_is_kernel_2, kE, runFn_eq, finR_rt, finR_nx, finR_ite, ↓startE, ↓evSs, ↓evS, ↓evX, ↓evL, ↓evOs, ↓evBs, ↓evP, ↓evI, ↓asO_pk, ↓asO_var, ↓asO_con, ↓asO_glb, ↓asO_bin, ↓asO_neg, ↓asO_ife, ↓asO_tup, ↓asO_lst, ↓asO_idx, ↓asO_slc, ↓asO_rev, ↓asO_call, ↓asO_bi, ↓asO_join, ↓asO_pop, ↓asO_sset, ↓asO_cmp, ↓Res.bind, ↓asB, ↓asI, ↓asS, ↓asD, ↓Res.opt, ↓two, ↓resO, ↓S.get, ↓S.put, ↓S.put?, ↓asgT, ↓asgTs, ↓RX.dat, ↓obind_eq, ↓omap_eq, and_merge, or_merge, and_mergeB, or_mergeB, isiD, cmpD, lenD, binD, idxD, biD, nonD, atI_0, atI_1, atI_2, List.length_cons, List.length_nil, List.map_cons, List.map_nil, List.append_eq, List.cons_append, List.nil_append, List.getElem?_cons_zero, List.getElem?_cons_succ, List.getElem?_nil, List.mapM_cons, List.mapM_nil, Option.pure_def, Option.bind_eq_bind, id_eq, Bool.false_eq_true, List.foldl_cons, List.foldl_nil, ↓frzS, f2, f3, f4]
      | true =>
      cases cd with
      | tup cs =>
        by_cases q5 : cs.length ≤ 12
        · have q5' : ¬ ((12 : Int) < cs.length) := by omega
          simp only [fitD] at hcf
          have hc : evX C (ce__law_is_kernel_1 i_w i_o i_s i_e) ⟨kE x0 ns ks (some (.val n)) (some (.val l)) (some (.val r')) (some (.val g)) (some (.val (.tup cs))), st⟩ =
              .ok (.fr ((cs.filter fun x => !isStepD x ns ks).map fun x => x)) ⟨kE x0 ns ks (some (.val n)) (some (.val l)) (some (.val r')) (some (.val g)) (some (.val (.tup cs))), st⟩ := by
            unfold ce__law_is_kernel_1
            rw [ev_comp_pure (xs := cs) (fun x => !isStepD x ns ks) (fun x => x)]
            · simp [runFn_eq, finR_rt, finR_nx, finR_ite, ↓startE, ↓evSs, ↓evS, ↓evX, ↓evL, ↓evOs, ↓evBs, ↓evP, ↓evI, ↓asO_pk, ↓asO_var, ↓asO_con, ↓asO_glb, ↓asO_bin, ↓asO_neg, ↓asO_ife, ↓asO_tup, ↓asO_lst, ↓asO_idx, ↓asO_slc, ↓asO_rev, ↓asO_call, ↓asO_bi, ↓asO_join, ↓asO_pop, ↓asO_sset, ↓asO_cmp, ↓Res.bind, ↓asB, ↓asI, ↓asS, ↓asD, ↓Res.opt, ↓two, ↓resO, ↓S.get, ↓S.put, ↓S.put?, ↓asgT, ↓asgTs, ↓RX.dat, ↓obind_eq, ↓omap_eq, and_merge, or_merge, and_mergeB, or_mergeB, isiD, cmpD, lenD, binD, idxD, biD, nonD, atI_0, atI_1, atI_2, List.length_cons, List.length_nil, List.map_cons, List.map_nil, List.append_eq, List.cons_append, List.nil_append, List.getElem?_cons_zero, List.getElem?_cons_succ, List.getElem?_nil, List.mapM_cons, List.mapM_nil, Option.pure_def, Option.bind_eq_bind, id_eq, Bool.false_eq_true, List.foldl_cons, List.foldl_nil, ↓frzS, kE, seqD]
            · rw [sizeLine_eq]; omega
            · intro x hx
              refine compPure_id rfl rfl ?_ fun _ => rfl
              simp [runFn_eq, finR_rt, finR_nx, finR_ite, ↓startE, ↓evSs, ↓evS, ↓evX, ↓evL, ↓evOs, ↓evBs, ↓evP, ↓evI, ↓asO_pk, ↓asO_var, ↓asO_con, ↓asO_glb, ↓asO_bin, ↓asO_neg, ↓asO_ife, ↓asO_tup, ↓asO_lst, ↓asO_idx, ↓asO_slc, ↓asO_rev, ↓asO_call, ↓asO_bi, ↓asO_join, ↓asO_pop, ↓asO_sset, ↓asO_cmp, ↓Res.bind, ↓asB, ↓asI, ↓asS, ↓asD, ↓Res.opt, ↓two, ↓resO, ↓S.get, ↓S.put, ↓S.put?, ↓asgT, ↓asgTs, ↓RX.dat, ↓obind_eq, ↓omap_eq, and_merge, or_merge, and_mergeB, or_mergeB, isiD, cmpD, lenD, binD, idxD, biD, nonD, atI_0, atI_1, atI_2, List.length_cons, List.length_nil, List.map_cons, List.map_nil, List.append_eq, List.cons_append, List.nil_append, List.getElem?_cons_zero, List.getElem?_cons_succ, List.getElem?_nil, List.mapM_cons, List.mapM_nil, Option.pure_def, Option.bind_eq_bind, id_eq, Bool.false_eq_true, List.foldl_cons, List.foldl_nil, ↓frzS, kE, compEnv, wipeE, roS, hs x ns ks st (fits_mem hcf x hx)]
          have ha := as_np (e := ce__law_is_kernel_1 i_w i_o i_s i_e) rfl hc
          have g0 := filter_empty (fun x => isStepD x ns ks) cs
          have g1 : isPys ((cs.filter fun x => !isStepD x ns ks).map fun x => x) = true := by
            apply isPys_of
            intro x hx
            rw [List.map_id'] at hx
            exact fit_py (fits_mem hcf x (List.mem_filter.mp hx).1)
          generalize ((cs.filter fun x => !isStepD x ns ks).map fun x => x) = ys at ha g0 g1
          have g2 := cmpOk_lst0 g1
          simp only [RX.dat, kE] at ha
          cases q6 : cs.all (fun s => isStepD s ns ks) with
          | false =>
            rw [q6] at g0
            simp [isTaskL, q2, q3, q4, q5, q6, bo__law_is_kernel_2, kE, runFn_eq, finR_rt, finR_nx, finR_ite, ↓startE, ↓evSs, ↓evS, ↓evX, ↓evL, ↓evOs, ↓evBs, ↓evP, ↓evI, ↓asO_pk, ↓asO_var, ↓asO_con, ↓asO_glb, ↓asO_bin, ↓asO_neg, ↓asO_ife, ↓asO_tup, ↓asO_lst, ↓asO_idx, ↓asO_slc, ↓asO_rev, ↓asO_call, ↓asO_bi, ↓asO_join, ↓asO_pop, ↓asO_sset, ↓asO_cmp, ↓Res.bind, ↓asB, ↓asI, ↓asS, ↓asD, ↓Res.opt, ↓two, ↓resO, ↓S.get, ↓S.put, ↓S.put?, ↓asgT, ↓asgTs, ↓RX.dat, ↓obind_eq, ↓omap_eq, and_merge, or_merge, and_mergeB, or_mergeB, isiD, cmpD, lenD, binD, idxD, biD, nonD, atI_0, atI_1, atI_2, List.length_cons, List.length_nil, List.map_cons, List.map_nil, List.append_eq, List.cons_append, List.nil_append, List.getElem?_cons_zero, List.getElem?_cons_succ, List.getElem?_nil, List.mapM_cons, List.mapM_nil, Option.pure_def, Option.bind_eq_bind, id_eq, Bool.false_eq_true, List.foldl_cons, List.foldl_nil, ↓frzS, f2, f3, f4, q5', ha, g2, eqD_lst0, g0]
          | true =>
            rw [q6] at g0
            have q7 : ∀ x ∈ cs, kindD x := fun x hx => isStepD_kind (List.all_eq_true.mp q6 x hx)
            have q8 : cs.length < sizeLine := by rw [sizeLine_eq]; omega
            have h5 := fun st => he cs st q7 q8
            cases q9 : evenD cs <;> simp [isTaskL, q2, q3, q4, q5, q6, q9, bo__law_is_kernel_2, kE, runFn_eq, finR_rt, finR_nx, finR_ite, ↓startE, ↓evSs, ↓evS, ↓evX, ↓evL, ↓evOs, ↓evBs, ↓evP, ↓evI, ↓asO_pk, ↓asO_var, ↓asO_con, ↓asO_glb, ↓asO_bin, ↓asO_neg, ↓asO_ife, ↓asO_tup, ↓asO_lst, ↓asO_idx, ↓asO_slc, ↓asO_rev, ↓asO_call, ↓asO_bi, ↓asO_join, ↓asO_pop, ↓asO_sset, ↓asO_cmp, ↓Res.bind, ↓asB, ↓asI, ↓asS, ↓asD, ↓Res.opt, ↓two, ↓resO, ↓S.get, ↓S.put, ↓S.put?, ↓asgT, ↓asgTs, ↓RX.dat, ↓obind_eq, ↓omap_eq, and_merge, or_merge, and_mergeB, or_mergeB, isiD, cmpD, lenD, binD, idxD, biD, nonD, atI_0, atI_1, atI_2, List.length_cons, List.length_nil, List.map_cons, List.map_nil, List.append_eq, List.cons_append, List.nil_append, List.getElem?_cons_zero, List.getElem?_cons_succ, List.getElem?_nil, List.mapM_cons, List.mapM_nil, Option.pure_def, Option.bind_eq_bind, id_eq, Bool.false_eq_true, List.foldl_cons, List.foldl_nil, ↓frzS, f2, f3, f4, q5', ha, g2, eqD_lst0, g0, h5]
        · have q5' : ((12 : Int) < cs.length) := by omega
          simp [isTaskL, q2, q3, q4, q5, bo__law_is_kernel_2, kE, runFn_eq, finR_rt, finR_nx, finR_ite, ↓startE, ↓evSs, ↓evS, ↓evX, ↓evL, ↓evOs, ↓evBs, ↓evP, ↓evI, ↓asO_pk, ↓asO_var, ↓asO_con, ↓asO_glb, ↓asO_bin, ↓asO_neg, ↓asO_ife, ↓asO_tup, ↓asO_lst, ↓asO_idx, ↓asO_slc, ↓asO_rev, ↓asO_call, ↓asO_bi, ↓asO_join, ↓asO_pop, ↓asO_sset, ↓asO_cmp, ↓Res.bind, ↓asB, ↓asI, ↓asS, ↓asD, ↓Res.opt, ↓two, ↓resO, ↓S.get, ↓S.put, ↓S.put?, ↓asgT, ↓asgTs, ↓RX.dat, ↓obind_eq, ↓omap_eq, and_merge, or_merge, and_mergeB, or_mergeB, isiD, cmpD, lenD, binD, idxD, biD, nonD, atI_0, atI_1, atI_2, List.length_cons, List.length_nil, List.map_cons, List.map_nil, List.append_eq, List.cons_append, List.nil_append, List.getElem?_cons_zero, List.getElem?_cons_succ, List.getElem?_nil, List.mapM_cons, List.mapM_nil, Option.pure_def, Option.bind_eq_bind, id_eq, Bool.false_eq_true, List.foldl_cons, List.foldl_nil, ↓frzS, f2, f3, f4, q5']
      | _ => simp [isTaskL, q2, q3, q4, bo__law_is_kernel_2, kE, runFn_eq, finR_rt, finR_nx, finR_ite, ↓startE, ↓evSs, ↓evS, ↓evX, ↓evL, ↓evOs, ↓evBs, ↓evP, ↓evI, ↓asO_pk, ↓asO_var, ↓asO_con, ↓asO_glb, ↓asO_bin, ↓asO_neg, ↓asO_ife, ↓asO_tup, ↓asO_lst, ↓asO_idx, ↓asO_slc, ↓asO_rev, ↓asO_call, ↓asO_bi, ↓asO_join, ↓asO_pop, ↓asO_sset, ↓asO_cmp, ↓Res.bind, ↓asB, ↓asI, ↓asS, ↓asD, ↓Res.opt, ↓two, ↓resO, ↓S.get, ↓S.put, ↓S.put?, ↓asgT, ↓asgTs, ↓RX.dat, ↓obind_eq, ↓omap_eq, and_merge, or_merge, and_mergeB, or_mergeB, isiD, cmpD, lenD, binD, idxD, biD, nonD, atI_0, atI_1, atI_2, List.length_cons, List.length_nil, List.map_cons, List.map_nil, List.append_eq, List.cons_append, List.nil_append, List.getElem?_cons_zero, List.getElem?_cons_succ, List.getElem?_nil, List.mapM_cons, List.mapM_nil, Option.pure_def, Option.bind_eq_bind, id_eq, Bool.false_eq_true, List.foldl_cons, List.foldl_nil, ↓frzS, f2, f3, f4, fitD] at hcf ⊢
    unfold forL
    simp only [e1, opt_some, bind_ok, List.all_cons]
    cases q : isTaskL (.tup [n, l, r', g, cd]) ns ks with
    | true =>
      rw [q] at body
      simp only [if_true] at body
      simp only [body, bind_ok, Bool.true_and]
      exact lk_loop hw hs he r _ _ _ _ _ hr ho.2
    | false =>
      rw [q] at body
      simp only [Bool.false_eq_true, if_false] at body
      obtain ⟨s2, q1, q2⟩ := finR_bl body
      simp only [q1, bind_ok, Bool.false_and, Bool.false_eq_true, if_false, finR_rt, q2]
theorem law_is_kernel_ok {C : Ctx} {i_w i_o i_s i_e : Nat} {x : D} {st : Store} (hw : HW C i_w) (ho : HO' C i_o) (hs : HS C i_s) (he : HE C i_e) (h : fitD x = true) :
    runFn C (fn__law_is_kernel i_w i_o i_s i_e) [x] st = some (.bl (isKernelL x), st) := by
  cases x with
  | tup xs =>
    simp only [fitD] at h
    match xs, h with
    | [], _ => simp [fn__law_is_kernel, runFn_eq, finR_rt, finR_nx, finR_ite, ↓startE, ↓evSs, ↓evS, ↓evX, ↓evL, ↓evOs, ↓evBs, ↓evP, ↓evI, ↓asO_pk, ↓asO_var, ↓asO_con, ↓asO_glb, ↓asO_bin, ↓asO_neg, ↓asO_ife, ↓asO_tup, ↓asO_lst, ↓asO_idx, ↓asO_slc, ↓asO_rev, ↓asO_call, ↓asO_bi, ↓asO_join, ↓asO_pop, ↓asO_sset, ↓asO_cmp, ↓Res.bind, ↓asB, ↓asI, ↓asS, ↓asD, ↓Res.opt, ↓two, ↓resO, ↓S.get, ↓S.put, ↓S.put?, ↓asgT, ↓asgTs, ↓RX.dat, ↓obind_eq, ↓omap_eq, and_merge, or_merge, and_mergeB, or_mergeB, isiD, cmpD, lenD, binD, idxD, biD, nonD, atI_0, atI_1, atI_2, List.length_cons, List.length_nil, List.map_cons, List.map_nil, List.append_eq, List.cons_append, List.nil_append, List.getElem?_cons_zero, List.getElem?_cons_succ, List.getElem?_nil, List.mapM_cons, List.mapM_nil, Option.pure_def, Option.bind_eq_bind, id_eq, Bool.false_eq_true, List.foldl_cons, List.foldl_nil, ↓frzS, cmpOk_int, eqD_int, isKernelL]
    | [a], _ => simp [fn__law_is_kernel, runFn_eq, finR_rt, finR_nx, finR_ite, ↓startE, ↓evSs, ↓evS, ↓evX, ↓evL, ↓evOs, ↓evBs, ↓evP, ↓evI, ↓asO_pk, ↓asO_var, ↓asO_con, ↓asO_glb, ↓asO_bin, ↓asO_neg, ↓asO_ife, ↓asO_tup, ↓asO_lst, ↓asO_idx, ↓asO_slc, ↓asO_rev, ↓asO_call, ↓asO_bi, ↓asO_join, ↓asO_pop, ↓asO_sset, ↓asO_cmp, ↓Res.bind, ↓asB, ↓asI, ↓asS, ↓asD, ↓Res.opt, ↓two, ↓resO, ↓S.get, ↓S.put, ↓S.put?, ↓asgT, ↓asgTs, ↓RX.dat, ↓obind_eq, ↓omap_eq, and_merge, or_merge, and_mergeB, or_mergeB, isiD, cmpD, lenD, binD, idxD, biD, nonD, atI_0, atI_1, atI_2, List.length_cons, List.length_nil, List.map_cons, List.map_nil, List.append_eq, List.cons_append, List.nil_append, List.getElem?_cons_zero, List.getElem?_cons_succ, List.getElem?_nil, List.mapM_cons, List.mapM_nil, Option.pure_def, Option.bind_eq_bind, id_eq, Bool.false_eq_true, List.foldl_cons, List.foldl_nil, ↓frzS, cmpOk_int, eqD_int, isKernelL]
    | [a, b], _ => simp [fn__law_is_kernel, runFn_eq, finR_rt, finR_nx, finR_ite, ↓startE, ↓evSs, ↓evS, ↓evX, ↓evL, ↓evOs, ↓evBs, ↓evP, ↓evI, ↓asO_pk, ↓asO_var, ↓asO_con, ↓asO_glb, ↓asO_bin, ↓asO_neg, ↓asO_ife, ↓asO_tup, ↓asO_lst, ↓asO_idx, ↓asO_slc, ↓asO_rev, ↓asO_call, ↓asO_bi, ↓asO_join, ↓asO_pop, ↓asO_sset, ↓asO_cmp, ↓Res.bind, ↓asB, ↓asI, ↓asS, ↓asD, ↓Res.opt, ↓two, ↓resO, ↓S.get, ↓S.put, ↓S.put?, ↓asgT, ↓asgTs, ↓RX.dat, ↓obind_eq, ↓omap_eq, and_merge, or_merge, and_mergeB, or_mergeB, isiD, cmpD, lenD, binD, idxD, biD, nonD, atI_0, atI_1, atI_2, List.length_cons, List.length_nil, List.map_cons, List.map_nil, List.append_eq, List.cons_append, List.nil_append, List.getElem?_cons_zero, List.getElem?_cons_succ, List.getElem?_nil, List.mapM_cons, List.mapM_nil, Option.pure_def, Option.bind_eq_bind, id_eq, Bool.false_eq_true, List.foldl_cons, List.foldl_nil, ↓frzS, cmpOk_int, eqD_int, isKernelL]
    | a :: b :: c :: d :: r, _ =>
      have : ¬ ((r.length : Int) + 1 + 1 + 1 + 1 = 3) := by omega
      simp [fn__law_is_kernel, runFn_eq, finR_rt, finR_nx, finR_ite, ↓startE, ↓evSs, ↓evS, ↓evX, ↓evL, ↓evOs, ↓evBs, ↓evP, ↓evI, ↓asO_pk, ↓asO_var, ↓asO_con, ↓asO_glb, ↓asO_bin, ↓asO_neg, ↓asO_ife, ↓asO_tup, ↓asO_lst, ↓asO_idx, ↓asO_slc, ↓asO_rev, ↓asO_call, ↓asO_bi, ↓asO_join, ↓asO_pop, ↓asO_sset, ↓asO_cmp, ↓Res.bind, ↓asB, ↓asI, ↓asS, ↓asD, ↓Res.opt, ↓two, ↓resO, ↓S.get, ↓S.put, ↓S.put?, ↓asgT, ↓asgTs, ↓RX.dat, ↓obind_eq, ↓omap_eq, and_merge, or_merge, and_mergeB, or_mergeB, isiD, cmpD, lenD, binD, idxD, biD, nonD, atI_0, atI_1, atI_2, List.length_cons, List.length_nil, List.map_cons, List.map_nil, List.append_eq, List.cons_append, List.nil_append, List.getElem?_cons_zero, List.getElem?_cons_succ, List.getElem?_nil, List.mapM_cons, List.mapM_nil, Option.pure_def, Option.bind_eq_bind, id_eq, Bool.false_eq_true, List.foldl_cons, List.foldl_nil, ↓frzS, cmpOk_int, eqD_int, isKernelL, this]
    | [ts, ls, d], h =>
      have f1 := fits_mem h ts (by simp)
      have f2 := fits_mem h ls (by simp)
      have h1 := fun lo hi st => hw d lo hi st (fit_py (fits_mem h d (by simp)))
      have h2 : ∀ st, C.call i_o [ts, .int 6, .int 5] st = some (namesD (namesOf ts 6 5), st) := fun st => ho ts 6 5 st f1 (by omega) (by omega)
      have h3 : ∀ st, C.call i_o [ls, .int 4, .int 2] st = some (namesD (namesOf ls 4 2), st) := fun st => ho ls 4 2 st f2 (by omega) (by omega)
      cases q1 : withinD d 1 3 with
      | false => simp [fn__law_is_kernel, runFn_eq, finR_rt, finR_nx, finR_ite, ↓startE, ↓evSs, ↓evS, ↓evX, ↓evL, ↓evOs, ↓evBs, ↓evP, ↓evI, ↓asO_pk, ↓asO_var, ↓asO_con, ↓asO_glb, ↓asO_bin, ↓asO_neg, ↓asO_ife, ↓asO_tup, ↓asO_lst, ↓asO_idx, ↓asO_slc, ↓asO_rev, ↓asO_call, ↓asO_bi, ↓asO_join, ↓asO_pop, ↓asO_sset, ↓asO_cmp, ↓Res.bind, ↓asB, ↓asI, ↓asS, ↓asD, ↓Res.opt, ↓two, ↓resO, ↓S.get, ↓S.put, ↓S.put?, ↓asgT, ↓asgTs, ↓RX.dat, ↓obind_eq, ↓omap_eq, and_merge, or_merge, and_mergeB, or_mergeB, isiD, cmpD, lenD, binD, idxD, biD, nonD, atI_0, atI_1, atI_2, List.length_cons, List.length_nil, List.map_cons, List.map_nil, List.append_eq, List.cons_append, List.nil_append, List.getElem?_cons_zero, List.getElem?_cons_succ, List.getElem?_nil, List.mapM_cons, List.mapM_nil, Option.pure_def, Option.bind_eq_bind, id_eq, Bool.false_eq_true, List.foldl_cons, List.foldl_nil, ↓frzS, cmpOk_int, eqD_int, isKernelL, h1, q1]
      | true =>
      cases q2 : namesOf ts 6 5 with
      | none =>
        cases q3 : namesOf ls 4 2 <;> simp [fn__law_is_kernel, runFn_eq, finR_rt, finR_nx, finR_ite, ↓startE, ↓evSs, ↓evS, ↓evX, ↓evL, ↓evOs, ↓evBs, ↓evP, ↓evI, ↓asO_pk, ↓asO_var, ↓asO_con, ↓asO_glb, ↓asO_bin, ↓asO_neg, ↓asO_ife, ↓asO_tup, ↓asO_lst, ↓asO_idx, ↓asO_slc, ↓asO_rev, ↓asO_call, ↓asO_bi, ↓asO_join, ↓asO_pop, ↓asO_sset, ↓asO_cmp, ↓Res.bind, ↓asB, ↓asI, ↓asS, ↓asD, ↓Res.opt, ↓two, ↓resO, ↓S.get, ↓S.put, ↓S.put?, ↓asgT, ↓asgTs, ↓RX.dat, ↓obind_eq, ↓omap_eq, and_merge, or_merge, and_mergeB, or_mergeB, isiD, cmpD, lenD, binD, idxD, biD, nonD, atI_0, atI_1, atI_2, List.length_cons, List.length_nil, List.map_cons, List.map_nil, List.append_eq, List.cons_append, List.nil_append, List.getElem?_cons_zero, List.getElem?_cons_succ, List.getElem?_nil, List.mapM_cons, List.mapM_nil, Option.pure_def, Option.bind_eq_bind, id_eq, Bool.false_eq_true, List.foldl_cons, List.foldl_nil, ↓frzS, cmpOk_int, eqD_int, isKernelL, h1, q1, h2, q2, h3, q3, namesD]
      | some ns =>
      cases q3 : namesOf ls 4 2 with
      | none => simp [fn__law_is_kernel, runFn_eq, finR_rt, finR_nx, finR_ite, ↓startE, ↓evSs, ↓evS, ↓evX, ↓evL, ↓evOs, ↓evBs, ↓evP, ↓evI, ↓asO_pk, ↓asO_var, ↓asO_con, ↓asO_glb, ↓asO_bin, ↓asO_neg, ↓asO_ife, ↓asO_tup, ↓asO_lst, ↓asO_idx, ↓asO_slc, ↓asO_rev, ↓asO_call, ↓asO_bi, ↓asO_join, ↓asO_pop, ↓asO_sset, ↓asO_cmp, ↓Res.bind, ↓asB, ↓asI, ↓asS, ↓asD, ↓Res.opt, ↓two, ↓resO, ↓S.get, ↓S.put, ↓S.put?, ↓asgT, ↓asgTs, ↓RX.dat, ↓obind_eq, ↓omap_eq, and_merge, or_merge, and_mergeB, or_mergeB, isiD, cmpD, lenD, binD, idxD, biD, nonD, atI_0, atI_1, atI_2, List.length_cons, List.length_nil, List.map_cons, List.map_nil, List.append_eq, List.cons_append, List.nil_append, List.getElem?_cons_zero, List.getElem?_cons_succ, List.getElem?_nil, List.mapM_cons, List.mapM_nil, Option.pure_def, Option.bind_eq_bind, id_eq, Bool.false_eq_true, List.foldl_cons, List.foldl_nil, ↓frzS, cmpOk_int, eqD_int, isKernelL, h1, q1, h2, q2, h3, q3, namesD]
      | some ks =>
      obtain ⟨_, t, rfl, l1, o1⟩ := of_in q2
      obtain ⟨_, l, rfl, l2, o2⟩ := of_in q3
      simp only [fitD] at f1 f2
      have hc : evX C (ce__law_is_kernel_0 i_w i_o i_s i_e) ⟨kE (.tup [.tup t, .tup l, d]) ns ks none none none none none, st⟩ = .ok (.fr ((l.filter fun x => !capD x).map fun x => x)) ⟨kE (.tup [.tup t, .tup l, d]) ns ks none none none none none, st⟩ := by
        unfold ce__law_is_kernel_0
        rw [ev_comp_pure (xs := l) (fun x => !capD x) (fun x => x)]
        · simp [runFn_eq, finR_rt, finR_nx, finR_ite, ↓startE, ↓evSs, ↓evS, ↓evX, ↓evL, ↓evOs, ↓evBs, ↓evP, ↓evI, ↓asO_pk, ↓asO_var, ↓asO_con, ↓asO_glb, ↓asO_bin, ↓asO_neg, ↓asO_ife, ↓asO_tup, ↓asO_lst, ↓asO_idx, ↓asO_slc, ↓asO_rev, ↓asO_call, ↓asO_bi, ↓asO_join, ↓asO_pop, ↓asO_sset, ↓asO_cmp, ↓Res.bind, ↓asB, ↓asI, ↓asS, ↓asD, ↓Res.opt, ↓two, ↓resO, ↓S.get, ↓S.put, ↓S.put?, ↓asgT, ↓asgTs, ↓RX.dat, ↓obind_eq, ↓omap_eq, and_merge, or_merge, and_mergeB, or_mergeB, isiD, cmpD, lenD, binD, idxD, biD, nonD, atI_0, atI_1, atI_2, List.length_cons, List.length_nil, List.map_cons, List.map_nil, List.append_eq, List.cons_append, List.nil_append, List.getElem?_cons_zero, List.getElem?_cons_succ, List.getElem?_nil, List.mapM_cons, List.mapM_nil, Option.pure_def, Option.bind_eq_bind, id_eq, Bool.false_eq_true, List.foldl_cons, List.foldl_nil, ↓frzS, kE, seqD]
        · rw [sizeLine_eq]; omega
        · intro x hx
          refine compPure_id rfl rfl ?_ fun _ => rfl
          obtain ⟨n, c, rfl, _⟩ := ok2 (List.all_eq_true.mp o2 x hx)
          have hf := fits_mem f2 _ hx
          simp only [fitD] at hf
          have hq := fun lo hi st => hw c lo hi st (fit_py (fits_mem hf c (by simp)))
          simp [runFn_eq, finR_rt, finR_nx, finR_ite, ↓startE, ↓evSs, ↓evS, ↓evX, ↓evL, ↓evOs, ↓evBs, ↓evP, ↓evI, ↓asO_pk, ↓asO_var, ↓asO_con, ↓asO_glb, ↓asO_bin, ↓asO_neg, ↓asO_ife, ↓asO_tup, ↓asO_lst, ↓asO_idx, ↓asO_slc, ↓asO_rev, ↓asO_call, ↓asO_bi, ↓asO_join, ↓asO_pop, ↓asO_sset, ↓asO_cmp, ↓Res.bind, ↓asB, ↓asI, ↓asS, ↓asD, ↓Res.opt, ↓two, ↓resO, ↓S.get, ↓S.put, ↓S.put?, ↓asgT, ↓asgTs, ↓RX.dat, ↓obind_eq, ↓omap_eq, and_merge, or_merge, and_mergeB, or_mergeB, isiD, cmpD, lenD, binD, idxD, biD, nonD, atI_0, atI_1, atI_2, List.length_cons, List.length_nil, List.map_cons, List.map_nil, List.append_eq, List.cons_append, List.nil_append, List.getElem?_cons_zero, List.getElem?_cons_succ, List.getElem?_nil, List.mapM_cons, List.mapM_nil, Option.pure_def, Option.bind_eq_bind, id_eq, Bool.false_eq_true, List.foldl_cons, List.foldl_nil, ↓frzS, kE, compEnv, wipeE, roS, hq, capD]
      have ha := as_np (e := ce__law_is_kernel_0 i_w i_o i_s i_e) rfl hc
      have g0 := filter_empty capD l
      have g1 : isPys ((l.filter fun x => !capD x).map fun x => x) = true := by
        apply isPys_of
        intro x hx
        rw [List.map_id'] at hx
        exact fit_py (fits_mem f2 x (List.mem_filter.mp hx).1)
      generalize ((l.filter fun x => !capD x).map fun x => x) = ys at ha g0 g1
      have g2 := cmpOk_lst0 g1
      simp only [RX.dat, kE] at ha
      cases q4 : l.all capD with
      | false =>
        rw [q4] at g0
        simp [fn__law_is_kernel, runFn_eq, finR_rt, finR_nx, finR_ite, ↓startE, ↓evSs, ↓evS, ↓evX, ↓evL, ↓evOs, ↓evBs, ↓evP, ↓evI, ↓asO_pk, ↓asO_var, ↓asO_con, ↓asO_glb, ↓asO_bin, ↓asO_neg, ↓asO_ife, ↓asO_tup, ↓asO_lst, ↓asO_idx, ↓asO_slc, ↓asO_rev, ↓asO_call, ↓asO_bi, ↓asO_join, ↓asO_pop, ↓asO_sset, ↓asO_cmp, ↓Res.bind, ↓asB, ↓asI, ↓asS, ↓asD, ↓Res.opt, ↓two, ↓resO, ↓S.get, ↓S.put, ↓S.put?, ↓asgT, ↓asgTs, ↓RX.dat, ↓obind_eq, ↓omap_eq, and_merge, or_merge, and_mergeB, or_mergeB, isiD, cmpD, lenD, binD, idxD, biD, nonD, atI_0, atI_1, atI_2, List.length_cons, List.length_nil, List.map_cons, List.map_nil, List.append_eq, List.cons_append, List.nil_append, List.getElem?_cons_zero, List.getElem?_cons_succ, List.getElem?_nil, List.mapM_cons, List.mapM_nil, Option.pure_def, Option.bind_eq_bind, id_eq, Bool.false_eq_true, List.foldl_cons, List.foldl_nil, ↓frzS, cmpOk_int, eqD_int, isKernelL, h1, q1, h2, q2, h3, q3, namesD, ha, g2, eqD_lst0, g0, allTup, q4]
      | true =>
        rw [q4] at g0
        have hf : evS C (fo__law_is_kernel_2 i_w i_o i_s i_e) ⟨kE (.tup [.tup t, .tup l, d]) ns ks none none none none none, st⟩ = forL (evSs C (bo__law_is_kernel_2 i_w i_o i_s i_e)) (fun x s => asgT (.tup (.cons (.name 3) (.cons (.name 4) (.cons (.name 5) (.cons (.name 6) (.cons (.name 7) .nil)))))) (.d x) s) t ⟨kE (.tup [.tup t, .tup l, d]) ns ks none none none none none, st⟩ :=
          ev_for (by simp [runFn_eq, finR_rt, finR_nx, finR_ite, ↓startE, ↓evSs, ↓evS, ↓evX, ↓evL, ↓evOs, ↓evBs, ↓evP, ↓evI, ↓asO_pk, ↓asO_var, ↓asO_con, ↓asO_glb, ↓asO_bin, ↓asO_neg, ↓asO_ife, ↓asO_tup, ↓asO_lst, ↓asO_idx, ↓asO_slc, ↓asO_rev, ↓asO_call, ↓asO_bi, ↓asO_join, ↓asO_pop, ↓asO_sset, ↓asO_cmp, ↓Res.bind, ↓asB, ↓asI, ↓asS, ↓asD, ↓Res.opt, ↓two, ↓resO, ↓S.get, ↓S.put, ↓S.put?, ↓asgT, ↓asgTs, ↓RX.dat, ↓obind_eq, ↓omap_eq, and_merge, or_merge, and_mergeB, or_mergeB, isiD, cmpD, lenD, binD, idxD, biD, nonD, atI_0, atI_1, atI_2, List.length_cons, List.length_nil, List.map_cons, List.map_nil, List.append_eq, List.cons_append, List.nil_append, List.getElem?_cons_zero, List.getElem?_cons_succ, List.getElem?_nil, List.mapM_cons, List.mapM_nil, Option.pure_def, Option.bind_eq_bind, id_eq, Bool.false_eq_true, List.foldl_cons, List.foldl_nil, ↓frzS, kE, seqD])
        have lp := lk_loop (i_o := i_o) (x0 := .tup [.tup t, .tup l, d]) (ns := ns) (ks := ks) (st := st) hw hs he t none none none none none f1 o1
        simp only [← hf] at lp
        cases q5 : t.all fun t => isTaskL t ns ks with
        | false =>
          rw [q5] at lp
          simp only [Bool.false_eq_true, if_false] at lp
          obtain ⟨s2, p1, p2⟩ := finR_bl lp
          simp only [kE] at p1
          simp [fn__law_is_kernel, runFn_eq, finR_rt, finR_nx, finR_ite, ↓startE, ↓evSs, ↓evS, ↓evX, ↓evL, ↓evOs, ↓evBs, ↓evP, ↓evI, ↓asO_pk, ↓asO_var, ↓asO_con, ↓asO_glb, ↓asO_bin, ↓asO_neg, ↓asO_ife, ↓asO_tup, ↓asO_lst, ↓asO_idx, ↓asO_slc, ↓asO_rev, ↓asO_call, ↓asO_bi, ↓asO_join, ↓asO_pop, ↓asO_sset, ↓asO_cmp, ↓Res.bind, ↓asB, ↓asI, ↓asS, ↓asD, ↓Res.opt, ↓two, ↓resO, ↓S.get, ↓S.put, ↓S.put?, ↓asgT, ↓asgTs, ↓RX.dat, ↓obind_eq, ↓omap_eq, and_merge, or_merge, and_mergeB, or_mergeB, isiD, cmpD, lenD, binD, idxD, biD, nonD, atI_0, atI_1, atI_2, List.length_cons, List.length_nil, List.map_cons, List.map_nil, List.append_eq, List.cons_append, List.nil_append, List.getElem?_cons_zero, List.getElem?_cons_succ, List.getElem?_nil, List.mapM_cons, List.mapM_nil, Option.pure_def, Option.bind_eq_bind, id_eq, Bool.false_eq_true, List.foldl_cons, List.foldl_nil, ↓frzS, cmpOk_int, eqD_int, isKernelL, h1, q1, h2, q2, h3, q3, namesD, ha, g2, eqD_lst0, g0, allTup, q4, q5, p1, p2]
        | true =>
          rw [q5] at lp
          simp only [if_true] at lp
          obtain ⟨a, b, c, d', e, p1⟩ := lp
          simp only [kE] at p1
          simp [fn__law_is_kernel, runFn_eq, finR_rt, finR_nx, finR_ite, ↓startE, ↓evSs, ↓evS, ↓evX, ↓evL, ↓evOs, ↓evBs, ↓evP, ↓evI, ↓asO_pk, ↓asO_var, ↓asO_con, ↓asO_glb, ↓asO_bin, ↓asO_neg, ↓asO_ife, ↓asO_tup, ↓asO_lst, ↓asO_idx, ↓asO_slc, ↓asO_rev, ↓asO_call, ↓asO_bi, ↓asO_join, ↓asO_pop, ↓asO_sset, ↓asO_cmp, ↓Res.bind, ↓asB, ↓asI, ↓asS, ↓asD, ↓Res.opt, ↓two, ↓resO, ↓S.get, ↓S.put, ↓S.put?, ↓asgT, ↓asgTs, ↓RX.dat, ↓obind_eq, ↓omap_eq, and_merge, or_merge, and_mergeB, or_mergeB, isiD, cmpD, lenD, binD, idxD, biD, nonD, atI_0, atI_1, atI_2, List.length_cons, List.length_nil, List.map_cons, List.map_nil, List.append_eq, List.cons_append, List.nil_append, List.getElem?_cons_zero, List.getElem?_cons_succ, List.getElem?_nil, List.mapM_cons, List.mapM_nil, Option.pure_def, Option.bind_eq_bind, id_eq, Bool.false_eq_true, List.foldl_cons, List.foldl_nil, ↓frzS, cmpOk_int, eqD_int, isKernelL, h1, q1, h2, q2, h3, q3, namesD, ha, g2, eqD_lst0, g0, allTup, q4, q5, p1]
  | _ => simp [fn__law_is_kernel, runFn_eq, finR_rt, finR_nx, finR_ite, ↓startE, ↓evSs, ↓evS, ↓evX, ↓evL, ↓evOs, ↓evBs, ↓evP, ↓evI, ↓asO_pk, ↓asO_var, ↓asO_con, ↓asO_glb, ↓asO_bin, ↓asO_neg, ↓asO_ife, ↓asO_tup, ↓asO_lst, ↓asO_idx, ↓asO_slc, ↓asO_rev, ↓asO_call, ↓asO_bi, ↓asO_join, ↓asO_pop, ↓asO_sset, ↓asO_cmp, ↓Res.bind, ↓asB, ↓asI, ↓asS, ↓asD, ↓Res.opt, ↓two, ↓resO, ↓S.get, ↓S.put, ↓S.put?, ↓asgT, ↓asgTs, ↓RX.dat, ↓obind_eq, ↓omap_eq, and_merge, or_merge, and_mergeB, or_mergeB, isiD, cmpD, lenD, binD, idxD, biD, nonD, atI_0, atI_1, atI_2, List.length_cons, List.length_nil, List.map_cons, List.map_nil, List.append_eq, List.cons_append, List.nil_append, List.getElem?_cons_zero, List.getElem?_cons_succ, List.getElem?_nil, List.mapM_cons, List.mapM_nil, Option.pure_def, Option.bind_eq_bind, id_eq, Bool.false_eq_true, List.foldl_cons, List.foldl_nil, ↓frzS, isKernelL, fitD] at h ⊢
end DE
end

section
set_option Elab.async false
set_option linter.all false
set_option maxRecDepth 100000
set_option maxHeartbeats 2000000
namespace DE
open PySem L2
/-! draws -/
def Bag (st : Store) (n m : Nat) : Prop := ∃ a b c : Int, st[n]? = some [.int a, .int b, .int c] ∧ 0 ≤ c ∧ c + m ≤ 2 ^ 62
structure Nxt (st st' : Store) (n m : Nat) : Prop where
  len : st'.length = st.length
  oth : ∀ j, j ≠ n → st'[j]? = st[j]?
  bag : Bag st' n m
theorem Bag.le {st : Store} {n m m' : Nat} (h : Bag st n m) (q : m' ≤ m) : Bag st n m' := by
  obtain ⟨a, b, c, h1, h2, h3⟩ := h
  exact ⟨a, b, c, h1, h2, by omega⟩
theorem Nxt.trans {st st1 st2 : Store} {n m1 m2 : Nat} (h : Nxt st st1 n m1) (q : Nxt st1 st2 n m2) : Nxt st st2 n m2 :=
  ⟨q.len.trans h.len, fun j hj => (q.oth j hj).trans (h.oth j hj), q.bag⟩
theorem Nxt.refl {st : Store} {n m : Nat} (h : Bag st n m) : Nxt st st n m := ⟨rfl, fun _ _ => rfl, h⟩
def HK (C : Ctx) (i : Nat) : Prop := ∀ (st : Store) (n m : Nat) (many : Int), Bag st n (m + 1) → 1 ≤ many → many < 1073741824 → ∃ r st', C.call i [.loc n, .int many] st = some (.int r, st') ∧ 0 ≤ r ∧ r < many ∧ Nxt st st' n m
theorem ixN_0 (n : Nat) : ixN (n + 1) 0 = some 0 := by simp [ixN]
theorem ixN_2 (n : Nat) : ixN (n + 3) 2 = some 2 := by
  have : (2 : Int) < (n : Int) + 3 := by omega
  simp [ixN, this]
theorem nxt_set {st : Store} {n m : Nat} {a b c : Int} (hn : n < st.length) (h1 : 0 ≤ c) (h2 : c + m ≤ 2 ^ 62) : Nxt st (st.set n [.int a, .int b, .int c]) n m :=
  ⟨by simp, fun j hj => by rw [List.getElem?_set_ne (Ne.symm hj)], a, b, c, by simp [hn], h1, h2⟩
theorem take_ok {C : Ctx} {st : Store} {n m : Nat} {many : Int} (hb : Bag st n (m + 1)) (h1 : 1 ≤ many) (h2 : many < 1073741824) :
    ∃ r st', runFn C fn__law_take [.loc n, .int many] st = some (.int r, st') ∧ 0 ≤ r ∧ r < many ∧ Nxt st st' n m := by
  obtain ⟨a, b, c, e, c1, c2⟩ := hb
  have hn : n < st.length := (List.getElem?_eq_some_iff.mp e).1
  have z0 : many ≠ 0 := by omega
  have z1 : many.natAbs < 1073741824 := by omega
  have hf : ∀ (x : Int) (y : Int), 1 ≤ y → 0 ≤ x.fmod y ∧ x.fmod y < y := fun x y hy => ⟨Int.fmod_nonneg_of_pos x (by omega), Int.fmod_lt_of_pos x (by omega)⟩
  by_cases h : 0 < a
  · refine ⟨a.fmod many, st.set n [.int (a.fdiv many), .int b, .int c], ?_, (hf a many h1).1, (hf a many h1).2, nxt_set hn c1 (by omega)⟩
    simp [fn__law_take, runFn_eq, finR_rt, finR_nx, finR_ite, ↓startE, ↓evSs, ↓evS, ↓evX, ↓evL, ↓evOs, ↓evBs, ↓evP, ↓evI, ↓asO_pk, ↓asO_var, ↓asO_con, ↓asO_glb, ↓asO_bin, ↓asO_neg, ↓asO_ife, ↓asO_tup, ↓asO_lst, ↓asO_idx, ↓asO_slc, ↓asO_rev, ↓asO_call, ↓asO_bi, ↓asO_join, ↓asO_pop, ↓asO_sset, ↓asO_cmp, ↓Res.bind, ↓asB, ↓asI, ↓asS, ↓asD, ↓Res.opt, ↓two, ↓resO, ↓S.get, ↓S.put, ↓S.put?, ↓asgT, ↓asgTs, ↓RX.dat, ↓obind_eq, ↓omap_eq, and_merge, or_merge, and_mergeB, or_mergeB, isiD, cmpD, lenD, binD, idxD, biD, nonD, atI_0, atI_1, atI_2, List.length_cons, List.length_nil, List.map_cons, List.map_nil, List.append_eq, List.cons_append, List.nil_append, List.getElem?_cons_zero, List.getElem?_cons_succ, List.getElem?_nil, List.mapM_cons, List.mapM_nil, Option.pure_def, Option.bind_eq_bind, id_eq, Bool.false_eq_true, List.foldl_cons, List.foldl_nil, ↓frzS, e, h, z0, z1, ixN_0]
  · have p1 : (1 : Int) ≤ 2305843009213693951 := by omega
    have es : ∀ l : List D, (st.set n l)[n]? = some l := fun l => by simp [hn]
    obtain ⟨n1, hq⟩ : ∃ n1, (b + 1000003 * (c + 1)).fmod 2305843009213693951 = n1 := ⟨_, rfl⟩
    have f1 := hf (b + 1000003 * (c + 1)) 2305843009213693951 p1
    rw [hq] at f1
    obtain ⟨n2, hq2⟩ : ∃ n2, (n1 * n1 + 7919 * (c + 1) ^ 2 + 5).fmod 2305843009213693951 = n2 := ⟨_, rfl⟩
    have f2 := hf (n1 * n1 + 7919 * (c + 1) ^ 2 + 5) 2305843009213693951 p1
    rw [hq2] at f2
    have g1 : n1.natAbs < 18446744073709551616 := by omega
    have g2 : n2.natAbs < 18446744073709551616 := by omega
    have g3 : (c + 1).natAbs < 18446744073709551616 := by omega
    refine ⟨(((n2 ^ 3).fmod 2305843009213693951).fdiv 13).fmod many, st.set n [.int a, .int b, .int (c + 1)], ?_, (hf _ many h1).1, (hf _ many h1).2, nxt_set hn (by omega) (by omega)⟩
    simp [fn__law_take, runFn_eq, finR_rt, finR_nx, finR_ite, ↓startE, ↓evSs, ↓evS, ↓evX, ↓evL, ↓evOs, ↓evBs, ↓evP, ↓evI, ↓asO_pk, ↓asO_var, ↓asO_con, ↓asO_glb, ↓asO_bin, ↓asO_neg, ↓asO_ife, ↓asO_tup, ↓asO_lst, ↓asO_idx, ↓asO_slc, ↓asO_rev, ↓asO_call, ↓asO_bi, ↓asO_join, ↓asO_pop, ↓asO_sset, ↓asO_cmp, ↓Res.bind, ↓asB, ↓asI, ↓asS, ↓asD, ↓Res.opt, ↓two, ↓resO, ↓S.get, ↓S.put, ↓S.put?, ↓asgT, ↓asgTs, ↓RX.dat, ↓obind_eq, ↓omap_eq, and_merge, or_merge, and_mergeB, or_mergeB, isiD, cmpD, lenD, binD, idxD, biD, nonD, atI_0, atI_1, atI_2, List.length_cons, List.length_nil, List.map_cons, List.map_nil, List.append_eq, List.cons_append, List.nil_append, List.getElem?_cons_zero, List.getElem?_cons_succ, List.getElem?_nil, List.mapM_cons, List.mapM_nil, Option.pure_def, Option.bind_eq_bind, id_eq, Bool.false_eq_true, List.foldl_cons, List.foldl_nil, ↓frzS, e, h, z0, z1, ixN_2, es, hq, g1, g2, g3, hq2]
end DE
end

section
set_option Elab.async false
set_option linter.all false
set_option maxRecDepth 100000
set_option maxHeartbeats 2000000
namespace DE
open PySem L2
theorem atI_ok {xs : List D} {r : Int} (h1 : 0 ≤ r) (h2 : r < xs.length) : ∃ y, atI xs r = some y ∧ y ∈ xs := by
  have h3 : r.toNat < xs.length := by omega
  refine ⟨xs[r.toNat], ?_, List.getElem_mem h3⟩
  unfold atI ixN
  rw [if_pos h1, if_pos h2]
  simp [h3]
theorem ev_comp2 {C : Ctx} {own : List Nat} {t : CT} {it : CI} {conds : CEs} {elt : CE} {s s1 : S} {xs ds : List D} {st' : Store} (hi : evI C it s = .ok xs s1)
    (hb : compL (compEnv own s1.env) (fun x s => asgT t (.d x) s) (evBs C conds) (fun s => asD (evX C elt s)) xs [] s1.st = some (ds, st')) : evX C (.comp own t it conds elt) s = .ok (.fr ds) { s1 with st := st' } := by
  simp only [evX, hi, bind_ok, hb]
theorem compL_eff {e : Env} {tg : D → S → Option S} {cond : S → Res Bool} {elt : S → Res D} (I : Nat → Store → Prop) (P : D → Prop) : ∀ (xs acc : List D) (st : Store),
    (∀ x ∈ xs, ∀ (j : Nat) (st : Store), I (j + 1) st → ∃ s1 s2 d s3, tg x ⟨e, st⟩ = some s1 ∧ cond s1 = .ok true s2 ∧ elt s2 = .ok d s3 ∧ P d ∧ I j s3.st) → acc.length + xs.length ≤ sizeLine → I xs.length st →
    ∃ ds st', compL e tg cond elt xs acc st = some (acc ++ ds, st') ∧ ds.length = xs.length ∧ (∀ d ∈ ds, P d) ∧ I 0 st'
  | [], acc, st, _, _, hI => ⟨[], st, by simp [compL], rfl, by simp, hI⟩
  | x :: xs, acc, st, h, hl, hI => by
    obtain ⟨s1, s2, d, s3, h1, h2, h3, h4, h5⟩ := h x (by simp) xs.length st hI
    obtain ⟨ds, st', q1, q2, q3, q4⟩ := compL_eff I P xs (acc ++ [d]) s3.st (fun y hy => h y (by simp [hy])) (by simp at hl ⊢; omega) h5
    refine ⟨d :: ds, st', ?_, by simp [q2], fun y hy => ?_, q4⟩
    · unfold compL
      rw [h1]
      dsimp only
      rw [h2]
      dsimp only
      rw [h3]
      dsimp only
      rw [if_pos (by simp at hl; omega), q1]
      simp
    · rcases List.mem_cons.mp hy with rfl | hy
      · exact h4
      · exact q3 y hy
theorem join_chars (cs : List Nat) : Txt.join (Str.ofString "") (cs.map fun c => (⟨#[c]⟩ : Str)) = ⟨cs.toArray⟩ := by
  have key : ∀ (cs : List Nat) (acc : Array Nat), ((cs.map fun c => (⟨#[c]⟩ : Str)).foldl (fun acc p => acc ++ (Str.ofString "").cps ++ p.cps) acc) = acc ++ cs.toArray := by
    intro cs
    induction cs with
    | nil => intro acc; simp
    | cons c r ih =>
      intro acc
      rw [List.map_cons, List.foldl_cons, ih]
      have : (Str.ofString "").cps = #[] := by decide +kernel
      rw [this]
      simp
  cases cs with
  | nil =>
    show (⟨((([] : List Str).drop 1).foldl (fun acc p => acc ++ (Str.ofString "").cps ++ p.cps) (([] : List Str).headD Str.empty).cps)⟩ : Str) = _
    rfl
  | cons c r =>
    show (⟨((r.map fun c => (⟨#[c]⟩ : Str)).foldl (fun acc p => acc ++ (Str.ofString "").cps ++ p.cps) #[c])⟩ : Str) = _
    rw [key]
    simp
def HM (C : Ctx) (i : Nat) : Prop := ∀ (st : Store) (n m : Nat), Bag st n (m + 12) → ∃ z st', C.call i [.loc n] st = some (.str z, st') ∧ nameS z = true ∧ Nxt st st' n m
theorem lows_of : ∀ {ds : List D}, (∀ d ∈ ds, ∃ c, d = D.str ⟨#[c]⟩ ∧ isLow c = true) → ∃ cs : List Nat, ds = cs.map (fun c => D.str ⟨#[c]⟩) ∧ cs.all isLow = true
  | [], _ => ⟨[], rfl, rfl⟩
  | d :: r, h => by
    obtain ⟨c, rfl, hc⟩ := h d (by simp)
    obtain ⟨cs, e, q⟩ := lows_of (ds := r) fun y hy => h y (by simp [hy])
    exact ⟨c :: cs, by rw [e]; rfl, by simp [hc, q]⟩
theorem name_ok {C : Ctx} {i : Nat} {st : Store} {n m : Nat} (hk : HK C i) (hb : Bag st n (m + 12)) : ∃ z st', runFn C (fn__law_name i) [.loc n] st = some (.str z, st') ∧ nameS z = true ∧ Nxt st st' n m := by
  obtain ⟨r1, s1, e1, _, _, n1⟩ := hk st n (m + 11) 4 hb (by omega) (by omega)
  by_cases h : 0 < r1
  · obtain ⟨r2, s2, e2, a1, a2, n2⟩ := hk s1 n (m + 10) 7 n1.bag (by omega) (by omega)
    obtain ⟨y, ey, hy⟩ := atI_ok (xs := [.str "a", .str "b", .str "c", .str "ann", .str "bo", .str "room", .str "z"]) a1 a2
    have hz : ∃ z, y = .str z ∧ nameS z = true := by
      simp only [List.mem_cons, List.not_mem_nil, or_false] at hy
      rcases hy with rfl | rfl | rfl | rfl | rfl | rfl | rfl <;> exact ⟨_, rfl, by decide +kernel⟩
    obtain ⟨z, rfl, hz⟩ := hz
    refine ⟨z, s2, ?_, hz, (n1.trans n2).trans (.refl (n2.bag.le (by omega)))⟩
    simp [fn__law_name, runFn_eq, finR_rt, finR_nx, finR_ite, ↓startE, ↓evSs, ↓evS, ↓evX, ↓evL, ↓evOs, ↓evBs, ↓evP, ↓evI, ↓asO_pk, ↓asO_var, ↓asO_con, ↓asO_glb, ↓asO_bin, ↓asO_neg, ↓asO_ife, ↓asO_tup, ↓asO_lst, ↓asO_idx, ↓asO_slc, ↓asO_rev, ↓asO_call, ↓asO_bi, ↓asO_join, ↓asO_pop, ↓asO_sset, ↓asO_cmp, ↓Res.bind, ↓asB, ↓asI, ↓asS, ↓asD, ↓Res.opt, ↓two, ↓resO, ↓S.get, ↓S.put, ↓S.put?, ↓asgT, ↓asgTs, ↓RX.dat, ↓obind_eq, ↓omap_eq, and_merge, or_merge, and_mergeB, or_mergeB, isiD, cmpD, lenD, binD, idxD, biD, nonD, atI_0, atI_1, atI_2, List.length_cons, List.length_nil, List.map_cons, List.map_nil, List.append_eq, List.cons_append, List.nil_append, List.getElem?_cons_zero, List.getElem?_cons_succ, List.getElem?_nil, List.mapM_cons, List.mapM_nil, Option.pure_def, Option.bind_eq_bind, id_eq, Bool.false_eq_true, List.foldl_cons, List.foldl_nil, ↓frzS, e1, h, e2, ey, sizeLine_eq]
  · obtain ⟨r2, s2, e2, a1, a2, n2⟩ := hk s1 n (m + 10) 3 n1.bag (by omega) (by omega)
    obtain ⟨y, ey, hy⟩ := atI_ok (xs := [.int 1, .int 2, .int 8]) a1 a2
    have hz : ∃ q : Nat, y = .int q ∧ 1 ≤ q ∧ q ≤ 8 := by
      simp only [List.mem_cons, List.not_mem_nil, or_false] at hy
      rcases hy with rfl | rfl | rfl
      · exact ⟨1, rfl, by omega, by omega⟩
      · exact ⟨2, rfl, by omega, by omega⟩
      · exact ⟨8, rfl, by omega, by omega⟩
    obtain ⟨q, rfl, q1, q2⟩ := hz
    have hlen : (rangeD 0 q).length = q := by simp [rangeD]
    obtain ⟨ds, st', c1, c2, c3, c4⟩ := compL_eff (e := compEnv [2, 3] [some (.val (.loc n)), some (.val (.str letters)), none, none]) (tg := fun x s => asgT (.name 3) (.d x) s) (cond := evBs C .nil) (elt := fun s => asD (evX C (el__law_name_0 i) s))
      (fun j st => Nxt s2 st n (m + j)) (fun d => ∃ c, d = D.str ⟨#[c]⟩ ∧ isLow c = true) (rangeD 0 q) [] s2 (by
        intro x hx j st0 hI
        obtain ⟨r3, s3, e3, b1, b2, n3⟩ := hk st0 n (m + j) 26 hI.bag (by omega) (by omega)
        have hl : letters.cps.toList.length = 26 := by decide +kernel
        have b2' : r3 < letters.cps.toList.length := by rw [hl]; exact b2
        have hl2 : letters.length ≤ sizeLine := by rw [sizeLine_eq]; decide +kernel
        have b3 : r3.toNat < letters.cps.toList.length := by omega
        have ea : atI letters.cps.toList r3 = some letters.cps.toList[r3.toNat] := by
          unfold atI ixN
          rw [if_pos b1, if_pos b2']
          simp [b3]
        refine ⟨⟨[some (.val (.loc n)), some (.val (.str letters)), none, some (.val x)], st0⟩, ⟨[some (.val (.loc n)), some (.val (.str letters)), none, some (.val x)], st0⟩, .str ⟨#[letters.cps.toList[r3.toNat]]⟩,
          ⟨[some (.val (.loc n)), some (.val (.str letters)), none, some (.val x)], s3⟩, rfl, rfl, ?_, ⟨_, rfl, decide_eq_true (List.getElem_mem b3)⟩, hI.trans n3⟩
        simp [el__law_name_0, runFn_eq, finR_rt, finR_nx, finR_ite, ↓startE, ↓evSs, ↓evS, ↓evX, ↓evL, ↓evOs, ↓evBs, ↓evP, ↓evI, ↓asO_pk, ↓asO_var, ↓asO_con, ↓asO_glb, ↓asO_bin, ↓asO_neg, ↓asO_ife, ↓asO_tup, ↓asO_lst, ↓asO_idx, ↓asO_slc, ↓asO_rev, ↓asO_call, ↓asO_bi, ↓asO_join, ↓asO_pop, ↓asO_sset, ↓asO_cmp, ↓Res.bind, ↓asB, ↓asI, ↓asS, ↓asD, ↓Res.opt, ↓two, ↓resO, ↓S.get, ↓S.put, ↓S.put?, ↓asgT, ↓asgTs, ↓RX.dat, ↓obind_eq, ↓omap_eq, and_merge, or_merge, and_mergeB, or_mergeB, isiD, cmpD, lenD, binD, idxD, biD, nonD, atI_0, atI_1, atI_2, List.length_cons, List.length_nil, List.map_cons, List.map_nil, List.append_eq, List.cons_append, List.nil_append, List.getElem?_cons_zero, List.getElem?_cons_succ, List.getElem?_nil, List.mapM_cons, List.mapM_nil, Option.pure_def, Option.bind_eq_bind, id_eq, Bool.false_eq_true, List.foldl_cons, List.foldl_nil, ↓frzS, e3, ea, hl2]) (by rw [hlen, sizeLine_eq]; simp; omega) (by rw [hlen]; exact .refl (n2.bag.le (by omega)))
    have hc : evX C (ce__law_name_0 i) ⟨[some (.val (.loc n)), some (.val (.str letters)), none, none], s1⟩ = .ok (.fr ds) ⟨[some (.val (.loc n)), some (.val (.str letters)), none, none], st'⟩ := by
      unfold ce__law_name_0
      refine ev_comp2 (s1 := ⟨[some (.val (.loc n)), some (.val (.str letters)), none, none], s2⟩) ?_ c1
      have p1 : q < 4611686018427387904 := by omega
      simp [runFn_eq, finR_rt, finR_nx, finR_ite, ↓startE, ↓evSs, ↓evS, ↓evX, ↓evL, ↓evOs, ↓evBs, ↓evP, ↓evI, ↓asO_pk, ↓asO_var, ↓asO_con, ↓asO_glb, ↓asO_bin, ↓asO_neg, ↓asO_ife, ↓asO_tup, ↓asO_lst, ↓asO_idx, ↓asO_slc, ↓asO_rev, ↓asO_call, ↓asO_bi, ↓asO_join, ↓asO_pop, ↓asO_sset, ↓asO_cmp, ↓Res.bind, ↓asB, ↓asI, ↓asS, ↓asD, ↓Res.opt, ↓two, ↓resO, ↓S.get, ↓S.put, ↓S.put?, ↓asgT, ↓asgTs, ↓RX.dat, ↓obind_eq, ↓omap_eq, and_merge, or_merge, and_mergeB, or_mergeB, isiD, cmpD, lenD, binD, idxD, biD, nonD, atI_0, atI_1, atI_2, List.length_cons, List.length_nil, List.map_cons, List.map_nil, List.append_eq, List.cons_append, List.nil_append, List.getElem?_cons_zero, List.getElem?_cons_succ, List.getElem?_nil, List.mapM_cons, List.mapM_nil, Option.pure_def, Option.bind_eq_bind, id_eq, Bool.false_eq_true, List.foldl_cons, List.foldl_nil, ↓frzS, e2, ey, sizeLine_eq, p1]
    have ha := as_np (e := ce__law_name_0 i) rfl hc
    simp only [RX.dat, letters] at ha
    obtain ⟨cs, rfl, hcs⟩ := lows_of c3
    have hl : cs.length = q := by rw [← hlen, ← c2, List.length_map]
    have hm : cs.map (fun c => D.str ⟨#[c]⟩) = (cs.map fun c => (⟨#[c]⟩ : Str)).map D.str := by rw [List.map_map]; rfl
    rw [hm] at ha
    have hsum : ((cs.map fun c => (⟨#[c]⟩ : Str)).map (·.length)).sum + (cs.map fun c => (⟨#[c]⟩ : Str)).length * (Str.ofString "").length ≤ 16777216 := by
      have z : (Str.ofString "").length = 0 := by decide +kernel
      rw [z, Nat.mul_zero, List.map_map]
      have : ((·.length) ∘ fun c => (⟨#[c]⟩ : Str)) = fun _ : Nat => 1 := rfl
      rw [this]
      have s : ∀ l : List Nat, (l.map fun _ => 1).sum = l.length := fun l => by induction l with | nil => rfl | cons a b ih => simp [ih]; omega
      rw [s]
      omega
    refine ⟨⟨cs.toArray⟩, st', ?_, ?_, (n1.trans n2).trans (by
      have := c4
      exact this)⟩
    · generalize hss : (cs.map fun c => (⟨#[c]⟩ : Str)) = ss at ha hsum
      have hj := join_chars cs
      rw [hss] at hj
      simp [fn__law_name, runFn_eq, finR_rt, finR_nx, finR_ite, ↓startE, ↓evSs, ↓evS, ↓evX, ↓evL, ↓evOs, ↓evBs, ↓evP, ↓evI, ↓asO_pk, ↓asO_var, ↓asO_con, ↓asO_glb, ↓asO_bin, ↓asO_neg, ↓asO_ife, ↓asO_tup, ↓asO_lst, ↓asO_idx, ↓asO_slc, ↓asO_rev, ↓asO_call, ↓asO_bi, ↓asO_join, ↓asO_pop, ↓asO_sset, ↓asO_cmp, ↓Res.bind, ↓asB, ↓asI, ↓asS, ↓asD, ↓Res.opt, ↓two, ↓resO, ↓S.get, ↓S.put, ↓S.put?, ↓asgT, ↓asgTs, ↓RX.dat, ↓obind_eq, ↓omap_eq, and_merge, or_merge, and_mergeB, or_mergeB, isiD, cmpD, lenD, binD, idxD, biD, nonD, atI_0, atI_1, atI_2, List.length_cons, List.length_nil, List.map_cons, List.map_nil, List.append_eq, List.cons_append, List.nil_append, List.getElem?_cons_zero, List.getElem?_cons_succ, List.getElem?_nil, List.mapM_cons, List.mapM_nil, Option.pure_def, Option.bind_eq_bind, id_eq, Bool.false_eq_true, List.foldl_cons, List.foldl_nil, ↓frzS, e1, h, ha, strsD_map, hsum, hj]
    · have e1 : (⟨cs.toArray⟩ : Str).length = cs.length := by simp [Str.length]
      simp [nameS, e1, hl, q1, q2, hcs]
end DE
end

section
set_option Elab.async false
set_option linter.all false
set_option maxRecDepth 100000
set_option maxHeartbeats 4000000
namespace DE
open PySem L2
/-! some names -/
theorem forL_eff {body : S → Res Flow} {tg : D → S → Option S} (I : List D → S → Prop) (hs : ∀ x r s, I (x :: r) s → ∃ s1 s2, tg x s = some s1 ∧ body s1 = .ok .nx s2 ∧ I r s2) : ∀ (xs : List D) (s : S), I xs s → ∃ s', forL body tg xs s = .ok .nx s' ∧ I [] s'
  | [], s, h => ⟨s, rfl, h⟩
  | x :: r, s, h => by
    obtain ⟨s1, s2, h1, h2, h3⟩ := hs x r s h
    obtain ⟨s', q1, q2⟩ := forL_eff I hs r s2 h3
    refine ⟨s', ?_, q2⟩
    unfold forL
    simp only [h1, opt_some, bind_ok, h2]
    exact q1
def HMs (C : Ctx) (i : Nat) : Prop := ∀ (st : Store) (n m many : Nat), many ≤ 6 → Bag st n (m + 72) → ∃ ns st', C.call i [.loc n, .int many] st = some (.lst (ns.map D.str), st') ∧ ns.all nameS = true ∧ risesS ns = true ∧ ns.length ≤ many ∧ (1 ≤ many → ns ≠ []) ∧ Nxt st st' n m
theorem names_step {C : Ctx} {i : Nat} {n m many : Nat} {st : Store} (hm : HM C i) (h6 : many ≤ 6) (x : D) (r : List D) (found : List Str) (st' : Store) (a b : Option Slot) (f1 : found.Nodup) (f2 : found.all nameS = true) (f3 : found.length + (r.length + 1) ≤ many) (f5 : Nxt st st' n (m + 12 * (r.length + 1))) :
    ∃ s2, evSs C (bo__law_some_names_0 i) ⟨[some (.val (.loc n)), some (.val (.int many)), some (.own (found.map D.str)), some (.val x), b], st'⟩ = .ok .nx s2 ∧
      ∃ (found : List Str) (st' : Store) (a b : Option Slot), s2 = ⟨[some (.val (.loc n)), some (.val (.int many)), some (.own (found.map D.str)), a, b], st'⟩ ∧ found.Nodup ∧ found.all nameS = true ∧ found.length + r.length ≤ many ∧ found ≠ [] ∧ Nxt st st' n (m + 12 * r.length) := by
  obtain ⟨z, st2, e, hz, nx⟩ := hm st' n (m + 12 * r.length) (f5.bag.le (by omega))
  by_cases hin : z ∈ found
  · refine ⟨⟨[some (.val (.loc n)), some (.val (.int many)), some (.own (found.map D.str)), some (.val x), some (.val (.str z))], st2⟩, ?_, found, st2, _, _, rfl, f1, f2, by omega, fun h => ?_, f5.trans nx⟩
    · simp [bo__law_some_names_0, runFn_eq, finR_rt, finR_nx, finR_ite, ↓startE, ↓evSs, ↓evS, ↓evX, ↓evL, ↓evOs, ↓evBs, ↓evP, ↓evI, ↓asO_pk, ↓asO_var, ↓asO_con, ↓asO_glb, ↓asO_bin, ↓asO_neg, ↓asO_ife, ↓asO_tup, ↓asO_lst, ↓asO_idx, ↓asO_slc, ↓asO_rev, ↓asO_call, ↓asO_bi, ↓asO_join, ↓asO_pop, ↓asO_sset, ↓asO_cmp, ↓Res.bind, ↓asB, ↓asI, ↓asS, ↓asD, ↓Res.opt, ↓two, ↓resO, ↓S.get, ↓S.put, ↓S.put?, ↓asgT, ↓asgTs, ↓RX.dat, ↓obind_eq, ↓omap_eq, and_merge, or_merge, and_mergeB, or_mergeB, isiD, cmpD, lenD, binD, idxD, biD, nonD, atI_0, atI_1, atI_2, List.length_cons, List.length_nil, List.map_cons, List.map_nil, List.append_eq, List.cons_append, List.nil_append, List.getElem?_cons_zero, List.getElem?_cons_succ, List.getElem?_nil, List.mapM_cons, List.mapM_nil, Option.pure_def, Option.bind_eq_bind, id_eq, Bool.false_eq_true, List.foldl_cons, List.foldl_nil, ↓frzS, e, memD_strs, hin]
    · subst h
      cases hin
  · refine ⟨⟨[some (.val (.loc n)), some (.val (.int many)), some (.own ((found ++ [z]).map D.str)), some (.val x), some (.val (.str z))], st2⟩, ?_, found ++ [z], st2, _, _, rfl, ?_, ?_, by simp; omega, by simp, f5.trans nx⟩
    · have hl : found.length < sizeLine := by rw [sizeLine_eq]; omega
      simp [bo__law_some_names_0, runFn_eq, finR_rt, finR_nx, finR_ite, ↓startE, ↓evSs, ↓evS, ↓evX, ↓evL, ↓evOs, ↓evBs, ↓evP, ↓evI, ↓asO_pk, ↓asO_var, ↓asO_con, ↓asO_glb, ↓asO_bin, ↓asO_neg, ↓asO_ife, ↓asO_tup, ↓asO_lst, ↓asO_idx, ↓asO_slc, ↓asO_rev, ↓asO_call, ↓asO_bi, ↓asO_join, ↓asO_pop, ↓asO_sset, ↓asO_cmp, ↓Res.bind, ↓asB, ↓asI, ↓asS, ↓asD, ↓Res.opt, ↓two, ↓resO, ↓S.get, ↓S.put, ↓S.put?, ↓asgT, ↓asgTs, ↓RX.dat, ↓obind_eq, ↓omap_eq, and_merge, or_merge, and_mergeB, or_mergeB, isiD, cmpD, lenD, binD, idxD, biD, nonD, atI_0, atI_1, atI_2, List.length_cons, List.length_nil, List.map_cons, List.map_nil, List.append_eq, List.cons_append, List.nil_append, List.getElem?_cons_zero, List.getElem?_cons_succ, List.getElem?_nil, List.mapM_cons, List.mapM_nil, Option.pure_def, Option.bind_eq_bind, id_eq, Bool.false_eq_true, List.foldl_cons, List.foldl_nil, ↓frzS, e, memD_strs, hin, lstSlot, hl]
    · rw [List.nodup_append]
      exact ⟨f1, by simp, fun x hx y hy => by simp at hy; subst hy; rintro rfl; exact hin hx⟩
    · simp [f2, hz]
theorem names_loop' {C : Ctx} {i : Nat} {st : Store} {n m many : Nat} (hm : HM C i) (h6 : many ≤ 6) : ∀ (xs : List D) (found : List Str) (st' : Store) (a b : Option Slot), found.Nodup → found.all nameS = true → found.length + xs.length ≤ many → (xs = [] → 1 ≤ many → found ≠ []) → Nxt st st' n (m + 12 * xs.length) →
    ∃ (found' : List Str) (st2 : Store) (a' b' : Option Slot), forL (evSs C (bo__law_some_names_0 i)) (fun x s => asgT (.name 3) (.d x) s) xs ⟨[some (.val (.loc n)), some (.val (.int many)), some (.own (found.map D.str)), a, b], st'⟩ =
      .ok .nx ⟨[some (.val (.loc n)), some (.val (.int many)), some (.own (found'.map D.str)), a', b'], st2⟩ ∧ found'.Nodup ∧ found'.all nameS = true ∧ found'.length ≤ many ∧ (1 ≤ many → found' ≠ []) ∧ Nxt st st2 n m
  | [], found, st', a, b, f1, f2, f3, f4, f5 => ⟨found, st', a, b, rfl, f1, f2, by simpa using f3, f4 rfl, by simpa using f5⟩
  | x :: r, found, st', a, b, f1, f2, f3, f4, f5 => by
    obtain ⟨s2, e2, found2, st2, a2, b2, rfl, g1, g2, g3, g4, g5⟩ := names_step (a := a) (b := b) hm h6 x r found st' f1 f2 (by simpa using f3) (by simpa using f5)
    obtain ⟨f', st3, a3, b3, q1, q2⟩ := names_loop' hm h6 r found2 st2 a2 b2 g1 g2 g3 (fun _ _ => g4) g5
    refine ⟨f', st3, a3, b3, ?_, q2⟩
    have e1 : asgT (.name 3) (.d x) ⟨[some (.val (.loc n)), some (.val (.int many)), some (.own (found.map D.str)), a, b], st'⟩ = some ⟨[some (.val (.loc n)), some (.val (.int many)), some (.own (found.map D.str)), some (.val x), b], st'⟩ := rfl
    unfold forL
    simp only [e1, opt_some, bind_ok, e2]
    exact q1
theorem names_ok {C : Ctx} {i : Nat} {st : Store} {n m many : Nat} (hm : HM C i) (h6 : many ≤ 6) (hb : Bag st n (m + 72)) :
    ∃ ns st', runFn C (fn__law_some_names i) [.loc n, .int many] st = some (.lst (ns.map D.str), st') ∧ ns.all nameS = true ∧ risesS ns = true ∧ ns.length ≤ many ∧ (1 ≤ many → ns ≠ []) ∧ Nxt st st' n m := by
  have hlen : (rangeD 0 many).length = many := by simp [rangeD]
  obtain ⟨found, st', a, b, q1, f1, f2, f3, f4, f5⟩ := names_loop' (st := st) (m := m) hm h6 (rangeD 0 many) [] st none none List.nodup_nil rfl (by rw [hlen]; simp) (fun h z => by rw [h] at hlen; simp at hlen; omega) (.refl (hb.le (by rw [hlen]; omega)))
  have p1 : many < 4611686018427387904 := by omega
  have hf : evS C (fo__law_some_names_0 i) ⟨[some (.val (.loc n)), some (.val (.int many)), some (.own []), none, none], st⟩ = forL (evSs C (bo__law_some_names_0 i)) (fun x s => asgT (.name 3) (.d x) s) (rangeD 0 many) ⟨[some (.val (.loc n)), some (.val (.int many)), some (.own []), none, none], st⟩ := by
    unfold fo__law_some_names_0
    exact ev_for (C := C) (t := .name 3) (it := .range (.var 1)) (body := bo__law_some_names_0 i) (s := ⟨[some (.val (.loc n)), some (.val (.int many)), some (.own []), none, none], st⟩) (s1 := ⟨[some (.val (.loc n)), some (.val (.int many)), some (.own []), none, none], st⟩) (xs := rangeD 0 many) (by simp [runFn_eq, finR_rt, finR_nx, finR_ite, ↓startE, ↓evSs, ↓evS, ↓evX, ↓evL, ↓evOs, ↓evBs, ↓evP, ↓evI, ↓asO_pk, ↓asO_var, ↓asO_con, ↓asO_glb, ↓asO_bin, ↓asO_neg, ↓asO_ife, ↓asO_tup, ↓asO_lst, ↓asO_idx, ↓asO_slc, ↓asO_rev, ↓asO_call, ↓asO_bi, ↓asO_join, ↓asO_pop, ↓asO_sset, ↓asO_cmp, ↓Res.bind, ↓asB, ↓asI, ↓asS, ↓asD, ↓Res.opt, ↓two, ↓resO, ↓S.get, ↓S.put, ↓S.put?, ↓asgT, ↓asgTs, ↓RX.dat, ↓obind_eq, ↓omap_eq, and_merge, or_merge, and_mergeB, or_mergeB, isiD, cmpD, lenD, binD, idxD, biD, nonD, atI_0, atI_1, atI_2, List.length_cons, List.length_nil, List.map_cons, List.map_nil, List.append_eq, List.cons_append, List.nil_append, List.getElem?_cons_zero, List.getElem?_cons_succ, List.getElem?_nil, List.mapM_cons, List.mapM_nil, Option.pure_def, Option.bind_eq_bind, id_eq, Bool.false_eq_true, List.foldl_cons, List.foldl_nil, ↓frzS, p1])
  simp only [List.map_nil] at q1
  rw [q1] at hf
  have l64 : found.length < 64 := by omega
  have pm := List.mergeSort_perm found leS
  refine ⟨found.mergeSort leS, st', ?_, ?_, ?_, by rw [pm.length_eq]; exact f3, fun h z => ?_, f5⟩
  · simp [fn__law_some_names, runFn_eq, finR_rt, finR_nx, finR_ite, ↓startE, ↓evSs, ↓evS, ↓evX, ↓evL, ↓evOs, ↓evBs, ↓evP, ↓evI, ↓asO_pk, ↓asO_var, ↓asO_con, ↓asO_glb, ↓asO_bin, ↓asO_neg, ↓asO_ife, ↓asO_tup, ↓asO_lst, ↓asO_idx, ↓asO_slc, ↓asO_rev, ↓asO_call, ↓asO_bi, ↓asO_join, ↓asO_pop, ↓asO_sset, ↓asO_cmp, ↓Res.bind, ↓asB, ↓asI, ↓asS, ↓asD, ↓Res.opt, ↓two, ↓resO, ↓S.get, ↓S.put, ↓S.put?, ↓asgT, ↓asgTs, ↓RX.dat, ↓obind_eq, ↓omap_eq, and_merge, or_merge, and_mergeB, or_mergeB, isiD, cmpD, lenD, binD, idxD, biD, nonD, atI_0, atI_1, atI_2, List.length_cons, List.length_nil, List.map_cons, List.map_nil, List.append_eq, List.cons_append, List.nil_append, List.getElem?_cons_zero, List.getElem?_cons_succ, List.getElem?_nil, List.mapM_cons, List.mapM_nil, Option.pure_def, Option.bind_eq_bind, id_eq, Bool.false_eq_true, List.foldl_cons, List.foldl_nil, ↓frzS, hf, strsD_map, l64]
  · rw [List.all_eq_true] at f2 ⊢
    exact fun x hx => f2 x (pm.mem_iff.mp hx)
  · have p := List.pairwise_mergeSort leS_trans leS_total found
    exact pair_rises (List.Pairwise.imp₂ (fun a b h1 h2 => lt_of_le_ne h1 h2) p (pm.nodup_iff.mpr f1))
  · have := pm.length_eq
    rw [z] at this
    exact f4 h (List.eq_nil_of_length_eq_zero this.symm)
end DE
end

section
set_option Elab.async false
set_option linter.all false
set_option maxRecDepth 100000
set_option maxHeartbeats 4000000
namespace DE
open PySem L2
/-! codes -/
inductive EE where
  | lock (z : Str)
  | cell (i : Int)
def endD : EE → D
  | .lock z => .tup [.str "free", .str z]
  | .cell i => .tup [.str "shrink", .int i]
def locksE : List EE → List Str
  | [] => []
  | .lock z :: r => z :: locksE r
  | .cell _ :: r => locksE r
def sumE : List EE → Int
  | [] => 0
  | .lock _ :: r => sumE r
  | .cell i :: r => i + sumE r
/-- one turn of the code's making -/
inductive CStep (ls rs : List Str) (most : Int) : List D → List EE → List D → List EE → Prop
  | take {c : List D} {es : List EE} {z : Str} (h1 : z ∈ ls) (h2 : z ∉ locksE es) : CStep ls rs most c es (c ++ [.tup [.str "take", .str z]]) (es ++ [.lock z])
  | grow {c : List D} {es : List EE} {i : Int} (h1 : 1 ≤ i) (h2 : i ≤ 250) : CStep ls rs most c es (c ++ [.tup [.str "grow", .int i]]) (es ++ [.cell i])
  | close {c : List D} {es : List EE} {e : EE} : CStep ls rs most c (es ++ [e]) (c ++ [endD e]) es
  | raise {c : List D} {es : List EE} {z : Str} (h1 : z ∈ rs) : CStep ls rs most c es (c ++ [.tup [.str "raise", .str z]]) es
  | work {c : List D} {es : List EE} {i : Int} (h1 : 1 ≤ i) (h2 : i ≤ most) : CStep ls rs most c es (c ++ [.tup [.str "work", .int i]]) es
def cE (n : Nat) (ls rs : List Str) (sm most : Int) (c : List D) (es : List EE) (a b d e f g : Option Slot) : Env :=
  [some (.val (.loc n)), some (.val (.lst (ls.map D.str))), some (.val (.lst (rs.map D.str))), some (.val (.int sm)), some (.val (.int most)), some (.own c), some (.own (es.map endD)), a, b, d, e, f, g, none, none, none]
def isFree (x : D) : Bool := match x with
  | .tup [.str w, _] => decide (w = "free")
  | _ => false
def partOf (x : D) : D := match x with
  | .tup [_, p] => p
  | _ => .non
theorem locks_filter : ∀ es : List EE, (((es.map endD).filter isFree).map partOf) = (locksE es).map D.str
  | [] => rfl
  | .lock z :: r => by
    have ih := locks_filter r
    have e : isFree (endD (.lock z)) = true := by simp [isFree, endD]
    rw [List.map_cons, List.filter_cons, e, if_pos rfl, List.map_cons, ih]
    rfl
  | .cell i :: r => by
    have ih := locks_filter r
    have e : isFree (endD (.cell i)) = false := by simp [isFree, endD]; decide +kernel
    rw [List.map_cons, List.filter_cons, e, if_neg (by simp), ih]
    rfl
theorem endD_shape (e : EE) : ∃ w p, endD e = .tup [.str w, p] := by cases e <;> exact ⟨_, _, rfl⟩
theorem code_c0 {C : Ctx} {i n : Nat} {ls rs : List Str} {sm most : Int} {c : List D} {es : List EE} {a b d e f g : Option Slot} {st : Store} (hl : es.length ≤ 100) :
    evX C (ce__law_code_0 i) ⟨cE n ls rs sm most c es a b d e f g, st⟩ = .ok (.fr ((locksE es).map D.str)) ⟨cE n ls rs sm most c es a b d e f g, st⟩ := by
  unfold ce__law_code_0
  rw [ev_comp_pure (xs := es.map endD) isFree partOf]
  · rw [locks_filter]
  · simp [runFn_eq, finR_rt, finR_nx, finR_ite, ↓startE, ↓evSs, ↓evS, ↓evX, ↓evL, ↓evOs, ↓evBs, ↓evP, ↓evI, ↓asO_pk, ↓asO_var, ↓asO_con, ↓asO_glb, ↓asO_bin, ↓asO_neg, ↓asO_ife, ↓asO_tup, ↓asO_lst, ↓asO_idx, ↓asO_slc, ↓asO_rev, ↓asO_call, ↓asO_bi, ↓asO_join, ↓asO_pop, ↓asO_sset, ↓asO_cmp, ↓Res.bind, ↓asB, ↓asI, ↓asS, ↓asD, ↓Res.opt, ↓two, ↓resO, ↓S.get, ↓S.put, ↓S.put?, ↓asgT, ↓asgTs, ↓RX.dat, ↓obind_eq, ↓omap_eq, and_merge, or_merge, and_mergeB, or_mergeB, isiD, cmpD, lenD, binD, idxD, biD, nonD, atI_0, atI_1, atI_2, List.length_cons, List.length_nil, List.map_cons, List.map_nil, List.append_eq, List.cons_append, List.nil_append, List.getElem?_cons_zero, List.getElem?_cons_succ, List.getElem?_nil, List.mapM_cons, List.mapM_nil, Option.pure_def, Option.bind_eq_bind, id_eq, Bool.false_eq_true, List.foldl_cons, List.foldl_nil, ↓frzS, cE, seqD]
  · rw [List.length_map, sizeLine_eq]; omega
  · intro x hx
    obtain ⟨y, _, rfl⟩ := List.mem_map.mp hx
    obtain ⟨w, p, e⟩ := endD_shape y
    rw [e]
    refine compPure_id rfl rfl ?_ fun _ => rfl
    simp [runFn_eq, finR_rt, finR_nx, finR_ite, ↓startE, ↓evSs, ↓evS, ↓evX, ↓evL, ↓evOs, ↓evBs, ↓evP, ↓evI, ↓asO_pk, ↓asO_var, ↓asO_con, ↓asO_glb, ↓asO_bin, ↓asO_neg, ↓asO_ife, ↓asO_tup, ↓asO_lst, ↓asO_idx, ↓asO_slc, ↓asO_rev, ↓asO_call, ↓asO_bi, ↓asO_join, ↓asO_pop, ↓asO_sset, ↓asO_cmp, ↓Res.bind, ↓asB, ↓asI, ↓asS, ↓asD, ↓Res.opt, ↓two, ↓resO, ↓S.get, ↓S.put, ↓S.put?, ↓asgT, ↓asgTs, ↓RX.dat, ↓obind_eq, ↓omap_eq, and_merge, or_merge, and_mergeB, or_mergeB, isiD, cmpD, lenD, binD, idxD, biD, nonD, atI_0, atI_1, atI_2, List.length_cons, List.length_nil, List.map_cons, List.map_nil, List.append_eq, List.cons_append, List.nil_append, List.getElem?_cons_zero, List.getElem?_cons_succ, List.getElem?_nil, List.mapM_cons, List.mapM_nil, Option.pure_def, Option.bind_eq_bind, id_eq, Bool.false_eq_true, List.foldl_cons, List.foldl_nil, ↓frzS, cE, compEnv, wipeE, roS, cmpOk_str, eqD_str, isFree]
theorem code_c1 {C : Ctx} {i n : Nat} {ls rs hs : List Str} {sm most : Int} {c : List D} {es : List EE} {a b e f g : Option Slot} {st : Store} (hl : ls.length ≤ 100) :
    evX C (ce__law_code_1 i) ⟨cE n ls rs sm most c es a b (some (.own (hs.map D.str))) e f g, st⟩ = .ok (.fr ((ls.filter fun z => !decide (z ∈ hs)).map D.str)) ⟨cE n ls rs sm most c es a b (some (.own (hs.map D.str))) e f g, st⟩ := by
  unfold ce__law_code_1
  rw [ev_comp_pure (xs := ls.map D.str) (fun x => match x with | .str z => !decide (z ∈ hs) | _ => false) (fun x => x)]
  · congr 2
    rw [List.map_id', List.filter_map]
    rfl
  · simp [runFn_eq, finR_rt, finR_nx, finR_ite, ↓startE, ↓evSs, ↓evS, ↓evX, ↓evL, ↓evOs, ↓evBs, ↓evP, ↓evI, ↓asO_pk, ↓asO_var, ↓asO_con, ↓asO_glb, ↓asO_bin, ↓asO_neg, ↓asO_ife, ↓asO_tup, ↓asO_lst, ↓asO_idx, ↓asO_slc, ↓asO_rev, ↓asO_call, ↓asO_bi, ↓asO_join, ↓asO_pop, ↓asO_sset, ↓asO_cmp, ↓Res.bind, ↓asB, ↓asI, ↓asS, ↓asD, ↓Res.opt, ↓two, ↓resO, ↓S.get, ↓S.put, ↓S.put?, ↓asgT, ↓asgTs, ↓RX.dat, ↓obind_eq, ↓omap_eq, and_merge, or_merge, and_mergeB, or_mergeB, isiD, cmpD, lenD, binD, idxD, biD, nonD, atI_0, atI_1, atI_2, List.length_cons, List.length_nil, List.map_cons, List.map_nil, List.append_eq, List.cons_append, List.nil_append, List.getElem?_cons_zero, List.getElem?_cons_succ, List.getElem?_nil, List.mapM_cons, List.mapM_nil, Option.pure_def, Option.bind_eq_bind, id_eq, Bool.false_eq_true, List.foldl_cons, List.foldl_nil, ↓frzS, cE, seqD]
  · rw [List.length_map, sizeLine_eq]; omega
  · intro x hx
    obtain ⟨z, _, rfl⟩ := List.mem_map.mp hx
    refine compPure_id rfl rfl ?_ fun _ => rfl
    simp [runFn_eq, finR_rt, finR_nx, finR_ite, ↓startE, ↓evSs, ↓evS, ↓evX, ↓evL, ↓evOs, ↓evBs, ↓evP, ↓evI, ↓asO_pk, ↓asO_var, ↓asO_con, ↓asO_glb, ↓asO_bin, ↓asO_neg, ↓asO_ife, ↓asO_tup, ↓asO_lst, ↓asO_idx, ↓asO_slc, ↓asO_rev, ↓asO_call, ↓asO_bi, ↓asO_join, ↓asO_pop, ↓asO_sset, ↓asO_cmp, ↓Res.bind, ↓asB, ↓asI, ↓asS, ↓asD, ↓Res.opt, ↓two, ↓resO, ↓S.get, ↓S.put, ↓S.put?, ↓asgT, ↓asgTs, ↓RX.dat, ↓obind_eq, ↓omap_eq, and_merge, or_merge, and_mergeB, or_mergeB, isiD, cmpD, lenD, binD, idxD, biD, nonD, atI_0, atI_1, atI_2, List.length_cons, List.length_nil, List.map_cons, List.map_nil, List.append_eq, List.cons_append, List.nil_append, List.getElem?_cons_zero, List.getElem?_cons_succ, List.getElem?_nil, List.mapM_cons, List.mapM_nil, Option.pure_def, Option.bind_eq_bind, id_eq, Bool.false_eq_true, List.foldl_cons, List.foldl_nil, ↓frzS, cE, compEnv, wipeE, roS, memD_strs]
theorem lst_mem {ns : List Str} {r : Int} (h1 : 0 ≤ r) (h2 : r < ns.length) : ∃ z, atI (ns.map D.str) r = some (.str z) ∧ z ∈ ns := by
  obtain ⟨y, e, hy⟩ := atI_ok (xs := ns.map D.str) h1 (by rw [List.length_map]; exact h2)
  obtain ⟨z, hz, rfl⟩ := List.mem_map.mp hy
  exact ⟨z, e, hz⟩
theorem pys_end (es : List EE) : isPys (es.map endD) = true := by
  apply isPys_of
  intro x hx
  obtain ⟨y, _, rfl⟩ := List.mem_map.mp hx
  cases y <;> rfl
theorem code_step {C : Ctx} {i n m : Nat} {ls rs : List Str} {sm most : Int} {c : List D} {es : List EE} {a b d e f g : Option Slot} {st : Store} (hk : HK C i) (hb : Bag st n (m + 2)) (hls : ls.length ≤ 100) (hrs : rs.length ≤ 100) (hes : es.length ≤ 100) (hc : c.length ≤ 100)
    (hm : 1 ≤ most ∧ most ≤ 100) (hsm : sm = 0 ∨ sm = 1) :
    ∃ c' es' a' b' d' e' f' g' st', evSs C (bo__law_code_2 i) ⟨cE n ls rs sm most c es a b d e f g, st⟩ = .ok .nx ⟨cE n ls rs sm most c' es' a' b' d' e' f' g', st'⟩ ∧ CStep ls rs most c es c' es' ∧ Nxt st st' n m := by
  obtain ⟨way, s1, e1, w1, w2, n1⟩ := hk st n (m + 1) 8 hb (by omega) (by omega)
  have a0 := code_c0 (C := C) (i := i) (n := n) (ls := ls) (rs := rs) (sm := sm) (most := most) (c := c) (es := es) (a := a) (b := some (.val (.int way))) (d := d) (e := e) (f := f) (g := g) (st := s1) hes
  have a1 := code_c1 (C := C) (i := i) (n := n) (ls := ls) (rs := rs) (hs := locksE es) (sm := sm) (most := most) (c := c) (es := es) (a := a) (b := some (.val (.int way))) (e := e) (f := f) (g := g) (st := s1) hls
  simp only [cE] at a0 a1
  generalize hfree : (ls.filter fun z => !decide (z ∈ locksE es)) = free at a1
  have hfl : free.length ≤ 100 := by rw [← hfree]; exact Nat.le_trans (List.length_filter_le _ _) hls
  have lc : c.length < sizeLine := by rw [sizeLine_eq]; omega
  have le' : es.length < sizeLine := by rw [sizeLine_eq]; omega
  have z2 : 2 ≤ sizeLine := by rw [sizeLine_eq]; omega
  have k0 := cmpOk_strs0 free
  have k1 := cmpOk_strs0 rs
  have k2 := cmpOk_lst0 (pys_end es)
  by_cases c1 : way < 2 ∧ free ≠ []
  · obtain ⟨c1, c2⟩ := c1
    have fl0 : 1 ≤ free.length := by
      cases free with
      | nil => exact absurd rfl c2
      | cons x r => simp
    have c2' : free.isEmpty = false := by
      cases free with
      | nil => exact absurd rfl c2
      | cons x r => rfl
    obtain ⟨r, s2, e2, r1, r2, n2⟩ := hk s1 n m free.length n1.bag (by omega) (by omega)
    obtain ⟨z, ez, hz⟩ := lst_mem r1 r2
    rw [← hfree, List.mem_filter] at hz
    simp only [Bool.not_eq_true', decide_eq_false_iff_not] at hz
    refine ⟨_, _, a, some (.val (.int way)), some (.own ((locksE es).map D.str)), some (.val (.str z)), some (.own (free.map D.str)), g, s2, ?_, .take hz.1 hz.2, n1.trans n2⟩
    simp [bo__law_code_2, cE, runFn_eq, finR_rt, finR_nx, finR_ite, ↓startE, ↓evSs, ↓evS, ↓evX, ↓evL, ↓evOs, ↓evBs, ↓evP, ↓evI, ↓asO_pk, ↓asO_var, ↓asO_con, ↓asO_glb, ↓asO_bin, ↓asO_neg, ↓asO_ife, ↓asO_tup, ↓asO_lst, ↓asO_idx, ↓asO_slc, ↓asO_rev, ↓asO_call, ↓asO_bi, ↓asO_join, ↓asO_pop, ↓asO_sset, ↓asO_cmp, ↓Res.bind, ↓asB, ↓asI, ↓asS, ↓asD, ↓Res.opt, ↓two, ↓resO, ↓S.get, ↓S.put, ↓S.put?, ↓asgT, ↓asgTs, ↓RX.dat, ↓obind_eq, ↓omap_eq, and_merge, or_merge, and_mergeB, or_mergeB, isiD, cmpD, lenD, binD, idxD, biD, nonD, atI_0, atI_1, atI_2, List.length_cons, List.length_nil, List.map_cons, List.map_nil, List.append_eq, List.cons_append, List.nil_append, List.getElem?_cons_zero, List.getElem?_cons_succ, List.getElem?_nil, List.mapM_cons, List.mapM_nil, Option.pure_def, Option.bind_eq_bind, id_eq, Bool.false_eq_true, List.foldl_cons, List.foldl_nil, ↓frzS, e1, a0, a1, c1, k0, eqD_lst0, c2', e2, ez, lstSlot, lc, le', z2, endD]
  by_cases c3 : way = 2
  · subst c3
    have c1' : ¬ ((2 : Int) < 2) := by omega
    obtain ⟨q, hq, q1, q2⟩ : ∃ q : Int, atI [D.int 250, D.int 9] sm = some (.int q) ∧ 1 ≤ q ∧ q ≤ 250 := by
      rcases hsm with rfl | rfl
      · exact ⟨250, atI_0 _ _, by omega, by omega⟩
      · exact ⟨9, atI_1 _ _ _, by omega, by omega⟩
    obtain ⟨r, s2, e2, r1, r2, n2⟩ := hk s1 n m q n1.bag q1 (by omega)
    refine ⟨_, _, a, some (.val (.int 2)), some (.own ((locksE es).map D.str)), e, some (.own (free.map D.str)), some (.val (.int (1 + r))), s2, ?_, .grow (i := 1 + r) (by omega) (by omega), n1.trans n2⟩
    simp [bo__law_code_2, cE, runFn_eq, finR_rt, finR_nx, finR_ite, ↓startE, ↓evSs, ↓evS, ↓evX, ↓evL, ↓evOs, ↓evBs, ↓evP, ↓evI, ↓asO_pk, ↓asO_var, ↓asO_con, ↓asO_glb, ↓asO_bin, ↓asO_neg, ↓asO_ife, ↓asO_tup, ↓asO_lst, ↓asO_idx, ↓asO_slc, ↓asO_rev, ↓asO_call, ↓asO_bi, ↓asO_join, ↓asO_pop, ↓asO_sset, ↓asO_cmp, ↓Res.bind, ↓asB, ↓asI, ↓asS, ↓asD, ↓Res.opt, ↓two, ↓resO, ↓S.get, ↓S.put, ↓S.put?, ↓asgT, ↓asgTs, ↓RX.dat, ↓obind_eq, ↓omap_eq, and_merge, or_merge, and_mergeB, or_mergeB, isiD, cmpD, lenD, binD, idxD, biD, nonD, atI_0, atI_1, atI_2, List.length_cons, List.length_nil, List.map_cons, List.map_nil, List.append_eq, List.cons_append, List.nil_append, List.getElem?_cons_zero, List.getElem?_cons_succ, List.getElem?_nil, List.mapM_cons, List.mapM_nil, Option.pure_def, Option.bind_eq_bind, id_eq, Bool.false_eq_true, List.foldl_cons, List.foldl_nil, ↓frzS, e1, a0, a1, cmpOk_int, eqD_int, hq, e2, lstSlot, lc, le', z2, endD]
  have c1' : (decide (way < 2) && !free.isEmpty) = false := by
    cases free with
    | nil => simp
    | cons x r =>
      have : ¬ way < 2 := fun h => c1 ⟨h, by simp⟩
      simp [this]
  by_cases c4 : way = 3 ∧ es ≠ []
  · obtain ⟨rfl, c5⟩ := c4
    obtain ⟨es0, x, rfl⟩ : ∃ es0 x, es = es0 ++ [x] := ⟨es.dropLast, es.getLast c5, (List.dropLast_concat_getLast c5).symm⟩
    have k2' : (es0 ++ [x]).isEmpty = false := by simp
    have lx : ((es0 ++ [x]).map endD)[((es0 ++ [x]).map endD).length - 1]? = some (endD x) := by simp
    have dx : ((es0 ++ [x]).map endD).dropLast = es0.map endD := by simp
    refine ⟨_, es0, a, some (.val (.int 3)), some (.own ((locksE (es0 ++ [x])).map D.str)), e, some (.own (free.map D.str)), g, s1, ?_, .close, n1.trans (.refl (n1.bag.le (by omega)))⟩
    simp only [List.map_append, List.map_cons, List.map_nil] at k2 lx dx a0 a1
    simp [bo__law_code_2, cE, runFn_eq, finR_rt, finR_nx, finR_ite, ↓startE, ↓evSs, ↓evS, ↓evX, ↓evL, ↓evOs, ↓evBs, ↓evP, ↓evI, ↓asO_pk, ↓asO_var, ↓asO_con, ↓asO_glb, ↓asO_bin, ↓asO_neg, ↓asO_ife, ↓asO_tup, ↓asO_lst, ↓asO_idx, ↓asO_slc, ↓asO_rev, ↓asO_call, ↓asO_bi, ↓asO_join, ↓asO_pop, ↓asO_sset, ↓asO_cmp, ↓Res.bind, ↓asB, ↓asI, ↓asS, ↓asD, ↓Res.opt, ↓two, ↓resO, ↓S.get, ↓S.put, ↓S.put?, ↓asgT, ↓asgTs, ↓RX.dat, ↓obind_eq, ↓omap_eq, and_merge, or_merge, and_mergeB, or_mergeB, isiD, cmpD, lenD, binD, idxD, biD, nonD, atI_0, atI_1, atI_2, List.length_cons, List.length_nil, List.map_cons, List.map_nil, List.append_eq, List.cons_append, List.nil_append, List.getElem?_cons_zero, List.getElem?_cons_succ, List.getElem?_nil, List.mapM_cons, List.mapM_nil, Option.pure_def, Option.bind_eq_bind, id_eq, Bool.false_eq_true, List.foldl_cons, List.foldl_nil, ↓frzS, e1, a0, a1, cmpOk_int, eqD_int, k2, eqD_lst0, lstSlot, lc]
  by_cases c6 : way = 4 ∧ rs ≠ []
  · obtain ⟨rfl, c7⟩ := c6
    have rl0 : 1 ≤ rs.length := by
      cases rs with
      | nil => exact absurd rfl c7
      | cons x r => simp
    have c7' : rs.isEmpty = false := by
      cases rs with
      | nil => exact absurd rfl c7
      | cons x r => rfl
    obtain ⟨r, s2, e2, r1, r2, n2⟩ := hk s1 n m rs.length n1.bag (by omega) (by omega)
    obtain ⟨z, ez, hz⟩ := lst_mem r1 r2
    refine ⟨_, _, a, some (.val (.int 4)), some (.own ((locksE es).map D.str)), e, some (.own (free.map D.str)), g, s2, ?_, .raise hz, n1.trans n2⟩
    simp [bo__law_code_2, cE, runFn_eq, finR_rt, finR_nx, finR_ite, ↓startE, ↓evSs, ↓evS, ↓evX, ↓evL, ↓evOs, ↓evBs, ↓evP, ↓evI, ↓asO_pk, ↓asO_var, ↓asO_con, ↓asO_glb, ↓asO_bin, ↓asO_neg, ↓asO_ife, ↓asO_tup, ↓asO_lst, ↓asO_idx, ↓asO_slc, ↓asO_rev, ↓asO_call, ↓asO_bi, ↓asO_join, ↓asO_pop, ↓asO_sset, ↓asO_cmp, ↓Res.bind, ↓asB, ↓asI, ↓asS, ↓asD, ↓Res.opt, ↓two, ↓resO, ↓S.get, ↓S.put, ↓S.put?, ↓asgT, ↓asgTs, ↓RX.dat, ↓obind_eq, ↓omap_eq, and_merge, or_merge, and_mergeB, or_mergeB, isiD, cmpD, lenD, binD, idxD, biD, nonD, atI_0, atI_1, atI_2, List.length_cons, List.length_nil, List.map_cons, List.map_nil, List.append_eq, List.cons_append, List.nil_append, List.getElem?_cons_zero, List.getElem?_cons_succ, List.getElem?_nil, List.mapM_cons, List.mapM_nil, Option.pure_def, Option.bind_eq_bind, id_eq, Bool.false_eq_true, List.foldl_cons, List.foldl_nil, ↓frzS, e1, a0, a1, cmpOk_int, eqD_int, k1, eqD_lst0, c7', e2, ez, lstSlot, lc, z2]
  · obtain ⟨r, s2, e2, r1, r2, n2⟩ := hk s1 n m most n1.bag hm.1 (by omega)
    refine ⟨_, _, a, some (.val (.int way)), some (.own ((locksE es).map D.str)), e, some (.own (free.map D.str)), g, s2, ?_, .work (i := 1 + r) (by omega) (by omega), n1.trans n2⟩
    have c00 : cmpOk (.lst []) (.lst []) = true := cmpOk_strs0 []
    by_cases w3 : way < 2
    · have fe : free = [] := by
        cases free with
        | nil => rfl
        | cons x r => exact absurd ⟨w3, by simp⟩ c1
      have w4 : ¬ way = 3 := by omega
      have w5 : ¬ way = 4 := by omega
      rw [fe] at a1 k0 ⊢
      simp only [List.map_nil] at a1 k0
      simp [bo__law_code_2, cE, runFn_eq, finR_rt, finR_nx, finR_ite, ↓startE, ↓evSs, ↓evS, ↓evX, ↓evL, ↓evOs, ↓evBs, ↓evP, ↓evI, ↓asO_pk, ↓asO_var, ↓asO_con, ↓asO_glb, ↓asO_bin, ↓asO_neg, ↓asO_ife, ↓asO_tup, ↓asO_lst, ↓asO_idx, ↓asO_slc, ↓asO_rev, ↓asO_call, ↓asO_bi, ↓asO_join, ↓asO_pop, ↓asO_sset, ↓asO_cmp, ↓Res.bind, ↓asB, ↓asI, ↓asS, ↓asD, ↓Res.opt, ↓two, ↓resO, ↓S.get, ↓S.put, ↓S.put?, ↓asgT, ↓asgTs, ↓RX.dat, ↓obind_eq, ↓omap_eq, and_merge, or_merge, and_mergeB, or_mergeB, isiD, cmpD, lenD, binD, idxD, biD, nonD, atI_0, atI_1, atI_2, List.length_cons, List.length_nil, List.map_cons, List.map_nil, List.append_eq, List.cons_append, List.nil_append, List.getElem?_cons_zero, List.getElem?_cons_succ, List.getElem?_nil, List.mapM_cons, List.mapM_nil, Option.pure_def, Option.bind_eq_bind, id_eq, Bool.false_eq_true, List.foldl_cons, List.foldl_nil, ↓frzS, e1, a0, a1, cmpOk_int, eqD_int, c00, eqD_lst0, w3, c3, w4, w5, e2, lstSlot, lc, z2]
    by_cases w4 : way = 3
    · have ee : es = [] := by
        cases es with
        | nil => rfl
        | cons x r => exact absurd ⟨w4, by simp⟩ c4
      subst w4
      subst ee
      simp only [List.map_nil, locksE] at a0 a1
      simp [bo__law_code_2, cE, runFn_eq, finR_rt, finR_nx, finR_ite, ↓startE, ↓evSs, ↓evS, ↓evX, ↓evL, ↓evOs, ↓evBs, ↓evP, ↓evI, ↓asO_pk, ↓asO_var, ↓asO_con, ↓asO_glb, ↓asO_bin, ↓asO_neg, ↓asO_ife, ↓asO_tup, ↓asO_lst, ↓asO_idx, ↓asO_slc, ↓asO_rev, ↓asO_call, ↓asO_bi, ↓asO_join, ↓asO_pop, ↓asO_sset, ↓asO_cmp, ↓Res.bind, ↓asB, ↓asI, ↓asS, ↓asD, ↓Res.opt, ↓two, ↓resO, ↓S.get, ↓S.put, ↓S.put?, ↓asgT, ↓asgTs, ↓RX.dat, ↓obind_eq, ↓omap_eq, and_merge, or_merge, and_mergeB, or_mergeB, isiD, cmpD, lenD, binD, idxD, biD, nonD, atI_0, atI_1, atI_2, List.length_cons, List.length_nil, List.map_cons, List.map_nil, List.append_eq, List.cons_append, List.nil_append, List.getElem?_cons_zero, List.getElem?_cons_succ, List.getElem?_nil, List.mapM_cons, List.mapM_nil, Option.pure_def, Option.bind_eq_bind, id_eq, Bool.false_eq_true, List.foldl_cons, List.foldl_nil, ↓frzS, e1, a0, a1, cmpOk_int, eqD_int, c00, eqD_lst0, e2, lstSlot, lc, z2, locksE]
    by_cases w5 : way = 4
    · have ee : rs = [] := by
        cases rs with
        | nil => rfl
        | cons x r => exact absurd ⟨w5, by simp⟩ c6
      subst w5
      subst ee
      simp only [List.map_nil] at a0 a1
      simp [bo__law_code_2, cE, runFn_eq, finR_rt, finR_nx, finR_ite, ↓startE, ↓evSs, ↓evS, ↓evX, ↓evL, ↓evOs, ↓evBs, ↓evP, ↓evI, ↓asO_pk, ↓asO_var, ↓asO_con, ↓asO_glb, ↓asO_bin, ↓asO_neg, ↓asO_ife, ↓asO_tup, ↓asO_lst, ↓asO_idx, ↓asO_slc, ↓asO_rev, ↓asO_call, ↓asO_bi, ↓asO_join, ↓asO_pop, ↓asO_sset, ↓asO_cmp, ↓Res.bind, ↓asB, ↓asI, ↓asS, ↓asD, ↓Res.opt, ↓two, ↓resO, ↓S.get, ↓S.put, ↓S.put?, ↓asgT, ↓asgTs, ↓RX.dat, ↓obind_eq, ↓omap_eq, and_merge, or_merge, and_mergeB, or_mergeB, isiD, cmpD, lenD, binD, idxD, biD, nonD, atI_0, atI_1, atI_2, List.length_cons, List.length_nil, List.map_cons, List.map_nil, List.append_eq, List.cons_append, List.nil_append, List.getElem?_cons_zero, List.getElem?_cons_succ, List.getElem?_nil, List.mapM_cons, List.mapM_nil, Option.pure_def, Option.bind_eq_bind, id_eq, Bool.false_eq_true, List.foldl_cons, List.foldl_nil, ↓frzS, e1, a0, a1, cmpOk_int, eqD_int, c00, eqD_lst0, e2, lstSlot, lc, z2]
    · simp [bo__law_code_2, cE, runFn_eq, finR_rt, finR_nx, finR_ite, ↓startE, ↓evSs, ↓evS, ↓evX, ↓evL, ↓evOs, ↓evBs, ↓evP, ↓evI, ↓asO_pk, ↓asO_var, ↓asO_con, ↓asO_glb, ↓asO_bin, ↓asO_neg, ↓asO_ife, ↓asO_tup, ↓asO_lst, ↓asO_idx, ↓asO_slc, ↓asO_rev, ↓asO_call, ↓asO_bi, ↓asO_join, ↓asO_pop, ↓asO_sset, ↓asO_cmp, ↓Res.bind, ↓asB, ↓asI, ↓asS, ↓asD, ↓Res.opt, ↓two, ↓resO, ↓S.get, ↓S.put, ↓S.put?, ↓asgT, ↓asgTs, ↓RX.dat, ↓obind_eq, ↓omap_eq, and_merge, or_merge, and_mergeB, or_mergeB, isiD, cmpD, lenD, binD, idxD, biD, nonD, atI_0, atI_1, atI_2, List.length_cons, List.length_nil, List.map_cons, List.map_nil, List.append_eq, List.cons_append, List.nil_append, List.getElem?_cons_zero, List.getElem?_cons_succ, List.getElem?_nil, List.mapM_cons, List.mapM_nil, Option.pure_def, Option.bind_eq_bind, id_eq, Bool.false_eq_true, List.foldl_cons, List.foldl_nil, ↓frzS, e1, a0, a1, cmpOk_int, eqD_int, w3, c3, w4, w5, e2, lstSlot, lc, z2]
end DE
end

section
set_option Elab.async false
set_option linter.all false
set_option maxRecDepth 100000
set_option maxHeartbeats 4000000
namespace DE
open PySem L2
/-! made codes are even -/
theorem evenGo_bad {x : D} {r : List D} {h : List Str} {g : Int} {k : Bool} (hx : ¬ ∃ u q, x = .tup [.str u, q]) : evenGo (x :: r) h g k = none := by
  unfold evenGo
  split
  · rename_i hq
    cases hq
    exact absurd ⟨_, _, rfl⟩ hx
  · rfl
  · rename_i hq
    cases hq
theorem evenGo_app : ∀ (c : List D) (h : List Str) (g : Int) (k : Bool) (w : Str) (p : D), evenGo (c ++ [.tup [.str w, p]]) h g k = match evenGo c h g k with
    | none => none
    | some (h', g', k') => evStep w p h' g' k'
  | [], h, g, k, w, p => by
    simp only [List.nil_append, evenGo]
    cases evStep w p h g k <;> rfl
  | x :: r, h, g, k, w, p => by
    by_cases hx : ∃ u q, x = .tup [.str u, q]
    · obtain ⟨u, q, rfl⟩ := hx
      simp only [List.cons_append, evenGo]
      cases evStep u q h g k with
      | none => rfl
      | some v =>
        obtain ⟨h', g', k'⟩ := v
        exact evenGo_app r h' g' k' w p
    · rw [List.cons_append, evenGo_bad hx, evenGo_bad hx]
theorem locksE_app : ∀ (a b : List EE), locksE (a ++ b) = locksE a ++ locksE b
  | [], b => rfl
  | .lock z :: r, b => by simp [locksE, locksE_app r b]
  | .cell i :: r, b => by simp [locksE, locksE_app r b]
theorem sumE_app : ∀ (a b : List EE), sumE (a ++ b) = sumE a + sumE b
  | [], b => by simp [sumE]
  | .lock z :: r, b => by simp [sumE, sumE_app r b]
  | .cell i :: r, b => by simp [sumE, sumE_app r b]; omega
theorem sumE_bd : ∀ es : List EE, (∀ i, EE.cell i ∈ es → 1 ≤ i ∧ i ≤ 250) → 0 ≤ sumE es ∧ sumE es ≤ 250 * es.length
  | [], _ => by simp [sumE]
  | .lock z :: r, h => by
    have := sumE_bd r fun i hi => h i (by simp [hi])
    simp only [sumE, List.length_cons]
    omega
  | .cell i :: r, h => by
    have := sumE_bd r fun j hj => h j (by simp [hj])
    have := h i (by simp)
    simp only [sumE, List.length_cons]
    omega
structure CInv (ls rs : List Str) (k : Nat) (c : List D) (es : List EE) : Prop where
  ev : ∃ b, evenGo c [] 0 false = some (locksE es, sumE es, b)
  steps : ∀ x ∈ c, isStepD x rs ls = true
  nd : (locksE es).Nodup
  sub : ∀ z ∈ locksE es, z ∈ ls
  bd : ∀ i, EE.cell i ∈ es → 1 ≤ i ∧ i ≤ 250
  lc : c.length ≤ k
  le : es.length ≤ k
theorem CInv.nil (ls rs : List Str) : CInv ls rs 0 [] [] := ⟨⟨false, rfl⟩, by simp, List.nodup_nil, by simp [locksE], by simp, by simp, by simp⟩
theorem st_take {z : Str} {ls rs : List Str} (h : z ∈ ls) : isStepD (.tup [.str "take", .str z]) rs ls = true := by simp [isStepD, w_work_take, w_work_free, w_work_grow, w_work_shrink, w_work_raise, w_take_work, w_take_free, w_take_grow, w_take_shrink, w_take_raise, w_free_work, w_free_take, w_free_grow, w_free_shrink, w_free_raise, w_grow_work, w_grow_take, w_grow_free, w_grow_shrink, w_grow_raise, w_shrink_work, w_shrink_take, w_shrink_free, w_shrink_grow, w_shrink_raise, w_raise_work, w_raise_take, w_raise_free, w_raise_grow, w_raise_shrink, h]
theorem st_free {z : Str} {ls rs : List Str} (h : z ∈ ls) : isStepD (.tup [.str "free", .str z]) rs ls = true := by simp [isStepD, w_work_take, w_work_free, w_work_grow, w_work_shrink, w_work_raise, w_take_work, w_take_free, w_take_grow, w_take_shrink, w_take_raise, w_free_work, w_free_take, w_free_grow, w_free_shrink, w_free_raise, w_grow_work, w_grow_take, w_grow_free, w_grow_shrink, w_grow_raise, w_shrink_work, w_shrink_take, w_shrink_free, w_shrink_grow, w_shrink_raise, w_raise_work, w_raise_take, w_raise_free, w_raise_grow, w_raise_shrink, h]
theorem st_raise {z : Str} {ls rs : List Str} (h : z ∈ rs) : isStepD (.tup [.str "raise", .str z]) rs ls = true := by simp [isStepD, w_work_take, w_work_free, w_work_grow, w_work_shrink, w_work_raise, w_take_work, w_take_free, w_take_grow, w_take_shrink, w_take_raise, w_free_work, w_free_take, w_free_grow, w_free_shrink, w_free_raise, w_grow_work, w_grow_take, w_grow_free, w_grow_shrink, w_grow_raise, w_shrink_work, w_shrink_take, w_shrink_free, w_shrink_grow, w_shrink_raise, w_raise_work, w_raise_take, w_raise_free, w_raise_grow, w_raise_shrink, h]
theorem st_work {i : Int} {ls rs : List Str} (h : 1 ≤ i ∧ i ≤ 100) : isStepD (.tup [.str "work", .int i]) rs ls = true := by simp [isStepD, withinD, h.1, h.2]
theorem st_grow {i : Int} {ls rs : List Str} (h : 1 ≤ i ∧ i ≤ 1000) : isStepD (.tup [.str "grow", .int i]) rs ls = true := by simp [isStepD, withinD, w_work_take, w_work_free, w_work_grow, w_work_shrink, w_work_raise, w_take_work, w_take_free, w_take_grow, w_take_shrink, w_take_raise, w_free_work, w_free_take, w_free_grow, w_free_shrink, w_free_raise, w_grow_work, w_grow_take, w_grow_free, w_grow_shrink, w_grow_raise, w_shrink_work, w_shrink_take, w_shrink_free, w_shrink_grow, w_shrink_raise, w_raise_work, w_raise_take, w_raise_free, w_raise_grow, w_raise_shrink, h.1, h.2]
theorem st_shrink {i : Int} {ls rs : List Str} (h : 1 ≤ i ∧ i ≤ 1000) : isStepD (.tup [.str "shrink", .int i]) rs ls = true := by simp [isStepD, withinD, w_work_take, w_work_free, w_work_grow, w_work_shrink, w_work_raise, w_take_work, w_take_free, w_take_grow, w_take_shrink, w_take_raise, w_free_work, w_free_take, w_free_grow, w_free_shrink, w_free_raise, w_grow_work, w_grow_take, w_grow_free, w_grow_shrink, w_grow_raise, w_shrink_work, w_shrink_take, w_shrink_free, w_shrink_grow, w_shrink_raise, w_raise_work, w_raise_take, w_raise_free, w_raise_grow, w_raise_shrink, h.1, h.2]
theorem snoc_steps {c : List D} {x : D} {ls rs : List Str} (h : ∀ x ∈ c, isStepD x rs ls = true) (hx : isStepD x rs ls = true) : ∀ y ∈ c ++ [x], isStepD y rs ls = true := fun y hy => by
  rcases List.mem_append.mp hy with hy | hy
  · exact h y hy
  · simp at hy; subst hy; exact hx
/-- a closer takes off the last -/
theorem ev_close {e : EE} {es : List EE} {b : Bool} (bd : ∀ i, EE.cell i ∈ es ++ [e] → 1 ≤ i ∧ i ≤ 250) (hl : es.length ≤ 4) : ∃ w p, endD e = .tup [.str w, p] ∧ evStep w p (locksE (es ++ [e])) (sumE (es ++ [e])) b = some (locksE es, sumE es, b) := by
  have b1 := sumE_bd es fun i hi => bd i (by simp [hi])
  cases e with
  | lock z =>
    refine ⟨_, _, rfl, ?_⟩
    simp [evStep, w_work_take, w_work_free, w_work_grow, w_work_shrink, w_work_raise, w_take_work, w_take_free, w_take_grow, w_take_shrink, w_take_raise, w_free_work, w_free_take, w_free_grow, w_free_shrink, w_free_raise, w_grow_work, w_grow_take, w_grow_free, w_grow_shrink, w_grow_raise, w_shrink_work, w_shrink_take, w_shrink_free, w_shrink_grow, w_shrink_raise, w_raise_work, w_raise_take, w_raise_free, w_raise_grow, w_raise_shrink, locksE_app, sumE_app, locksE, sumE]
  | cell i =>
    refine ⟨_, _, rfl, ?_⟩
    have e1 : sumE (es ++ [.cell i]) + -i = sumE es := by simp only [sumE_app, sumE]; omega
    have h1 : 0 ≤ sumE es := b1.1
    have h2 : sumE es ≤ 1000 := by omega
    simp [evStep, w_work_take, w_work_free, w_work_grow, w_work_shrink, w_work_raise, w_take_work, w_take_free, w_take_grow, w_take_shrink, w_take_raise, w_free_work, w_free_take, w_free_grow, w_free_shrink, w_free_raise, w_grow_work, w_grow_take, w_grow_free, w_grow_shrink, w_grow_raise, w_shrink_work, w_shrink_take, w_shrink_free, w_shrink_grow, w_shrink_raise, w_raise_work, w_raise_take, w_raise_free, w_raise_grow, w_raise_shrink, e1, h1, h2]
    simp [locksE_app, locksE]
theorem CInv.step {ls rs : List Str} {k : Nat} {most : Int} {c c' : List D} {es es' : List EE} (I : CInv ls rs k c es) (s : CStep ls rs most c es c' es') (hk : k ≤ 3) (hm : most ≤ 100) : CInv ls rs (k + 1) c' es' := by
  obtain ⟨⟨b, ev⟩, st, nd, sub, bd, lc, le⟩ := I
  cases s with
  | take h1 h2 =>
    rename_i z
    refine ⟨⟨b, ?_⟩, snoc_steps st (st_take h1), ?_, ?_, ?_, by simp; omega, by simp; omega⟩
    · rw [evenGo_app, ev]
      simp [evStep, h2, locksE_app, sumE_app, locksE, sumE]
    · rw [locksE_app, List.nodup_append]
      exact ⟨nd, by simp [locksE], fun x hx y hy => by simp [locksE] at hy; subst hy; rintro rfl; exact h2 hx⟩
    · intro x hx
      rw [locksE_app] at hx
      rcases List.mem_append.mp hx with hx | hx
      · exact sub x hx
      · simp [locksE] at hx; subst hx; exact h1
    · intro i hi
      simp at hi
      exact bd i hi
  | grow h1 h2 =>
    rename_i i
    have b1 := sumE_bd es bd
    have q1 : 0 ≤ sumE es + i := by omega
    have q2 : sumE es + i ≤ 1000 := by omega
    refine ⟨⟨b, ?_⟩, snoc_steps st (st_grow ⟨h1, by omega⟩), ?_, ?_, ?_, by simp; omega, by simp; omega⟩
    · rw [evenGo_app, ev]
      simp [evStep, w_work_take, w_work_free, w_work_grow, w_work_shrink, w_work_raise, w_take_work, w_take_free, w_take_grow, w_take_shrink, w_take_raise, w_free_work, w_free_take, w_free_grow, w_free_shrink, w_free_raise, w_grow_work, w_grow_take, w_grow_free, w_grow_shrink, w_grow_raise, w_shrink_work, w_shrink_take, w_shrink_free, w_shrink_grow, w_shrink_raise, w_raise_work, w_raise_take, w_raise_free, w_raise_grow, w_raise_shrink, q1, q2, locksE_app, sumE_app, locksE, sumE]
    · rw [locksE_app]; simpa [locksE] using nd
    · intro x hx
      rw [locksE_app] at hx
      simp [locksE] at hx
      exact sub x hx
    · intro j hj
      simp at hj
      rcases hj with hj | rfl
      · exact bd j hj
      · exact ⟨h1, h2⟩
  | close =>
    rename_i e
    have le2 : es'.length ≤ 3 := by simp at le; omega
    obtain ⟨w, p, e1, e2⟩ := ev_close (b := b) bd (by omega)
    have hst : isStepD (endD e) rs ls = true := by
      cases e with
      | lock z => exact st_free (sub z (by rw [locksE_app]; simp [locksE]))
      | cell i =>
        have := bd i (by simp)
        exact st_shrink ⟨this.1, by omega⟩
    refine ⟨⟨b, ?_⟩, snoc_steps st hst, ?_, ?_, fun i hi => bd i (by simp [hi]), by simp; omega, by simp at le; omega⟩
    · rw [e1, evenGo_app, ev]
      exact e2
    · rw [locksE_app, List.nodup_append] at nd
      exact nd.1
    · intro z hz
      exact sub z (by rw [locksE_app]; simp [hz])
  | raise h1 =>
    rename_i z
    refine ⟨⟨b, ?_⟩, snoc_steps st (st_raise h1), nd, sub, bd, by simp; omega, by omega⟩
    rw [evenGo_app, ev]
    simp [evStep, w_work_take, w_work_free, w_work_grow, w_work_shrink, w_work_raise, w_take_work, w_take_free, w_take_grow, w_take_shrink, w_take_raise, w_free_work, w_free_take, w_free_grow, w_free_shrink, w_free_raise, w_grow_work, w_grow_take, w_grow_free, w_grow_shrink, w_grow_raise, w_shrink_work, w_shrink_take, w_shrink_free, w_shrink_grow, w_shrink_raise, w_raise_work, w_raise_take, w_raise_free, w_raise_grow, w_raise_shrink]
  | work h1 h2 =>
    rename_i i
    refine ⟨⟨true, ?_⟩, snoc_steps st (st_work ⟨h1, by omega⟩), nd, sub, bd, by simp; omega, by omega⟩
    rw [evenGo_app, ev]
    simp [evStep, w_work_take, w_work_free, w_work_grow, w_work_shrink, w_work_raise, w_take_work, w_take_free, w_take_grow, w_take_shrink, w_take_raise, w_free_work, w_free_take, w_free_grow, w_free_shrink, w_free_raise, w_grow_work, w_grow_take, w_grow_free, w_grow_shrink, w_grow_raise, w_shrink_work, w_shrink_take, w_shrink_free, w_shrink_grow, w_shrink_raise, w_raise_work, w_raise_take, w_raise_free, w_raise_grow, w_raise_shrink]
end DE
end

section
set_option Elab.async false
set_option linter.all false
set_option maxRecDepth 100000
set_option maxHeartbeats 4000000
namespace DE
open PySem L2
theorem code_loop {C : Ctx} {i n m : Nat} {ls rs : List Str} {sm most : Int} {st0 : Store} (hk : HK C i) (hls : ls.length ≤ 100) (hrs : rs.length ≤ 100) (hm : 1 ≤ most ∧ most ≤ 100) (hsm : sm = 0 ∨ sm = 1) :
    ∀ (xs : List D) (k : Nat) (c : List D) (es : List EE) (a b d e f g : Option Slot) (st : Store), CInv ls rs k c es → k + xs.length ≤ 4 → Nxt st0 st n (m + 2 * xs.length) →
    ∃ c' es' a' b' d' e' f' g' st', forL (evSs C (bo__law_code_2 i)) (fun x s => asgT (.name 7) (.d x) s) xs ⟨cE n ls rs sm most c es a b d e f g, st⟩ = .ok .nx ⟨cE n ls rs sm most c' es' a' b' d' e' f' g', st'⟩ ∧ CInv ls rs 4 c' es' ∧ Nxt st0 st' n m
  | [], k, c, es, a, b, d, e, f, g, st, I, hl, nx => ⟨c, es, a, b, d, e, f, g, st, rfl, ⟨I.ev, I.steps, I.nd, I.sub, I.bd, by have := I.lc; simp at hl; omega, by have := I.le; simp at hl; omega⟩, by simpa using nx⟩
  | x :: r, k, c, es, a, b, d, e, f, g, st, I, hl, nx => by
    simp only [List.length_cons] at hl nx
    have lc := I.lc
    have le' := I.le
    obtain ⟨c', es', a', b', d', e', f', g', st', h1, h2, h3⟩ := code_step (m := m + 2 * r.length) (a := some (.val x)) (b := b) (d := d) (e := e) (f := f) (g := g) (sm := sm) (c := c) (es := es) hk (nx.bag.le (by omega)) hls hrs (by omega) (by omega) hm hsm
    obtain ⟨c2, es2, a2, b2, d2, e2, f2, g2, st2, q1, q2⟩ := code_loop hk hls hrs hm hsm r (k + 1) c' es' a' b' d' e' f' g' st' (I.step h2 (by omega) hm.2) (by omega) (nx.trans h3)
    refine ⟨c2, es2, a2, b2, d2, e2, f2, g2, st2, ?_, q2⟩
    have e1 : asgT (.name 7) (.d x) ⟨cE n ls rs sm most c es a b d e f g, st⟩ = some ⟨cE n ls rs sm most c es (some (.val x)) b d e f g, st⟩ := rfl
    unfold forL
    simp only [e1, opt_some, bind_ok, h1]
    exact q1
/-- the closers, last first -/
theorem close_all {ls rs : List Str} : ∀ (k : Nat) (es : List EE) (c : List D) (b : Bool), es.length = k → es.length ≤ 5 → (∀ i, EE.cell i ∈ es → 1 ≤ i ∧ i ≤ 250) → evenGo c [] 0 false = some (locksE es, sumE es, b) → evenGo (c ++ (es.map endD).reverse) [] 0 false = some ([], 0, b)
  | 0, es, c, b, hk, hl, bd, ev => by
    have : es = [] := List.eq_nil_of_length_eq_zero hk
    subst this
    simp only [List.map_nil, List.reverse_nil, List.append_nil]
    exact ev
  | k + 1, es, c, b, hk, hl, bd, ev => by
    obtain ⟨es0, x, rfl⟩ : ∃ es0 x, es = es0 ++ [x] := ⟨es.dropLast, es.getLast (by intro h; subst h; simp at hk), (List.dropLast_concat_getLast _).symm⟩
    simp only [List.length_append, List.length_singleton] at hk hl
    obtain ⟨w, p, e1, e2⟩ := ev_close (b := b) bd (by omega)
    have e3 : c ++ ((es0 ++ [x]).map endD).reverse = (c ++ [endD x]) ++ (es0.map endD).reverse := by simp
    rw [e3]
    refine close_all (ls := ls) (rs := rs) k es0 (c ++ [endD x]) b (by omega) (by omega) (fun i hi => bd i (by simp [hi])) ?_
    rw [e1, evenGo_app, ev]
    exact e2
def HC (C : Ctx) (i : Nat) : Prop := ∀ (st : Store) (n m : Nat) (ls rs : List Str) (sm : Int), ls.length ≤ 100 → rs.length ≤ 100 → (sm = 0 ∨ sm = 1) → Bag st n (m + 10) →
  ∃ cs st', C.call i [.loc n, .lst (ls.map D.str), .lst (rs.map D.str), .int sm] st = some (.tup cs, st') ∧ (cs.all fun x => isStepD x rs ls) = true ∧ evenD cs = true ∧ cs.length ≤ 12 ∧ Nxt st st' n m
theorem work_any {ls rs : List Str} {c : List D} (h : ∀ x ∈ c, isStepD x rs ls = true) : ∀ x ∈ c, kindD x := fun x hx => isStepD_kind (h x hx)
theorem code_c3 {C : Ctx} {i n : Nat} {ls rs : List Str} {sm most : Int} {c : List D} {es : List EE} {a b d e f g : Option Slot} {st : Store} (hc : ∀ x ∈ c, kindD x) (hl : c.length ≤ 100) :
    evX C (ce__law_code_3 i) ⟨cE n ls rs sm most c es a b d e f g, st⟩ = .ok (.fr ((c.filter isWork).map wordOf)) ⟨cE n ls rs sm most c es a b d e f g, st⟩ := by
  unfold ce__law_code_3
  rw [ev_comp_pure (xs := c) isWork wordOf]
  · simp [runFn_eq, finR_rt, finR_nx, finR_ite, ↓startE, ↓evSs, ↓evS, ↓evX, ↓evL, ↓evOs, ↓evBs, ↓evP, ↓evI, ↓asO_pk, ↓asO_var, ↓asO_con, ↓asO_glb, ↓asO_bin, ↓asO_neg, ↓asO_ife, ↓asO_tup, ↓asO_lst, ↓asO_idx, ↓asO_slc, ↓asO_rev, ↓asO_call, ↓asO_bi, ↓asO_join, ↓asO_pop, ↓asO_sset, ↓asO_cmp, ↓Res.bind, ↓asB, ↓asI, ↓asS, ↓asD, ↓Res.opt, ↓two, ↓resO, ↓S.get, ↓S.put, ↓S.put?, ↓asgT, ↓asgTs, ↓RX.dat, ↓obind_eq, ↓omap_eq, and_merge, or_merge, and_mergeB, or_mergeB, isiD, cmpD, lenD, binD, idxD, biD, nonD, atI_0, atI_1, atI_2, List.length_cons, List.length_nil, List.map_cons, List.map_nil, List.append_eq, List.cons_append, List.nil_append, List.getElem?_cons_zero, List.getElem?_cons_succ, List.getElem?_nil, List.mapM_cons, List.mapM_nil, Option.pure_def, Option.bind_eq_bind, id_eq, Bool.false_eq_true, List.foldl_cons, List.foldl_nil, ↓frzS, cE, seqD]
  · rw [sizeLine_eq]; omega
  · intro x hx
    obtain ⟨w, p, e, _⟩ := hc x hx
    rw [e]
    refine compPure_id rfl rfl ?_ fun _ => rfl
    simp [runFn_eq, finR_rt, finR_nx, finR_ite, ↓startE, ↓evSs, ↓evS, ↓evX, ↓evL, ↓evOs, ↓evBs, ↓evP, ↓evI, ↓asO_pk, ↓asO_var, ↓asO_con, ↓asO_glb, ↓asO_bin, ↓asO_neg, ↓asO_ife, ↓asO_tup, ↓asO_lst, ↓asO_idx, ↓asO_slc, ↓asO_rev, ↓asO_call, ↓asO_bi, ↓asO_join, ↓asO_pop, ↓asO_sset, ↓asO_cmp, ↓Res.bind, ↓asB, ↓asI, ↓asS, ↓asD, ↓Res.opt, ↓two, ↓resO, ↓S.get, ↓S.put, ↓S.put?, ↓asgT, ↓asgTs, ↓RX.dat, ↓obind_eq, ↓omap_eq, and_merge, or_merge, and_mergeB, or_mergeB, isiD, cmpD, lenD, binD, idxD, biD, nonD, atI_0, atI_1, atI_2, List.length_cons, List.length_nil, List.map_cons, List.map_nil, List.append_eq, List.cons_append, List.nil_append, List.getElem?_cons_zero, List.getElem?_cons_succ, List.getElem?_nil, List.mapM_cons, List.mapM_nil, Option.pure_def, Option.bind_eq_bind, id_eq, Bool.false_eq_true, List.foldl_cons, List.foldl_nil, ↓frzS, cE, compEnv, wipeE, roS, cmpOk_str, eqD_str, isWork]
end DE
end

section
set_option Elab.async false
set_option linter.all false
set_option maxRecDepth 100000
set_option maxHeartbeats 4000000
namespace DE
open PySem L2
theorem mem_locks {z : Str} : ∀ es : List EE, EE.lock z ∈ es → z ∈ locksE es
  | [], h => by cases h
  | .lock u :: r, h => by
    rcases List.mem_cons.mp h with q | q
    · cases q; simp [locksE]
    · simp only [locksE]; exact List.mem_cons_of_mem _ (mem_locks r q)
  | .cell j :: r, h => by
    rcases List.mem_cons.mp h with q | q
    · cases q
    · simp only [locksE]; exact mem_locks r q
theorem code_end {ls rs : List Str} {c : List D} {es : List EE} (st : ∀ x ∈ c, isStepD x rs ls = true) (sub : ∀ z ∈ locksE es, z ∈ ls) (bd : ∀ i, EE.cell i ∈ es → 1 ≤ i ∧ i ≤ 250) (ev : ∃ b, evenGo c [] 0 false = some (locksE es, sumE es, b)) (hw : c.any isWork = true) (hl : es.length ≤ 4) (hc : c.length ≤ 5) :
    ((c ++ (es.map endD).reverse).all fun x => isStepD x rs ls) = true ∧ evenD (c ++ (es.map endD).reverse) = true ∧ (c ++ (es.map endD).reverse).length ≤ 12 := by
  obtain ⟨b, ev⟩ := ev
  refine ⟨?_, ?_, by simp; omega⟩
  · rw [List.all_eq_true]
    intro x hx
    rcases List.mem_append.mp hx with hx | hx
    · exact st x hx
    · rw [List.mem_reverse, List.mem_map] at hx
      obtain ⟨e, he, rfl⟩ := hx
      cases e with
      | lock z =>
        exact st_free (sub z (mem_locks es he))
      | cell i => exact st_shrink ⟨(bd i he).1, by have := (bd i he).2; omega⟩
  · have e := close_all (ls := ls) (rs := rs) es.length es c b rfl (by omega) bd ev
    have k := evenGo_k ev
    rw [hw] at k
    subst k
    unfold evenD
    rw [e]
    rfl
theorem code_ok {C : Ctx} {i n m : Nat} {ls rs : List Str} {sm : Int} {st : Store} (hk : HK C i) (hls : ls.length ≤ 100) (hrs : rs.length ≤ 100) (hsm : sm = 0 ∨ sm = 1) (hb : Bag st n (m + 10)) :
    ∃ cs st', runFn C (fn__law_code i) [.loc n, .lst (ls.map D.str), .lst (rs.map D.str), .int sm] st = some (.tup cs, st') ∧ (cs.all fun x => isStepD x rs ls) = true ∧ evenD cs = true ∧ cs.length ≤ 12 ∧ Nxt st st' n m := by
  obtain ⟨most, hq, m1, m2⟩ : ∃ most : Int, atI [D.int 100, D.int 3] sm = some (.int most) ∧ 1 ≤ most ∧ most ≤ 100 := by
    rcases hsm with rfl | rfl
    · exact ⟨100, atI_0 _ _, by omega, by omega⟩
    · exact ⟨3, atI_1 _ _ _, by omega, by omega⟩
  obtain ⟨r, s1, e1, r1, r2, n1⟩ := hk st n (m + 9) 4 hb (by omega) (by omega)
  have hlen : (rangeD 0 (1 + r).toNat).length = (1 + r).toNat := by simp [rangeD]
  obtain ⟨c, es, a, b, d, e, f, g, s2, lp, I, n2⟩ := code_loop (m := m + 1) (a := none) (b := none) (d := none) (e := none) (f := none) (g := none) hk hls hrs ⟨m1, m2⟩ hsm (rangeD 0 (1 + r).toNat) 0 [] [] s1 (CInv.nil ls rs) (by rw [hlen]; omega) ((Nxt.refl n1.bag).trans (.refl (n1.bag.le (by rw [hlen]; omega))))
  have hf : evS C (fo__law_code_2 i) ⟨cE n ls rs sm most [] [] none none none none none none, st⟩ = .ok .nx ⟨cE n ls rs sm most c es a b d e f g, s2⟩ := by
    unfold fo__law_code_2
    refine (ev_for (s1 := ⟨cE n ls rs sm most [] [] none none none none none none, s1⟩) (xs := rangeD 0 (1 + r).toNat) ?_).trans lp
    have q : (1 + r).natAbs < 4611686018427387904 := by omega
    simp [runFn_eq, finR_rt, finR_nx, finR_ite, ↓startE, ↓evSs, ↓evS, ↓evX, ↓evL, ↓evOs, ↓evBs, ↓evP, ↓evI, ↓asO_pk, ↓asO_var, ↓asO_con, ↓asO_glb, ↓asO_bin, ↓asO_neg, ↓asO_ife, ↓asO_tup, ↓asO_lst, ↓asO_idx, ↓asO_slc, ↓asO_rev, ↓asO_call, ↓asO_bi, ↓asO_join, ↓asO_pop, ↓asO_sset, ↓asO_cmp, ↓Res.bind, ↓asB, ↓asI, ↓asS, ↓asD, ↓Res.opt, ↓two, ↓resO, ↓S.get, ↓S.put, ↓S.put?, ↓asgT, ↓asgTs, ↓RX.dat, ↓obind_eq, ↓omap_eq, and_merge, or_merge, and_mergeB, or_mergeB, isiD, cmpD, lenD, binD, idxD, biD, nonD, atI_0, atI_1, atI_2, List.length_cons, List.length_nil, List.map_cons, List.map_nil, List.append_eq, List.cons_append, List.nil_append, List.getElem?_cons_zero, List.getElem?_cons_succ, List.getElem?_nil, List.mapM_cons, List.mapM_nil, Option.pure_def, Option.bind_eq_bind, id_eq, Bool.false_eq_true, List.foldl_cons, List.foldl_nil, ↓frzS, cE, e1, q]
  have lc := I.lc
  have le' := I.le
  have kd := work_any I.steps
  have c3 := code_c3 (C := C) (i := i) (n := n) (ls := ls) (rs := rs) (sm := sm) (most := most) (c := c) (es := es) (a := a) (b := b) (d := d) (e := e) (f := f) (g := g) (st := s2) kd (by omega)
  have ha := as_np (e := ce__law_code_3 i) rfl c3
  have w0 := work_empty c kd wordOf
  have w1 : isPys ((c.filter isWork).map wordOf) = true := by
    apply isPys_of
    intro x hx
    obtain ⟨y, hy, rfl⟩ := List.mem_map.mp hx
    obtain ⟨w, p, e, _⟩ := kd y (List.mem_filter.mp hy).1
    rw [e]
    rfl
  generalize ((c.filter isWork).map wordOf) = ys at ha w0 w1
  have w2 := cmpOk_lst0 w1
  simp only [cE, RX.dat, List.map_nil] at ha hf
  have z2 : 2 ≤ sizeLine := by rw [sizeLine_eq]; omega
  have lc2 : c.length < sizeLine := by rw [sizeLine_eq]; omega
  have lt : c.length + es.length ≤ sizeLine := by rw [sizeLine_eq]; omega
  have lt2 : c.length + 1 + es.length ≤ sizeLine := by rw [sizeLine_eq]; omega
  cases hw : c.any isWork with
  | true =>
    rw [hw] at w0
    obtain ⟨q1, q2, q3⟩ := code_end I.steps I.sub I.bd I.ev hw I.le (by omega)
    refine ⟨_, s2, ?_, q1, q2, q3, (n1.trans n2).trans (.refl (n2.bag.le (by omega)))⟩
    simp [fn__law_code, runFn_eq, finR_rt, finR_nx, finR_ite, ↓startE, ↓evSs, ↓evS, ↓evX, ↓evL, ↓evOs, ↓evBs, ↓evP, ↓evI, ↓asO_pk, ↓asO_var, ↓asO_con, ↓asO_glb, ↓asO_bin, ↓asO_neg, ↓asO_ife, ↓asO_tup, ↓asO_lst, ↓asO_idx, ↓asO_slc, ↓asO_rev, ↓asO_call, ↓asO_bi, ↓asO_join, ↓asO_pop, ↓asO_sset, ↓asO_cmp, ↓Res.bind, ↓asB, ↓asI, ↓asS, ↓asD, ↓Res.opt, ↓two, ↓resO, ↓S.get, ↓S.put, ↓S.put?, ↓asgT, ↓asgTs, ↓RX.dat, ↓obind_eq, ↓omap_eq, and_merge, or_merge, and_mergeB, or_mergeB, isiD, cmpD, lenD, binD, idxD, biD, nonD, atI_0, atI_1, atI_2, List.length_cons, List.length_nil, List.map_cons, List.map_nil, List.append_eq, List.cons_append, List.nil_append, List.getElem?_cons_zero, List.getElem?_cons_succ, List.getElem?_nil, List.mapM_cons, List.mapM_nil, Option.pure_def, Option.bind_eq_bind, id_eq, Bool.false_eq_true, List.foldl_cons, List.foldl_nil, ↓frzS, hq, z2, hf, ha, w2, eqD_lst0, w0, revD, lt]
  | false =>
    rw [hw] at w0
    obtain ⟨r', s3, e3, p1, p2, n3⟩ := hk s2 n m most n2.bag m1 (by omega)
    obtain ⟨q1, q2, q3⟩ := code_end (c := c ++ [.tup [.str "work", .int (1 + r')]]) (snoc_steps I.steps (st_work ⟨by omega, by omega⟩)) I.sub I.bd (by
      obtain ⟨b, ev⟩ := I.ev
      exact ⟨true, by rw [evenGo_app, ev]; simp [evStep, w_work_take, w_work_free, w_work_grow, w_work_shrink, w_work_raise, w_take_work, w_take_free, w_take_grow, w_take_shrink, w_take_raise, w_free_work, w_free_take, w_free_grow, w_free_shrink, w_free_raise, w_grow_work, w_grow_take, w_grow_free, w_grow_shrink, w_grow_raise, w_shrink_work, w_shrink_take, w_shrink_free, w_shrink_grow, w_shrink_raise, w_raise_work, w_raise_take, w_raise_free, w_raise_grow, w_raise_shrink]⟩) (by simp [isWork]) I.le (by simp; omega)
    refine ⟨_, s3, ?_, q1, q2, q3, (n1.trans n2).trans n3⟩
    simp [fn__law_code, runFn_eq, finR_rt, finR_nx, finR_ite, ↓startE, ↓evSs, ↓evS, ↓evX, ↓evL, ↓evOs, ↓evBs, ↓evP, ↓evI, ↓asO_pk, ↓asO_var, ↓asO_con, ↓asO_glb, ↓asO_bin, ↓asO_neg, ↓asO_ife, ↓asO_tup, ↓asO_lst, ↓asO_idx, ↓asO_slc, ↓asO_rev, ↓asO_call, ↓asO_bi, ↓asO_join, ↓asO_pop, ↓asO_sset, ↓asO_cmp, ↓Res.bind, ↓asB, ↓asI, ↓asS, ↓asD, ↓Res.opt, ↓two, ↓resO, ↓S.get, ↓S.put, ↓S.put?, ↓asgT, ↓asgTs, ↓RX.dat, ↓obind_eq, ↓omap_eq, and_merge, or_merge, and_mergeB, or_mergeB, isiD, cmpD, lenD, binD, idxD, biD, nonD, atI_0, atI_1, atI_2, List.length_cons, List.length_nil, List.map_cons, List.map_nil, List.append_eq, List.cons_append, List.nil_append, List.getElem?_cons_zero, List.getElem?_cons_succ, List.getElem?_nil, List.mapM_cons, List.mapM_nil, Option.pure_def, Option.bind_eq_bind, id_eq, Bool.false_eq_true, List.foldl_cons, List.foldl_nil, ↓frzS, hq, z2, hf, ha, w2, eqD_lst0, w0, revD, lt2, e3, lstSlot, lc2]
end DE
end

section
set_option Elab.async false
set_option linter.all false
set_option maxRecDepth 100000
set_option maxHeartbeats 4000000
namespace DE
open PySem L2
theorem same_bl {C : Ctx} {i : Nat} {x y : Bool} {st : Store} : runFn C (fn__law_same i) [.bl x, .bl y] st = some (.bl (x == y), st) := by
  simp [fn__law_same, runFn_eq, finR_rt, finR_nx, finR_ite, ↓startE, ↓evSs, ↓evS, ↓evX, ↓evL, ↓evOs, ↓evBs, ↓evP, ↓evI, ↓asO_pk, ↓asO_var, ↓asO_con, ↓asO_glb, ↓asO_bin, ↓asO_neg, ↓asO_ife, ↓asO_tup, ↓asO_lst, ↓asO_idx, ↓asO_slc, ↓asO_rev, ↓asO_call, ↓asO_bi, ↓asO_join, ↓asO_pop, ↓asO_sset, ↓asO_cmp, ↓Res.bind, ↓asB, ↓asI, ↓asS, ↓asD, ↓Res.opt, ↓two, ↓resO, ↓S.get, ↓S.put, ↓S.put?, ↓asgT, ↓asgTs, ↓RX.dat, ↓obind_eq, ↓omap_eq, and_merge, or_merge, and_mergeB, or_mergeB, isiD, cmpD, lenD, binD, idxD, biD, nonD, atI_0, atI_1, atI_2, List.length_cons, List.length_nil, List.map_cons, List.map_nil, List.append_eq, List.cons_append, List.nil_append, List.getElem?_cons_zero, List.getElem?_cons_succ, List.getElem?_nil, List.mapM_cons, List.mapM_nil, Option.pure_def, Option.bind_eq_bind, id_eq, Bool.false_eq_true, List.foldl_cons, List.foldl_nil, ↓frzS, isiTD, cmpOk_bl, eqD_bl]
theorem well_ok {C : Ctx} {c t : Int} {st : Store} : ∃ a b : Int, runFn C fn__law_well [.int c, .int t] st = some (.loc st.length, st ++ [[.int a, .int b, .int t]]) := by
  have z3 : 3 ≤ sizeLine := by rw [sizeLine_eq]; omega
  by_cases h : c < 1000000000000000000
  · refine ⟨0, c.fmod 2305843009213693951, ?_⟩
    have h' : ¬ (1000000000000000000 ≤ c) := by omega
    simp [fn__law_well, runFn_eq, finR_rt, finR_nx, finR_ite, ↓startE, ↓evSs, ↓evS, ↓evX, ↓evL, ↓evOs, ↓evBs, ↓evP, ↓evI, ↓asO_pk, ↓asO_var, ↓asO_con, ↓asO_glb, ↓asO_bin, ↓asO_neg, ↓asO_ife, ↓asO_tup, ↓asO_lst, ↓asO_idx, ↓asO_slc, ↓asO_rev, ↓asO_call, ↓asO_bi, ↓asO_join, ↓asO_pop, ↓asO_sset, ↓asO_cmp, ↓Res.bind, ↓asB, ↓asI, ↓asS, ↓asD, ↓Res.opt, ↓two, ↓resO, ↓S.get, ↓S.put, ↓S.put?, ↓asgT, ↓asgTs, ↓RX.dat, ↓obind_eq, ↓omap_eq, and_merge, or_merge, and_mergeB, or_mergeB, isiD, cmpD, lenD, binD, idxD, biD, nonD, atI_0, atI_1, atI_2, List.length_cons, List.length_nil, List.map_cons, List.map_nil, List.append_eq, List.cons_append, List.nil_append, List.getElem?_cons_zero, List.getElem?_cons_succ, List.getElem?_nil, List.mapM_cons, List.mapM_nil, Option.pure_def, Option.bind_eq_bind, id_eq, Bool.false_eq_true, List.foldl_cons, List.foldl_nil, ↓frzS, h', z3]
  · refine ⟨c - 1000000000000000000, c.fmod 2305843009213693951, ?_⟩
    have h' : (1000000000000000000 ≤ c) := by omega
    simp [fn__law_well, runFn_eq, finR_rt, finR_nx, finR_ite, ↓startE, ↓evSs, ↓evS, ↓evX, ↓evL, ↓evOs, ↓evBs, ↓evP, ↓evI, ↓asO_pk, ↓asO_var, ↓asO_con, ↓asO_glb, ↓asO_bin, ↓asO_neg, ↓asO_ife, ↓asO_tup, ↓asO_lst, ↓asO_idx, ↓asO_slc, ↓asO_rev, ↓asO_call, ↓asO_bi, ↓asO_join, ↓asO_pop, ↓asO_sset, ↓asO_cmp, ↓Res.bind, ↓asB, ↓asI, ↓asS, ↓asD, ↓Res.opt, ↓two, ↓resO, ↓S.get, ↓S.put, ↓S.put?, ↓asgT, ↓asgTs, ↓RX.dat, ↓obind_eq, ↓omap_eq, and_merge, or_merge, and_mergeB, or_mergeB, isiD, cmpD, lenD, binD, idxD, biD, nonD, atI_0, atI_1, atI_2, List.length_cons, List.length_nil, List.map_cons, List.map_nil, List.append_eq, List.cons_append, List.nil_append, List.getElem?_cons_zero, List.getElem?_cons_succ, List.getElem?_nil, List.mapM_cons, List.mapM_nil, Option.pure_def, Option.bind_eq_bind, id_eq, Bool.false_eq_true, List.foldl_cons, List.foldl_nil, ↓frzS, h', z3]
end DE
end

section
set_option Elab.async false
set_option linter.all false
set_option maxRecDepth 100000
set_option maxHeartbeats 4000000
namespace DE
open PySem L2
def TaskS (x : D) : Prop := ∃ (nm : Str) (lv rm gp : Int) (code : List D), x = .tup [.str nm, .int lv, .int rm, .int gp, .tup code] ∧ 1 ≤ lv ∧ lv ≤ 9 ∧ isPys code = true
def takesD (z : Str) (x : D) : Bool := match x with
  | .tup [_, _, _, _, .tup code] => code.any fun y => eqD y (.tup [.str "take", .str z])
  | _ => false
def levelD (x : D) : D := match x with
  | .tup [_, l, _, _, _] => l
  | _ => .non
theorem atI_4 (a b c d e : D) (xs : List D) : atI (a :: b :: c :: d :: e :: xs) 4 = some e := by
  have : (4 : Int) < (xs.length : Int) + 1 + 1 + 1 + 1 + 1 := by omega
  simp [atI, ixN, this]
theorem levels_ints : ∀ {ts : List D}, (∀ x ∈ ts, TaskS x) → ∀ z : Str, ∃ ns : List Int, ((ts.filter (takesD z)).map levelD) = ns.map D.int ∧ ∀ i ∈ ns, 1 ≤ i ∧ i ≤ 9
  | [], _, z => ⟨[], rfl, by simp⟩
  | x :: r, h, z => by
    obtain ⟨ns, e, q⟩ := levels_ints (ts := r) (fun y hy => h y (by simp [hy])) z
    obtain ⟨nm, lv, rm, gp, code, rfl, l1, l2, _⟩ := h x (by simp)
    rw [List.filter_cons]
    split
    · refine ⟨lv :: ns, by rw [List.map_cons, e]; rfl, fun i hi => ?_⟩
      rcases List.mem_cons.mp hi with rfl | hi
      · exact ⟨l1, l2⟩
      · exact q i hi
    · exact ⟨ns, e, q⟩
theorem tops_comp {C : Ctx} {ts : List D} {v1 v2 : Option Slot} {z : Str} {st : Store} (ht : ∀ x ∈ ts, TaskS x) (hl : ts.length ≤ 100) :
    evX C ce__law_tops_0 ⟨[some (.val (.lst ts)), v1, v2, some (.val (.str z)), none, none], st⟩ = .ok (.fr ((ts.filter (takesD z)).map levelD)) ⟨[some (.val (.lst ts)), v1, v2, some (.val (.str z)), none, none], st⟩ := by
  unfold ce__law_tops_0
  rw [ev_comp_pure (xs := ts) (takesD z) levelD]
  · simp [runFn_eq, finR_rt, finR_nx, finR_ite, ↓startE, ↓evSs, ↓evS, ↓evX, ↓evL, ↓evOs, ↓evBs, ↓evP, ↓evI, ↓asO_pk, ↓asO_var, ↓asO_con, ↓asO_glb, ↓asO_bin, ↓asO_neg, ↓asO_ife, ↓asO_tup, ↓asO_lst, ↓asO_idx, ↓asO_slc, ↓asO_rev, ↓asO_call, ↓asO_bi, ↓asO_join, ↓asO_pop, ↓asO_sset, ↓asO_cmp, ↓Res.bind, ↓asB, ↓asI, ↓asS, ↓asD, ↓Res.opt, ↓two, ↓resO, ↓S.get, ↓S.put, ↓S.put?, ↓asgT, ↓asgTs, ↓RX.dat, ↓obind_eq, ↓omap_eq, and_merge, or_merge, and_mergeB, or_mergeB, isiD, cmpD, lenD, binD, idxD, biD, nonD, atI_0, atI_1, atI_2, List.length_cons, List.length_nil, List.map_cons, List.map_nil, List.append_eq, List.cons_append, List.nil_append, List.getElem?_cons_zero, List.getElem?_cons_succ, List.getElem?_nil, List.mapM_cons, List.mapM_nil, Option.pure_def, Option.bind_eq_bind, id_eq, Bool.false_eq_true, List.foldl_cons, List.foldl_nil, ↓frzS, seqD]
  · rw [sizeLine_eq]; omega
  · intro x hx
    obtain ⟨nm, lv, rm, gp, code, rfl, l1, l2, hp⟩ := ht x hx
    have z2 : 2 ≤ sizeLine := by rw [sizeLine_eq]; omega
    have hd : ∀ w u : Str, (toPy (.tup [.str w, .str u])).depth ≤ 60 := fun w u => by simp [toPy, toPys, PyData.depth, PyData.depthAll]
    refine compPure_id rfl rfl ?_ fun _ => ?_
    · simp [runFn_eq, finR_rt, finR_nx, finR_ite, ↓startE, ↓evSs, ↓evS, ↓evX, ↓evL, ↓evOs, ↓evBs, ↓evP, ↓evI, ↓asO_pk, ↓asO_var, ↓asO_con, ↓asO_glb, ↓asO_bin, ↓asO_neg, ↓asO_ife, ↓asO_tup, ↓asO_lst, ↓asO_idx, ↓asO_slc, ↓asO_rev, ↓asO_call, ↓asO_bi, ↓asO_join, ↓asO_pop, ↓asO_sset, ↓asO_cmp, ↓Res.bind, ↓asB, ↓asI, ↓asS, ↓asD, ↓Res.opt, ↓two, ↓resO, ↓S.get, ↓S.put, ↓S.put?, ↓asgT, ↓asgTs, ↓RX.dat, ↓obind_eq, ↓omap_eq, and_merge, or_merge, and_mergeB, or_mergeB, isiD, cmpD, lenD, binD, idxD, biD, nonD, atI_0, atI_1, atI_2, List.length_cons, List.length_nil, List.map_cons, List.map_nil, List.append_eq, List.cons_append, List.nil_append, List.getElem?_cons_zero, List.getElem?_cons_succ, List.getElem?_nil, List.mapM_cons, List.mapM_nil, Option.pure_def, Option.bind_eq_bind, id_eq, Bool.false_eq_true, List.foldl_cons, List.foldl_nil, ↓frzS, compEnv, wipeE, roS, z2, atI_4, memD, isPy, isPys, hp, hd, takesD]
    · simp [el__law_tops_0, runFn_eq, finR_rt, finR_nx, finR_ite, ↓startE, ↓evSs, ↓evS, ↓evX, ↓evL, ↓evOs, ↓evBs, ↓evP, ↓evI, ↓asO_pk, ↓asO_var, ↓asO_con, ↓asO_glb, ↓asO_bin, ↓asO_neg, ↓asO_ife, ↓asO_tup, ↓asO_lst, ↓asO_idx, ↓asO_slc, ↓asO_rev, ↓asO_call, ↓asO_bi, ↓asO_join, ↓asO_pop, ↓asO_sset, ↓asO_cmp, ↓Res.bind, ↓asB, ↓asI, ↓asS, ↓asD, ↓Res.opt, ↓two, ↓resO, ↓S.get, ↓S.put, ↓S.put?, ↓asgT, ↓asgTs, ↓RX.dat, ↓obind_eq, ↓omap_eq, and_merge, or_merge, and_mergeB, or_mergeB, isiD, cmpD, lenD, binD, idxD, biD, nonD, atI_0, atI_1, atI_2, List.length_cons, List.length_nil, List.map_cons, List.map_nil, List.append_eq, List.cons_append, List.nil_append, List.getElem?_cons_zero, List.getElem?_cons_succ, List.getElem?_nil, List.mapM_cons, List.mapM_nil, Option.pure_def, Option.bind_eq_bind, id_eq, Bool.false_eq_true, List.foldl_cons, List.foldl_nil, ↓frzS, compEnv, wipeE, roS, levelD]
end DE
end

section
set_option Elab.async false
set_option linter.all false
set_option maxRecDepth 100000
set_option maxHeartbeats 4000000
namespace DE
open PySem L2
theorem maxI_le {r : List Int} {m b : Int} (hm : m ≤ b) (h : ∀ i ∈ r, i ≤ b) : m ≤ maxI m r ∧ maxI m r ≤ b := by
  obtain ⟨h1, h2, _⟩ := maxI_spec r m
  refine ⟨h2, ?_⟩
  rcases h1 with h1 | h1
  · rw [h1]; exact hm
  · exact h _ h1
def pairD (p : Str × Int) : D := .tup [.str p.1, .int p.2]
theorem tops_loop {C : Ctx} {ts : List D} {v1 : Option Slot} {st : Store} (ht : ∀ x ∈ ts, TaskS x) (hl : ts.length ≤ 100) : ∀ (ls : List Str) (ps : List (Str × Int)) (a : Option Slot), ps.length + ls.length ≤ 100 → (∀ p ∈ ps, 0 ≤ p.2 ∧ p.2 ≤ 9) →
    ∃ (ps' : List (Str × Int)) (a' : Option Slot), forL (evSs C bo__law_tops_1) (fun x s => asgT (.name 3) (.d x) s) (ls.map D.str) ⟨[some (.val (.lst ts)), v1, some (.own (ps.map pairD)), a, none, none], st⟩ = .ok .nx ⟨[some (.val (.lst ts)), v1, some (.own (ps'.map pairD)), a', none, none], st⟩ ∧ ps'.map (·.1) = ps.map (·.1) ++ ls ∧ ∀ p ∈ ps', 0 ≤ p.2 ∧ p.2 ≤ 9
  | [], ps, a, _, hp => ⟨ps, a, rfl, by simp, hp⟩
  | z :: r, ps, a, hs, hp => by
    simp only [List.length_cons] at hs
    have c := tops_comp (C := C) (v1 := v1) (v2 := some (.own (ps.map pairD))) (z := z) (st := st) ht hl
    obtain ⟨ns, e, q⟩ := levels_ints ht z
    rw [e] at c
    have ha := as_np (e := ce__law_tops_0) rfl c
    obtain ⟨m1, m2⟩ := maxI_le (r := ns) (m := 0) (b := 9) (by omega) fun i hi => (q i hi).2
    have nl : ns.length ≤ 100 := by
      have := congrArg List.length e
      simp only [List.length_map] at this
      have := List.length_filter_le (takesD z) ts
      omega
    have z1 : 1 ≤ sizeLine := by rw [sizeLine_eq]; omega
    have z2 : 2 ≤ sizeLine := by rw [sizeLine_eq]; omega
    have zl : 1 + ns.length ≤ sizeLine := by rw [sizeLine_eq]; omega
    have zp : ps.length < sizeLine := by rw [sizeLine_eq]; omega
    have hi0 : intsD (.int 0 :: ns.map D.int) = some (0 :: ns) := intsD_map (0 :: ns)
    have body : evSs C bo__law_tops_1 ⟨[some (.val (.lst ts)), v1, some (.own (ps.map pairD)), some (.val (.str z)), none, none], st⟩ = .ok .nx ⟨[some (.val (.lst ts)), v1, some (.own ((ps ++ [(z, maxI 0 ns)]).map pairD)), some (.val (.str z)), none, none], st⟩ := by
      simp only [RX.dat] at ha
      simp [bo__law_tops_1, runFn_eq, finR_rt, finR_nx, finR_ite, ↓startE, ↓evSs, ↓evS, ↓evX, ↓evL, ↓evOs, ↓evBs, ↓evP, ↓evI, ↓asO_pk, ↓asO_var, ↓asO_con, ↓asO_glb, ↓asO_bin, ↓asO_neg, ↓asO_ife, ↓asO_tup, ↓asO_lst, ↓asO_idx, ↓asO_slc, ↓asO_rev, ↓asO_call, ↓asO_bi, ↓asO_join, ↓asO_pop, ↓asO_sset, ↓asO_cmp, ↓Res.bind, ↓asB, ↓asI, ↓asS, ↓asD, ↓Res.opt, ↓two, ↓resO, ↓S.get, ↓S.put, ↓S.put?, ↓asgT, ↓asgTs, ↓RX.dat, ↓obind_eq, ↓omap_eq, and_merge, or_merge, and_mergeB, or_mergeB, isiD, cmpD, lenD, binD, idxD, biD, nonD, atI_0, atI_1, atI_2, List.length_cons, List.length_nil, List.map_cons, List.map_nil, List.append_eq, List.cons_append, List.nil_append, List.getElem?_cons_zero, List.getElem?_cons_succ, List.getElem?_nil, List.mapM_cons, List.mapM_nil, Option.pure_def, Option.bind_eq_bind, id_eq, Bool.false_eq_true, List.foldl_cons, List.foldl_nil, ↓frzS, lstSlot, ha, z1, z2, zl, zp, hi0, pairD]
    obtain ⟨ps', a', l1, l2, l3⟩ := tops_loop ht hl r (ps ++ [(z, maxI 0 ns)]) (some (.val (.str z))) (by simp; omega) (fun p hp' => by
      rcases List.mem_append.mp hp' with h | h
      · exact hp p h
      · simp at h; subst h; exact ⟨m1, m2⟩)
    refine ⟨ps', a', ?_, by rw [l2]; simp, l3⟩
    have e1 : asgT (.name 3) (.d (.str z)) ⟨[some (.val (.lst ts)), v1, some (.own (ps.map pairD)), a, none, none], st⟩ = some ⟨[some (.val (.lst ts)), v1, some (.own (ps.map pairD)), some (.val (.str z)), none, none], st⟩ := rfl
    rw [List.map_cons]
    unfold forL
    simp only [e1, opt_some, bind_ok, body]
    exact l1
def HTo (C : Ctx) (i : Nat) : Prop := ∀ (ts : List D) (ls : List Str) (st : Store), (∀ x ∈ ts, TaskS x) → ts.length ≤ 100 → ls.length ≤ 100 →
  ∃ ps : List (Str × Int), C.call i [.lst ts, .lst (ls.map D.str)] st = some (.tup (ps.map pairD), st) ∧ ps.map (·.1) = ls ∧ ∀ p ∈ ps, 0 ≤ p.2 ∧ p.2 ≤ 9
theorem tops_ok {C : Ctx} {ts : List D} {ls : List Str} {st : Store} (ht : ∀ x ∈ ts, TaskS x) (hl : ts.length ≤ 100) (hls : ls.length ≤ 100) :
    ∃ ps : List (Str × Int), runFn C fn__law_tops [.lst ts, .lst (ls.map D.str)] st = some (.tup (ps.map pairD), st) ∧ ps.map (·.1) = ls ∧ ∀ p ∈ ps, 0 ≤ p.2 ∧ p.2 ≤ 9 := by
  obtain ⟨ps, a, l1, l2, l3⟩ := tops_loop (C := C) (v1 := some (.val (.lst (ls.map D.str)))) (st := st) ht hl ls [] none (by simpa using hls) (by simp)
  have hf : evS C fo__law_tops_1 ⟨[some (.val (.lst ts)), some (.val (.lst (ls.map D.str))), some (.own []), none, none, none], st⟩ = .ok .nx ⟨[some (.val (.lst ts)), some (.val (.lst (ls.map D.str))), some (.own (ps.map pairD)), a, none, none], st⟩ := by
    unfold fo__law_tops_1
    exact (ev_for (by simp [runFn_eq, finR_rt, finR_nx, finR_ite, ↓startE, ↓evSs, ↓evS, ↓evX, ↓evL, ↓evOs, ↓evBs, ↓evP, ↓evI, ↓asO_pk, ↓asO_var, ↓asO_con, ↓asO_glb, ↓asO_bin, ↓asO_neg, ↓asO_ife, ↓asO_tup, ↓asO_lst, ↓asO_idx, ↓asO_slc, ↓asO_rev, ↓asO_call, ↓asO_bi, ↓asO_join, ↓asO_pop, ↓asO_sset, ↓asO_cmp, ↓Res.bind, ↓asB, ↓asI, ↓asS, ↓asD, ↓Res.opt, ↓two, ↓resO, ↓S.get, ↓S.put, ↓S.put?, ↓asgT, ↓asgTs, ↓RX.dat, ↓obind_eq, ↓omap_eq, and_merge, or_merge, and_mergeB, or_mergeB, isiD, cmpD, lenD, binD, idxD, biD, nonD, atI_0, atI_1, atI_2, List.length_cons, List.length_nil, List.map_cons, List.map_nil, List.append_eq, List.cons_append, List.nil_append, List.getElem?_cons_zero, List.getElem?_cons_succ, List.getElem?_nil, List.mapM_cons, List.mapM_nil, Option.pure_def, Option.bind_eq_bind, id_eq, Bool.false_eq_true, List.foldl_cons, List.foldl_nil, ↓frzS, seqD])).trans l1
  refine ⟨ps, ?_, by simpa using l2, l3⟩
  simp [fn__law_tops, runFn_eq, finR_rt, finR_nx, finR_ite, ↓startE, ↓evSs, ↓evS, ↓evX, ↓evL, ↓evOs, ↓evBs, ↓evP, ↓evI, ↓asO_pk, ↓asO_var, ↓asO_con, ↓asO_glb, ↓asO_bin, ↓asO_neg, ↓asO_ife, ↓asO_tup, ↓asO_lst, ↓asO_idx, ↓asO_slc, ↓asO_rev, ↓asO_call, ↓asO_bi, ↓asO_join, ↓asO_pop, ↓asO_sset, ↓asO_cmp, ↓Res.bind, ↓asB, ↓asI, ↓asS, ↓asD, ↓Res.opt, ↓two, ↓resO, ↓S.get, ↓S.put, ↓S.put?, ↓asgT, ↓asgTs, ↓RX.dat, ↓obind_eq, ↓omap_eq, and_merge, or_merge, and_mergeB, or_mergeB, isiD, cmpD, lenD, binD, idxD, biD, nonD, atI_0, atI_1, atI_2, List.length_cons, List.length_nil, List.map_cons, List.map_nil, List.append_eq, List.cons_append, List.nil_append, List.getElem?_cons_zero, List.getElem?_cons_succ, List.getElem?_nil, List.mapM_cons, List.mapM_nil, Option.pure_def, Option.bind_eq_bind, id_eq, Bool.false_eq_true, List.foldl_cons, List.foldl_nil, ↓frzS, hf]
end DE
end

section
set_option Elab.async false
set_option linter.all false
set_option maxRecDepth 100000
set_option maxHeartbeats 4000000
namespace DE
open PySem L2
/-! a kernel drawn -/
def kEnv (n : Nat) (most : Int) (sm op le un : Bool) (ns ks : List Str) (lv : List Int) (ts : List D) (a b c d e : Option Slot) : Env :=
  [some (.val (.loc n)), some (.val (.int most)), some (.val (.tup [.bl sm, .bl op, .bl le, .bl un])), some (.val (.bl sm)), some (.val (.bl op)), some (.val (.bl le)), some (.val (.bl un)), some (.val (.lst (ns.map D.str))), some (.val (.lst (ks.map D.str))),
   some (.own (lv.map D.int)), some (.own ts), a, b, c, d, e, none, none, none]
theorem int_mem {ns : List Int} {r : Int} (h1 : 0 ≤ r) (h2 : r < ns.length) : ∃ z, atI (ns.map D.int) r = some (.int z) ∧ z ∈ ns := by
  obtain ⟨y, e, hy⟩ := atI_ok (xs := ns.map D.int) h1 (by rw [List.length_map]; exact h2)
  obtain ⟨z, hz, rfl⟩ := List.mem_map.mp hy
  exact ⟨z, e, hz⟩
structure Drawn (op : Bool) (ns ks : List Str) (nm : Str) (lv : Int) (x : D) : Prop where
  shape : ∃ (rm gp : Int) (cs : List D), x = .tup [.str nm, .int lv, .int rm, .int gp, .tup cs] ∧ 0 ≤ rm ∧ rm < 400 ∧ 0 ≤ gp ∧ gp ≤ 1000 ∧ (op = true → 1 ≤ gp) ∧ (cs.all fun x => isStepD x (if op = true then [] else ns) ks) = true ∧ evenD cs = true ∧ cs.length ≤ 12
theorem kernel_step {C : Ctx} {i_m i_k i_c i_t n m : Nat} {most : Int} {sm op le un : Bool} {ns ks : List Str} {lv : List Int} {ts : List D} {nm : Str} {b c d e : Option Slot} {st : Store} (hk : HK C i_k) (hc : HC C i_c) (hns : ns.length ≤ 6) (hks : ks.length ≤ 6) (hts : ts.length ≤ 6)
    (hl1 : 1 ≤ lv.length) (hl2 : lv.length ≤ 9) (hb : Bag st n (m + 14)) :
    ∃ level x b' c' d' e' st', evSs C (bo__law_kernel_0 i_m i_k i_c i_t) ⟨kEnv n most sm op le un ns ks lv ts (some (.val (.str nm))) b c d e, st⟩ = .ok .nx ⟨kEnv n most sm op le un ns ks (if un = true then lv.erase level else lv) (ts ++ [x]) (some (.val (.str nm))) b' c' d' e', st'⟩ ∧
      level ∈ lv ∧ Drawn op ns ks nm level x ∧ Nxt st st' n m := by
  obtain ⟨r1, s1, e1, a1, a2, n1⟩ := hk st n (m + 13) lv.length hb (by omega) (by omega)
  obtain ⟨level, hlev, hmem⟩ := int_mem a1 a2
  obtain ⟨cs, s2, e2, c1, c2, c3, n2⟩ := hc s1 n (m + 3) ks (if op = true then [] else ns) (if sm = true then 1 else 0) (by omega) (by cases op; exact Nat.le_trans hns (by omega); exact Nat.zero_le _) (by cases sm <;> simp) (n1.bag.le (by omega))
  obtain ⟨r3, s3, e3, g1, g2, n3⟩ := hk s2 n (m + 2) (if sm = true then 5 else 1000) (n2.bag.le (by omega)) (by split <;> omega) (by split <;> omega)
  have g3 : 1 + r3 ≤ 1000 := by split at g2 <;> omega
  have zt : ts.length < sizeLine := by rw [sizeLine_eq]; omega
  have z5 : 5 ≤ sizeLine := by rw [sizeLine_eq]; omega
  have z2 : 2 ≤ sizeLine := by rw [sizeLine_eq]; omega
  cases op with
  | true =>
    obtain ⟨r5, s5, e5, w1, w2, n5⟩ := hk s3 n (m + 1) (if sm = true then 20 else 400) n3.bag (by split <;> omega) (by split <;> omega)
    have w3 : r5 < 400 := by split at w2 <;> omega
    refine ⟨level, .tup [.str nm, .int level, .int r5, .int (1 + r3), .tup cs], some (.val (.int level)), some (.val (.lst [])), some (.val (.tup cs)), some (.val (.int (1 + r3))), s5, ?_, hmem,
      ⟨_, _, _, rfl, w1, w3, by omega, g3, fun _ => by omega, c1, c2, c3⟩, ((((n1.trans n2).trans n3).trans n5).trans (.refl (n5.bag.le (by omega))))⟩
    cases sm <;> cases un <;> simp only [if_true, Bool.false_eq_true, if_false, List.map_nil] at e2 e3 e5 <;> simp [bo__law_kernel_0, kEnv, runFn_eq, finR_rt, finR_nx, finR_ite, ↓startE, ↓evSs, ↓evS, ↓evX, ↓evL, ↓evOs, ↓evBs, ↓evP, ↓evI, ↓asO_pk, ↓asO_var, ↓asO_con, ↓asO_glb, ↓asO_bin, ↓asO_neg, ↓asO_ife, ↓asO_tup, ↓asO_lst, ↓asO_idx, ↓asO_slc, ↓asO_rev, ↓asO_call, ↓asO_bi, ↓asO_join, ↓asO_pop, ↓asO_sset, ↓asO_cmp, ↓Res.bind, ↓asB, ↓asI, ↓asS, ↓asD, ↓Res.opt, ↓two, ↓resO, ↓S.get, ↓S.put, ↓S.put?, ↓asgT, ↓asgTs, ↓RX.dat, ↓obind_eq, ↓omap_eq, and_merge, or_merge, and_mergeB, or_mergeB, isiD, cmpD, lenD, binD, idxD, biD, nonD, atI_0, atI_1, atI_2, List.length_cons, List.length_nil, List.map_cons, List.map_nil, List.append_eq, List.cons_append, List.nil_append, List.getElem?_cons_zero, List.getElem?_cons_succ, List.getElem?_nil, List.mapM_cons, List.mapM_nil, Option.pure_def, Option.bind_eq_bind, id_eq, Bool.false_eq_true, List.foldl_cons, List.foldl_nil, ↓frzS, e1, hlev, e2, e3, e5, lstSlot, zt, z5, z2, intsD_map, hmem]
  | false =>
    obtain ⟨r4, s4, e4, v1, v2, n4⟩ := hk s3 n (m + 1) 4 n3.bag (by omega) (by omega)
    obtain ⟨r5, s5, e5, w1, w2, n5⟩ := hk s4 n m (if sm = true then 20 else 400) n4.bag (by split <;> omega) (by split <;> omega)
    have w3 : r5 < 400 := by split at w2 <;> omega
    by_cases hr4 : r4 = 0
    · subst hr4
      refine ⟨level, .tup [.str nm, .int level, .int r5, .int 0, .tup cs], some (.val (.int level)), some (.val (.lst (ns.map D.str))), some (.val (.tup cs)), some (.val (.int 0)), s5, ?_, hmem,
        ⟨_, _, _, rfl, w1, w3, by omega, by omega, (fun h => by cases h), c1, c2, c3⟩, ((((n1.trans n2).trans n3).trans n4).trans n5)⟩
      cases sm <;> cases un <;> simp only [if_true, Bool.false_eq_true, if_false, List.map_nil] at e2 e3 e5 <;> simp [bo__law_kernel_0, kEnv, runFn_eq, finR_rt, finR_nx, finR_ite, ↓startE, ↓evSs, ↓evS, ↓evX, ↓evL, ↓evOs, ↓evBs, ↓evP, ↓evI, ↓asO_pk, ↓asO_var, ↓asO_con, ↓asO_glb, ↓asO_bin, ↓asO_neg, ↓asO_ife, ↓asO_tup, ↓asO_lst, ↓asO_idx, ↓asO_slc, ↓asO_rev, ↓asO_call, ↓asO_bi, ↓asO_join, ↓asO_pop, ↓asO_sset, ↓asO_cmp, ↓Res.bind, ↓asB, ↓asI, ↓asS, ↓asD, ↓Res.opt, ↓two, ↓resO, ↓S.get, ↓S.put, ↓S.put?, ↓asgT, ↓asgTs, ↓RX.dat, ↓obind_eq, ↓omap_eq, and_merge, or_merge, and_mergeB, or_mergeB, isiD, cmpD, lenD, binD, idxD, biD, nonD, atI_0, atI_1, atI_2, List.length_cons, List.length_nil, List.map_cons, List.map_nil, List.append_eq, List.cons_append, List.nil_append, List.getElem?_cons_zero, List.getElem?_cons_succ, List.getElem?_nil, List.mapM_cons, List.mapM_nil, Option.pure_def, Option.bind_eq_bind, id_eq, Bool.false_eq_true, List.foldl_cons, List.foldl_nil, ↓frzS, e1, hlev, e2, e3, e4, e5, lstSlot, zt, z5, z2, intsD_map, hmem, cmpOk_int, eqD_int]
    · refine ⟨level, .tup [.str nm, .int level, .int r5, .int (1 + r3), .tup cs], some (.val (.int level)), some (.val (.lst (ns.map D.str))), some (.val (.tup cs)), some (.val (.int (1 + r3))), s5, ?_, hmem,
        ⟨_, _, _, rfl, w1, w3, by omega, g3, (fun h => by cases h), c1, c2, c3⟩, ((((n1.trans n2).trans n3).trans n4).trans n5)⟩
      cases sm <;> cases un <;> simp only [if_true, Bool.false_eq_true, if_false, List.map_nil] at e2 e3 e5 <;> simp [bo__law_kernel_0, kEnv, runFn_eq, finR_rt, finR_nx, finR_ite, ↓startE, ↓evSs, ↓evS, ↓evX, ↓evL, ↓evOs, ↓evBs, ↓evP, ↓evI, ↓asO_pk, ↓asO_var, ↓asO_con, ↓asO_glb, ↓asO_bin, ↓asO_neg, ↓asO_ife, ↓asO_tup, ↓asO_lst, ↓asO_idx, ↓asO_slc, ↓asO_rev, ↓asO_call, ↓asO_bi, ↓asO_join, ↓asO_pop, ↓asO_sset, ↓asO_cmp, ↓Res.bind, ↓asB, ↓asI, ↓asS, ↓asD, ↓Res.opt, ↓two, ↓resO, ↓S.get, ↓S.put, ↓S.put?, ↓asgT, ↓asgTs, ↓RX.dat, ↓obind_eq, ↓omap_eq, and_merge, or_merge, and_mergeB, or_mergeB, isiD, cmpD, lenD, binD, idxD, biD, nonD, atI_0, atI_1, atI_2, List.length_cons, List.length_nil, List.map_cons, List.map_nil, List.append_eq, List.cons_append, List.nil_append, List.getElem?_cons_zero, List.getElem?_cons_succ, List.getElem?_nil, List.mapM_cons, List.mapM_nil, Option.pure_def, Option.bind_eq_bind, id_eq, Bool.false_eq_true, List.foldl_cons, List.foldl_nil, ↓frzS, e1, hlev, e2, e3, e4, e5, lstSlot, zt, z5, z2, intsD_map, hmem, cmpOk_int, eqD_int, hr4]
end DE
end

section
set_option Elab.async false
set_option linter.all false
set_option maxRecDepth 100000
set_option maxHeartbeats 4000000
namespace DE
open PySem L2
inductive DrawnL (op : Bool) (ns ks : List Str) : List Str → List Int → List D → Prop
  | nil : DrawnL op ns ks [] [] []
  | cons {z : Str} {l : Int} {x : D} {zs : List Str} {ls : List Int} {xs : List D} : Drawn op ns ks z l x → DrawnL op ns ks zs ls xs → DrawnL op ns ks (z :: zs) (l :: ls) (x :: xs)
theorem DrawnL.len {op : Bool} {ns ks : List Str} : ∀ {zs : List Str} {ls : List Int} {xs : List D}, DrawnL op ns ks zs ls xs → xs.length = zs.length ∧ ls.length = zs.length
  | _, _, _, .nil => ⟨rfl, rfl⟩
  | _, _, _, .cons _ r => by simp [r.len.1, r.len.2]
theorem DrawnL.mem {op : Bool} {ns ks : List Str} : ∀ {zs : List Str} {ls : List Int} {xs : List D}, DrawnL op ns ks zs ls xs → ∀ x ∈ xs, ∃ z l, z ∈ zs ∧ l ∈ ls ∧ Drawn op ns ks z l x
  | _, _, _, .nil, x, h => by cases h
  | _, _, _, .cons d r, x, h => by
    rcases List.mem_cons.mp h with rfl | h
    · exact ⟨_, _, by simp, by simp, d⟩
    · obtain ⟨z, l, h1, h2, h3⟩ := r.mem x h
      exact ⟨z, l, by simp [h1], by simp [h2], h3⟩
theorem kernel_loop {C : Ctx} {i_m i_k i_c i_t n m : Nat} {most : Int} {sm op le un : Bool} {ns ks : List Str} {st0 : Store} (hk : HK C i_k) (hc : HC C i_c) (hns : ns.length ≤ 6) (hks : ks.length ≤ 6) :
    ∀ (zs : List Str) (lv : List Int) (ts : List D) (a b c d e : Option Slot) (st : Store), ts.length + zs.length ≤ 6 → zs.length ≤ lv.length → lv.length ≤ 9 → Nxt st0 st n (m + 14 * zs.length) →
    ∃ ls xs lv' a' b' c' d' e' st', forL (evSs C (bo__law_kernel_0 i_m i_k i_c i_t)) (fun x s => asgT (.name 11) (.d x) s) (zs.map D.str) ⟨kEnv n most sm op le un ns ks lv ts a b c d e, st⟩ = .ok .nx ⟨kEnv n most sm op le un ns ks lv' (ts ++ xs) a' b' c' d' e', st'⟩ ∧
      DrawnL op ns ks zs ls xs ∧ (∀ l ∈ ls, l ∈ lv) ∧ (un = true → lv.Nodup → ls.Nodup) ∧ Nxt st0 st' n m
  | [], lv, ts, a, b, c, d, e, st, _, _, _, nx => ⟨[], [], lv, a, b, c, d, e, st, by simp [forL], .nil, by simp, fun _ _ => List.nodup_nil, by simpa using nx⟩
  | z :: zs, lv, ts, a, b, c, d, e, st, h1, h2, h3, nx => by
    simp only [List.length_cons] at h1 h2 nx
    obtain ⟨level, x, b1, c1, d1, e1, st1, ev, hmem, dr, nx1⟩ := kernel_step (i_m := i_m) (i_t := i_t) (m := m + 14 * zs.length) (most := most) (sm := sm) (op := op) (le := le) (un := un) (ns := ns) (ks := ks) (lv := lv) (ts := ts) (nm := z) (b := b) (c := c) (d := d) (e := e) (st := st) hk hc hns hks (by omega) (by omega) h3 (nx.bag.le (by omega))
    have lvl : (if un = true then lv.erase level else lv).length ≤ 9 ∧ zs.length ≤ (if un = true then lv.erase level else lv).length := by
      split
      · rw [List.length_erase_of_mem hmem]; omega
      · omega
    obtain ⟨ls, xs, lv', a', b', c', d', e', st', q1, q2, q3, q4, q5⟩ := kernel_loop hk hc hns hks zs (if un = true then lv.erase level else lv) (ts ++ [x]) (some (.val (.str z))) b1 c1 d1 e1 st1 (by simp; omega) lvl.2 lvl.1 (nx.trans nx1)
    refine ⟨level :: ls, x :: xs, lv', a', b', c', d', e', st', ?_, .cons dr q2, fun l hl => ?_, fun hu hn => ?_, q5⟩
    · have e1 : asgT (.name 11) (.d (.str z)) ⟨kEnv n most sm op le un ns ks lv ts a b c d e, st⟩ = some ⟨kEnv n most sm op le un ns ks lv ts (some (.val (.str z))) b c d e, st⟩ := rfl
      rw [List.map_cons]
      unfold forL
      simp only [e1, opt_some, bind_ok, ev]
      rw [q1]
      simp
    · rcases List.mem_cons.mp hl with rfl | hl
      · exact hmem
      · have := q3 l hl
        split at this
        · exact List.mem_of_mem_erase this
        · exact this
    · rw [if_pos hu] at q3 q4
      rw [List.nodup_cons]
      exact ⟨fun h => by
        have := q3 _ h
        exact (List.Nodup.mem_erase_iff hn).mp this |>.1 rfl, q4 hu (hn.erase _)⟩
theorem Drawn.taskS {op : Bool} {ns ks : List Str} {z : Str} {l : Int} {x : D} (h : Drawn op ns ks z l x) (hl : 1 ≤ l ∧ l ≤ 9) : TaskS x := by
  obtain ⟨rm, gp, cs, rfl, _, _, _, _, _, c1, _, _⟩ := h.shape
  refine ⟨z, l, rm, gp, cs, rfl, hl.1, hl.2, isPys_of fun y hy => ?_⟩
  obtain ⟨w, p, rfl, hk⟩ := isStepD_kind (List.all_eq_true.mp c1 y hy)
  rcases hk with ⟨_, i, rfl⟩ | ⟨_, u, rfl⟩ <;> rfl
structure Kern (op un : Bool) (ns : List Str) (ps : List (Str × Int)) (ls : List Int) (ts : List D) : Prop where
  names : ns.all nameS = true
  rise : risesS ns = true
  len : ns.length ≤ 6
  ne : ns ≠ []
  locks : (ps.map (·.1)).all nameS = true
  lrise : risesS (ps.map (·.1)) = true
  llen : ps.length ≤ 3
  ceil : ∀ p ∈ ps, 0 ≤ p.2 ∧ p.2 ≤ 9
  drawn : DrawnL op ns (ps.map (·.1)) ns ls ts
  lev : ∀ l ∈ ls, 1 ≤ l ∧ l ≤ 9
  un : un = true → ls.Nodup
def HKer (C : Ctx) (i : Nat) : Prop := ∀ (st : Store) (n m : Nat) (most : Int) (sm op le un : Bool), 1 ≤ most → most ≤ 6 → Bag st n (m + 300) →
  ∃ (ns : List Str) (ps : List (Str × Int)) (ls : List Int) (ts : List D) (dp : Int) (st' : Store), C.call i [.loc n, .int most, .tup [.bl sm, .bl op, .bl le, .bl un]] st = some (.tup [.tup ts, .tup (ps.map pairD), .int dp], st') ∧ Kern op un ns ps ls ts ∧ 1 ≤ dp ∧ dp ≤ 3 ∧ Nxt st st' n m
theorem pairs_of : ∀ {ks : List Str} {ds : List D}, ds.length = ks.length → (∀ j : Nat, ∀ d, ds[j]? = some d → ∃ z c, ks[j]? = some z ∧ d = pairD (z, c) ∧ 0 ≤ c ∧ c ≤ 9) → ∃ ps : List (Str × Int), ds = ps.map pairD ∧ ps.map (·.1) = ks ∧ ∀ p ∈ ps, 0 ≤ p.2 ∧ p.2 ≤ 9
  | [], [], _, _ => ⟨[], rfl, rfl, by simp⟩
  | z :: ks, d :: ds, hl, h => by
    obtain ⟨ps, e1, e2, e3⟩ := pairs_of (ks := ks) (ds := ds) (by simpa using hl) fun j d hd => h (j + 1) d (by simpa using hd)
    obtain ⟨z', c, q1, q2, q3⟩ := h 0 d rfl
    simp at q1
    subst q1
    refine ⟨(z, c) :: ps, by rw [q2, e1]; rfl, by simp [e2], fun p hp => ?_⟩
    rcases List.mem_cons.mp hp with rfl | hp
    · exact q3
    · exact e3 p hp
/-- a comprehension over texts that draws -/
theorem ceil_comp {C : Ctx} {i_m i_k i_c i_t n m : Nat} {e : Env} {st0 : Store} (hk : HK C i_k) (he0 : e[0]? = some (some (.val (.loc n)))) (he : 18 < e.length) : ∀ (ks : List Str) (acc : List D) (st : Store), acc.length + ks.length ≤ 100 → Nxt st0 st n (m + ks.length) →
    ∃ (ps : List (Str × Int)) (st' : Store), compL e (fun x s => asgT (.name 18) (.d x) s) (evBs C .nil) (fun s => asD (evX C (el__law_kernel_1 i_m i_k i_c i_t) s)) (ks.map D.str) acc st = some (acc ++ ps.map pairD, st') ∧ ps.map (·.1) = ks ∧ (∀ p ∈ ps, 0 ≤ p.2 ∧ p.2 ≤ 9) ∧ Nxt st0 st' n m
  | [], acc, st, _, nx => ⟨[], st, by simp [compL], rfl, by simp, by simpa using nx⟩
  | z :: ks, acc, st, hl, nx => by
    simp only [List.length_cons] at hl nx
    obtain ⟨r, s1, e1, a1, a2, n1⟩ := hk st n (m + ks.length) 10 (nx.bag.le (by omega)) (by omega) (by omega)
    have zl : acc.length < sizeLine := by rw [sizeLine_eq]; omega
    have z2 : 2 ≤ sizeLine := by rw [sizeLine_eq]; omega
    obtain ⟨ps, st', q1, q2, q3, q4⟩ := ceil_comp hk he0 he ks (acc ++ [pairD (z, r)]) s1 (by simp; omega) (nx.trans n1)
    refine ⟨(z, r) :: ps, st', ?_, by simp [q2], fun p hp => ?_, q4⟩
    · rw [List.map_cons]
      unfold compL
      have h0 : (e.set 18 (some (.val (.str z))))[0]? = some (some (.val (.loc n))) := by rw [List.getElem?_set_ne (by decide)]; exact he0
      have h18 : (e.set 18 (some (.val (.str z))))[18]? = some (some (.val (.str z))) := by simp [he]
      have g0 : S.get ⟨e.set 18 (some (.val (.str z))), st⟩ 0 = some (.val (.loc n)) := by simp [S.get, h0]
      have g18 : ∀ st, S.get ⟨e.set 18 (some (.val (.str z))), st⟩ 18 = some (.val (.str z)) := fun st => by simp [S.get, h18]
      have ea : asgT (.name 18) (.d (.str z)) ⟨e, st⟩ = some ⟨e.set 18 (some (.val (.str z))), st⟩ := by simp [asgT, S.put?, S.put, he]
      have ee : asD (evX C (el__law_kernel_1 i_m i_k i_c i_t) ⟨e.set 18 (some (.val (.str z))), st⟩) = .ok (pairD (z, r)) ⟨e.set 18 (some (.val (.str z))), s1⟩ := by
        simp [el__law_kernel_1, evX, evL, g0, g18, bind_ok, RX.dat, e1, z2, asD, pairD]
      rw [ea]
      dsimp only
      rw [show evBs C .nil ⟨e.set 18 (some (.val (.str z))), st⟩ = .ok true ⟨e.set 18 (some (.val (.str z))), st⟩ from rfl]
      dsimp only
      rw [ee]
      dsimp only
      rw [if_pos zl, q1]
      simp
    · rcases List.mem_cons.mp hp with rfl | hp
      · exact ⟨a1, by omega⟩
      · exact q3 p hp
end DE
end

section
set_option Elab.async false
set_option linter.all false
set_option maxRecDepth 100000
set_option maxHeartbeats 4000000
namespace DE
open PySem L2
theorem kernel_ok {C : Ctx} {i_m i_k i_c i_t n m : Nat} {most : Int} {sm op le un : Bool} {st : Store} (hm : HMs C i_m) (hk : HK C i_k) (hc : HC C i_c) (ht : HTo C i_t) (m1 : 1 ≤ most) (m6 : most ≤ 6) (hb : Bag st n (m + 300)) :
    ∃ (ns : List Str) (ps : List (Str × Int)) (ls : List Int) (ts : List D) (dp : Int) (st' : Store), runFn C (fn__law_kernel i_m i_k i_c i_t) [.loc n, .int most, .tup [.bl sm, .bl op, .bl le, .bl un]] st = some (.tup [.tup ts, .tup (ps.map pairD), .int dp], st') ∧ Kern op un ns ps ls ts ∧ 1 ≤ dp ∧ dp ≤ 3 ∧ Nxt st st' n m := by
  obtain ⟨r1, s1, e1, a1, a2, n1⟩ := hk st n (m + 236) most (hb.le (by omega)) m1 (by omega)
  have q1 : ((1 + r1).toNat : Int) = 1 + r1 := by omega
  obtain ⟨ns, s2, e2, ok1, ri1, le1, ne1, n2⟩ := hm s1 n (m + 164) (1 + r1).toNat (by omega) n1.bag
  rw [q1] at e2
  obtain ⟨r3, s3, e3, a3, a4, n3⟩ := hk s2 n (m + 163) 4 n2.bag (by omega) (by omega)
  obtain ⟨y, ey, hy⟩ := atI_ok (xs := [.int 0, .int 1, .int 2, .int 3]) a3 a4
  obtain ⟨q, rfl, q3⟩ : ∃ q : Nat, y = .int q ∧ q ≤ 3 := by
    simp only [List.mem_cons, List.not_mem_nil, or_false] at hy
    rcases hy with rfl | rfl | rfl | rfl
    · exact ⟨0, rfl, by omega⟩
    · exact ⟨1, rfl, by omega⟩
    · exact ⟨2, rfl, by omega⟩
    · exact ⟨3, rfl, by omega⟩
  obtain ⟨ks, s4, e4, ok2, ri2, le2, _, n4⟩ := hm s3 n (m + 91) q (by omega) n3.bag
  obtain ⟨ls, ts, lv', a, b, c, d, e, s5, lp, dr, lm, ln, n5⟩ := kernel_loop (i_m := i_m) (i_t := i_t) (m := m + 7) (most := most) (sm := sm) (op := op) (le := le) (un := un) (ns := ns) (ks := ks) (st0 := s4) hk hc (by omega) (by omega) ns [1, 2, 3, 4, 5, 6, 7, 8, 9] [] none none none none none s4 (by simp; omega) (by simp; omega) (by simp) (.refl (n4.bag.le (by omega)))
  have lev : ∀ l ∈ ls, 1 ≤ l ∧ l ≤ 9 := fun l hl => by
    have := lm l hl
    simp at this
    omega
  have hts : ∀ x ∈ ts, TaskS x := fun x hx => by
    obtain ⟨z, l, _, h2, h3⟩ := dr.mem x hx
    exact h3.taskS (lev l h2)
  have tl : ts.length ≤ 100 := by rw [dr.len.1]; omega
  obtain ⟨ps, et, p1, p2⟩ := ht ts ks s5 hts tl (by omega)
  have hf : evS C (fo__law_kernel_0 i_m i_k i_c i_t) ⟨kEnv n most sm op le un ns ks [1, 2, 3, 4, 5, 6, 7, 8, 9] [] none none none none none, s4⟩ = .ok .nx ⟨kEnv n most sm op le un ns ks lv' ts a b c d e, s5⟩ := by
    unfold fo__law_kernel_0
    exact (ev_for (by simp [runFn_eq, finR_rt, finR_nx, finR_ite, ↓startE, ↓evSs, ↓evS, ↓evX, ↓evL, ↓evOs, ↓evBs, ↓evP, ↓evI, ↓asO_pk, ↓asO_var, ↓asO_con, ↓asO_glb, ↓asO_bin, ↓asO_neg, ↓asO_ife, ↓asO_tup, ↓asO_lst, ↓asO_idx, ↓asO_slc, ↓asO_rev, ↓asO_call, ↓asO_bi, ↓asO_join, ↓asO_pop, ↓asO_sset, ↓asO_cmp, ↓Res.bind, ↓asB, ↓asI, ↓asS, ↓asD, ↓Res.opt, ↓two, ↓resO, ↓S.get, ↓S.put, ↓S.put?, ↓asgT, ↓asgTs, ↓RX.dat, ↓obind_eq, ↓omap_eq, and_merge, or_merge, and_mergeB, or_mergeB, isiD, cmpD, lenD, binD, idxD, biD, nonD, atI_0, atI_1, atI_2, List.length_cons, List.length_nil, List.map_cons, List.map_nil, List.append_eq, List.cons_append, List.nil_append, List.getElem?_cons_zero, List.getElem?_cons_succ, List.getElem?_nil, List.mapM_cons, List.mapM_nil, Option.pure_def, Option.bind_eq_bind, id_eq, Bool.false_eq_true, List.foldl_cons, List.foldl_nil, ↓frzS, kEnv, seqD])).trans lp
  have z9 : 9 ≤ sizeLine := by rw [sizeLine_eq]; omega
  have z4 : 4 ≤ sizeLine := by rw [sizeLine_eq]; omega
  have z3 : 3 ≤ sizeLine := by rw [sizeLine_eq]; omega
  have mk : ∀ (ps : List (Str × Int)), ps.map (·.1) = ks → (∀ p ∈ ps, 0 ≤ p.2 ∧ p.2 ≤ 9) → Kern op un ns ps ls ts := fun ps p1 p2 =>
    ⟨ok1, ri1, by omega, ne1 (by omega), by rw [p1]; exact ok2, by rw [p1]; exact ri2, by have := congrArg List.length p1; simp at this; omega, p2, by rw [p1]; exact dr, lev, fun h => ln h (by decide)⟩
  cases le with
  | true =>
    obtain ⟨r6, s6, e6, a5, a6, n6⟩ := hk s5 n m 3 (n5.bag.le (by omega)) (by omega) (by omega)
    refine ⟨ns, ps, ls, ts, 1 + r6, s6, ?_, mk ps p1 p2, by omega, by omega, ((((n1.trans n2).trans n3).trans n4).trans n5).trans n6⟩
    simp only [kEnv, List.map_cons, List.map_nil] at hf
    simp [fn__law_kernel, runFn_eq, finR_rt, finR_nx, finR_ite, ↓startE, ↓evSs, ↓evS, ↓evX, ↓evL, ↓evOs, ↓evBs, ↓evP, ↓evI, ↓asO_pk, ↓asO_var, ↓asO_con, ↓asO_glb, ↓asO_bin, ↓asO_neg, ↓asO_ife, ↓asO_tup, ↓asO_lst, ↓asO_idx, ↓asO_slc, ↓asO_rev, ↓asO_call, ↓asO_bi, ↓asO_join, ↓asO_pop, ↓asO_sset, ↓asO_cmp, ↓Res.bind, ↓asB, ↓asI, ↓asS, ↓asD, ↓Res.opt, ↓two, ↓resO, ↓S.get, ↓S.put, ↓S.put?, ↓asgT, ↓asgTs, ↓RX.dat, ↓obind_eq, ↓omap_eq, and_merge, or_merge, and_mergeB, or_mergeB, isiD, cmpD, lenD, binD, idxD, biD, nonD, atI_0, atI_1, atI_2, List.length_cons, List.length_nil, List.map_cons, List.map_nil, List.append_eq, List.cons_append, List.nil_append, List.getElem?_cons_zero, List.getElem?_cons_succ, List.getElem?_nil, List.mapM_cons, List.mapM_nil, Option.pure_def, Option.bind_eq_bind, id_eq, Bool.false_eq_true, List.foldl_cons, List.foldl_nil, ↓frzS, e1, e2, e3, ey, e4, hf, et, e6, z9, z4, z3]
  | false =>
    obtain ⟨ps2, s6, hcl, p3, p4, n6⟩ := ceil_comp (C := C) (i_m := i_m) (i_k := i_k) (i_c := i_c) (i_t := i_t) (n := n) (m := m + 1) (e := compEnv [17, 18] (((kEnv n most sm op false un ns ks lv' ts a b c d e).set 10 (some (.val (.lst ts)))).set 16 (some (.val (.tup (ps.map pairD)))))) (st0 := s5) hk rfl (by simp [kEnv, compEnv, wipeE]) ks [] s5 (by simp; omega) (.refl (n5.bag.le (by omega)))
    have hcx : evX C (ce__law_kernel_1 i_m i_k i_c i_t) ⟨((kEnv n most sm op false un ns ks lv' ts a b c d e).set 10 (some (.val (.lst ts)))).set 16 (some (.val (.tup (ps.map pairD)))), s5⟩ = .ok (.fr (ps2.map pairD)) ⟨((kEnv n most sm op false un ns ks lv' ts a b c d e).set 10 (some (.val (.lst ts)))).set 16 (some (.val (.tup (ps.map pairD)))), s6⟩ := by
      unfold ce__law_kernel_1
      refine ev_comp2 (s1 := ⟨((kEnv n most sm op false un ns ks lv' ts a b c d e).set 10 (some (.val (.lst ts)))).set 16 (some (.val (.tup (ps.map pairD)))), s5⟩) (xs := ks.map D.str) ?_ ?_
      · simp [runFn_eq, finR_rt, finR_nx, finR_ite, ↓startE, ↓evSs, ↓evS, ↓evX, ↓evL, ↓evOs, ↓evBs, ↓evP, ↓evI, ↓asO_pk, ↓asO_var, ↓asO_con, ↓asO_glb, ↓asO_bin, ↓asO_neg, ↓asO_ife, ↓asO_tup, ↓asO_lst, ↓asO_idx, ↓asO_slc, ↓asO_rev, ↓asO_call, ↓asO_bi, ↓asO_join, ↓asO_pop, ↓asO_sset, ↓asO_cmp, ↓Res.bind, ↓asB, ↓asI, ↓asS, ↓asD, ↓Res.opt, ↓two, ↓resO, ↓S.get, ↓S.put, ↓S.put?, ↓asgT, ↓asgTs, ↓RX.dat, ↓obind_eq, ↓omap_eq, and_merge, or_merge, and_mergeB, or_mergeB, isiD, cmpD, lenD, binD, idxD, biD, nonD, atI_0, atI_1, atI_2, List.length_cons, List.length_nil, List.map_cons, List.map_nil, List.append_eq, List.cons_append, List.nil_append, List.getElem?_cons_zero, List.getElem?_cons_succ, List.getElem?_nil, List.mapM_cons, List.mapM_nil, Option.pure_def, Option.bind_eq_bind, id_eq, Bool.false_eq_true, List.foldl_cons, List.foldl_nil, ↓frzS, kEnv, seqD]
      · simpa using hcl
    have ha := as_np (e := ce__law_kernel_1 i_m i_k i_c i_t) rfl hcx
    obtain ⟨r7, s7, e7, a7, a8, n7⟩ := hk s6 n m 3 n6.bag (by omega) (by omega)
    refine ⟨ns, ps2, ls, ts, 1 + r7, s7, ?_, mk ps2 p3 p4, by omega, by omega, (((((n1.trans n2).trans n3).trans n4).trans n5).trans n6).trans n7⟩
    simp only [kEnv, List.map_cons, List.map_nil] at hf
    simp only [kEnv, RX.dat, List.set_cons_succ, List.set_cons_zero] at ha
    simp [fn__law_kernel, runFn_eq, finR_rt, finR_nx, finR_ite, ↓startE, ↓evSs, ↓evS, ↓evX, ↓evL, ↓evOs, ↓evBs, ↓evP, ↓evI, ↓asO_pk, ↓asO_var, ↓asO_con, ↓asO_glb, ↓asO_bin, ↓asO_neg, ↓asO_ife, ↓asO_tup, ↓asO_lst, ↓asO_idx, ↓asO_slc, ↓asO_rev, ↓asO_call, ↓asO_bi, ↓asO_join, ↓asO_pop, ↓asO_sset, ↓asO_cmp, ↓Res.bind, ↓asB, ↓asI, ↓asS, ↓asD, ↓Res.opt, ↓two, ↓resO, ↓S.get, ↓S.put, ↓S.put?, ↓asgT, ↓asgTs, ↓RX.dat, ↓obind_eq, ↓omap_eq, and_merge, or_merge, and_mergeB, or_mergeB, isiD, cmpD, lenD, binD, idxD, biD, nonD, atI_0, atI_1, atI_2, List.length_cons, List.length_nil, List.map_cons, List.map_nil, List.append_eq, List.cons_append, List.nil_append, List.getElem?_cons_zero, List.getElem?_cons_succ, List.getElem?_nil, List.mapM_cons, List.mapM_nil, Option.pure_def, Option.bind_eq_bind, id_eq, Bool.false_eq_true, List.foldl_cons, List.foldl_nil, ↓frzS, e1, e2, e3, ey, e4, hf, et, ha, e7, z9, z4, z3]
end DE
end

section
set_option Elab.async false
set_option linter.all false
set_option maxRecDepth 100000
set_option maxHeartbeats 4000000
namespace DE
open PySem L2
/-! one thing exchanged -/
def isTupD (x : D) : Bool := match x with
  | .tup _ => true
  | _ => false
def okD (N : Nat) : Nat → D → Bool
  | 0, x => fitD x && !isTupD x
  | d + 1, x => match x with
    | .tup xs => decide (xs.length ≤ N) && xs.all (okD N d)
    | x => fitD x
theorem okD_fit {N : Nat} : ∀ {d : Nat} {x : D}, okD N d x = true → fitD x = true
  | 0, x, h => by simp only [okD, Bool.and_eq_true] at h; exact h.1
  | d + 1, x, h => by
    unfold okD at h
    split at h
    · simp only [Bool.and_eq_true, List.all_eq_true] at h
      simp only [fitD]
      exact fits_of fun x hx => okD_fit (h.2 x hx)
    · exact h
theorem okD_leaf {N d : Nat} {x : D} (h : fitD x = true) (ht : isTupD x = false) : okD N d x = true := by
  cases d with
  | zero => simp [okD, h, ht]
  | succ d => cases x <;> simp_all [okD, isTupD]
theorem okD_mono {N N' : Nat} (hN : N ≤ N') : ∀ {d d' : Nat} {x : D}, d ≤ d' → okD N d x = true → okD N' d' x = true
  | 0, d', x, _, h => by
    simp only [okD, Bool.and_eq_true, Bool.not_eq_true'] at h
    exact okD_leaf h.1 h.2
  | d + 1, 0, x, hd, h => absurd hd (by omega)
  | d + 1, d' + 1, x, hd, h => by
    cases x with
    | tup xs =>
      simp only [okD, Bool.and_eq_true, List.all_eq_true, decide_eq_true_eq] at h ⊢
      exact ⟨by omega, fun x hx => okD_mono hN (by omega) (h.2 x hx)⟩
    | _ => simpa only [okD] using h
theorem okD_tup {N d : Nat} {xs : List D} : okD N (d + 1) (.tup xs) = true ↔ xs.length ≤ N ∧ ∀ x ∈ xs, okD N d x = true := by
  simp [okD]
theorem cut_lo {xs : List D} {r : Int} (h1 : 0 ≤ r) (h2 : r ≤ xs.length) : cutD xs none (some r) = xs.take r.toNat := by
  obtain ⟨k, rfl⟩ : ∃ k : Nat, r = k := ⟨r.toNat, by omega⟩
  unfold cutD
  rw [HT.sIx_none, HT.sIx_nat]
  have : min k xs.length = k := by omega
  simp [this]
theorem cut_hi {xs : List D} {r : Int} (h1 : 0 ≤ r) (h2 : r ≤ xs.length) : cutD xs (some r) none = xs.drop r.toNat := by
  obtain ⟨k, rfl⟩ : ∃ k : Nat, r = k := ⟨r.toNat, by omega⟩
  unfold cutD
  rw [HT.sIx_none, HT.sIx_nat]
  have : min k xs.length = k := by omega
  rw [this, List.take_of_length_le (by simp)]
  simp
theorem cut_sub {xs : List D} {lo hi : Option Int} : (cutD xs lo hi).length ≤ xs.length ∧ ∀ x ∈ cutD xs lo hi, x ∈ xs := by
  unfold cutD
  refine ⟨?_, fun x hx => List.mem_of_mem_drop (List.mem_of_mem_take hx)⟩
  simp only [List.length_take, List.length_drop]
  omega
def HChd (C : Ctx) (i d : Nat) : Prop := ∀ (st : Store) (n m N : Nat) (x : D), 2 ≤ N → N ≤ 100 → okD N d x = true → Bag st n (m + 3 * (d + 1)) → ∃ (y : D) (st' : Store), C.call i [.loc n, x] st = some (y, st') ∧ okD (N + 1) (d + 1) y = true ∧ Nxt st st' n m
theorem menu {xs : List D} {r : Int} (P : D → Prop) (h1 : 0 ≤ r) (h2 : r < xs.length) (h : ∀ x ∈ xs, P x) : ∃ y, atI xs r = some y ∧ P y := by
  obtain ⟨y, e, hy⟩ := atI_ok h1 h2
  exact ⟨y, e, h y hy⟩
theorem changed_leaf {C : Ctx} {i_k i_c n m N d : Nat} {x : D} {st : Store} (hk : HK C i_k) (hx : isTupD x = false) (hf : fitD x = true) (hb : Bag st n (m + 1)) :
    ∃ (y : D) (st' : Store), runFn C (fn__law_changed i_k i_c) [.loc n, x] st = some (y, st') ∧ okD N d y = true ∧ Nxt st st' n m := by
  have z9 : 14 ≤ sizeLine := by rw [sizeLine_eq]; omega
  have z8 : 12 ≤ sizeLine := by rw [sizeLine_eq]; omega
  cases x with
  | str z =>
    obtain ⟨r, s1, e1, a1, a2, n1⟩ := hk st n m 12 hb (by omega) (by omega)
    obtain ⟨y, ey, hy⟩ := menu (xs := [.str "work", .str "take", .str "free", .str "grow", .str "shrink", .str "raise", .str "a", .str "A", .str "", .str "abcdefghi", .non, .int 3]) (fun y => okD N d y = true) a1 a2 (by
      intro y hy
      have hl : ∀ z : Str, z.length ≤ 20 → z.length ≤ sizeLine := fun z h => by rw [sizeLine_eq]; omega
      simp only [List.mem_cons, List.not_mem_nil, or_false] at hy
      rcases hy with rfl | rfl | rfl | rfl | rfl | rfl | rfl | rfl | rfl | rfl | rfl | rfl <;> refine okD_leaf ?_ rfl <;> first | rfl | exact decide_eq_true (hl _ (by decide +kernel)))
    refine ⟨y, s1, ?_, hy, n1⟩
    simp [fn__law_changed, runFn_eq, finR_rt, finR_nx, finR_ite, ↓startE, ↓evSs, ↓evS, ↓evX, ↓evL, ↓evOs, ↓evBs, ↓evP, ↓evI, ↓asO_pk, ↓asO_var, ↓asO_con, ↓asO_glb, ↓asO_bin, ↓asO_neg, ↓asO_ife, ↓asO_tup, ↓asO_lst, ↓asO_idx, ↓asO_slc, ↓asO_rev, ↓asO_call, ↓asO_bi, ↓asO_join, ↓asO_pop, ↓asO_sset, ↓asO_cmp, ↓Res.bind, ↓asB, ↓asI, ↓asS, ↓asD, ↓Res.opt, ↓two, ↓resO, ↓S.get, ↓S.put, ↓S.put?, ↓asgT, ↓asgTs, ↓RX.dat, ↓obind_eq, ↓omap_eq, and_merge, or_merge, and_mergeB, or_mergeB, isiD, cmpD, lenD, binD, idxD, biD, nonD, atI_0, atI_1, atI_2, List.length_cons, List.length_nil, List.map_cons, List.map_nil, List.append_eq, List.cons_append, List.nil_append, List.getElem?_cons_zero, List.getElem?_cons_succ, List.getElem?_nil, List.mapM_cons, List.mapM_nil, Option.pure_def, Option.bind_eq_bind, id_eq, Bool.false_eq_true, List.foldl_cons, List.foldl_nil, ↓frzS, e1, ey, z8]
  | tup xs => cases hx
  | _ =>
    first
    | (cases hf; done)
    | (obtain ⟨r, s1, e1, a1, a2, n1⟩ := hk st n m 14 hb (by omega) (by omega)
       obtain ⟨y, ey, hy⟩ := menu (xs := [.int 0, .bl true, .non, .int 1, .int 10, .int 9, .int 1000, .int 1001, .int 100, .int 101, .int (-1), .int 4, .int 3, .str "a"]) (fun y => okD N d y = true) a1 a2 (by
         intro y hy
         simp only [List.mem_cons, List.not_mem_nil, or_false] at hy
         rcases hy with rfl | rfl | rfl | rfl | rfl | rfl | rfl | rfl | rfl | rfl | rfl | rfl | rfl | rfl <;> refine okD_leaf ?_ rfl <;> first | rfl | exact decide_eq_true (by rw [sizeLine_eq]; decide +kernel))
       refine ⟨y, s1, ?_, hy, n1⟩
       simp [fn__law_changed, runFn_eq, finR_rt, finR_nx, finR_ite, ↓startE, ↓evSs, ↓evS, ↓evX, ↓evL, ↓evOs, ↓evBs, ↓evP, ↓evI, ↓asO_pk, ↓asO_var, ↓asO_con, ↓asO_glb, ↓asO_bin, ↓asO_neg, ↓asO_ife, ↓asO_tup, ↓asO_lst, ↓asO_idx, ↓asO_slc, ↓asO_rev, ↓asO_call, ↓asO_bi, ↓asO_join, ↓asO_pop, ↓asO_sset, ↓asO_cmp, ↓Res.bind, ↓asB, ↓asI, ↓asS, ↓asD, ↓Res.opt, ↓two, ↓resO, ↓S.get, ↓S.put, ↓S.put?, ↓asgT, ↓asgTs, ↓RX.dat, ↓obind_eq, ↓omap_eq, and_merge, or_merge, and_mergeB, or_mergeB, isiD, cmpD, lenD, binD, idxD, biD, nonD, atI_0, atI_1, atI_2, List.length_cons, List.length_nil, List.map_cons, List.map_nil, List.append_eq, List.cons_append, List.nil_append, List.getElem?_cons_zero, List.getElem?_cons_succ, List.getElem?_nil, List.mapM_cons, List.mapM_nil, Option.pure_def, Option.bind_eq_bind, id_eq, Bool.false_eq_true, List.foldl_cons, List.foldl_nil, ↓frzS, e1, ey, z9])
theorem changed_tup {C : Ctx} {i_k i_c n m N d : Nat} {xs : List D} {st : Store} (hk : HK C i_k) (hc : HChd C i_c d) (hN : 2 ≤ N) (hN2 : N ≤ 100) (hx : okD N (d + 1) (.tup xs) = true) (hb : Bag st n (m + 3 * (d + 2))) :
    ∃ (y : D) (st' : Store), runFn C (fn__law_changed i_k i_c) [.loc n, .tup xs] st = some (y, st') ∧ okD (N + 1) (d + 2) y = true ∧ Nxt st st' n m := by
  obtain ⟨xl, xk⟩ := okD_tup.mp hx
  have z9 : 9 ≤ sizeLine := by rw [sizeLine_eq]; omega
  have z8 : 8 ≤ sizeLine := by rw [sizeLine_eq]; omega
  have z2 : 2 ≤ sizeLine := by rw [sizeLine_eq]; omega
  have z1 : 1 ≤ sizeLine := by rw [sizeLine_eq]; omega
  have z0 : xs.length + 1 ≤ sizeLine := by rw [sizeLine_eq]; omega
  have xk' : ∀ x ∈ xs, okD (N + 1) (d + 1) x = true := fun x h => okD_mono (by omega) (by omega) (xk x h)
  have py : isPys xs = true := isPys_of fun x h => fit_py (okD_fit (xk x h))
  have k0 := cmpOk_tup0 py
  have c1 := cut_sub (xs := xs) (lo := none) (hi := some 1)
  have c2 := cut_sub (xs := xs) (lo := some 1) (hi := none)
  have c3 := cut_sub (xs := xs) (lo := none) (hi := some (-1))
  have c1l : (cutD xs none (some 1)).length ≤ 1 := by unfold cutD; simp only [List.length_take]; rw [show HT.sIx xs.length xs.length (some 1) = min 1 xs.length from HT.sIx_nat _ _ 1]; omega
  have z3 : xs.length + (cutD xs none (some 1)).length ≤ sizeLine := by omega
  have other : ∀ {s0 : Store} {m' : Nat}, Bag s0 n (m' + 1) → ∃ (y : D) (st' : Store) (r : Int), C.call i_k [.loc n, .int 9] s0 = some (.int r, st') ∧
      atI [.lst xs, .tup (xs ++ cutD xs none (some 1)), .tup (cutD xs (some 1) none), .non, .tup [.tup xs], .tup (xs ++ [.int 0]), .tup (cutD xs none (some (-1))), .tup xs.reverse, .tup (xs ++ [.tup [.str "work", .int 1]])] r = some y ∧ okD (N + 1) (d + 2) y = true ∧ Nxt s0 st' n m' := by
    intro s0 m' hb
    obtain ⟨r, s1, e1, a1, a2, n1⟩ := hk s0 n m' 9 hb (by omega) (by omega)
    obtain ⟨y, ey, hy⟩ := menu (xs := [.lst xs, .tup (xs ++ cutD xs none (some 1)), .tup (cutD xs (some 1) none), .non, .tup [.tup xs], .tup (xs ++ [.int 0]), .tup (cutD xs none (some (-1))), .tup xs.reverse, .tup (xs ++ [.tup [.str "work", .int 1]])]) (fun y => okD (N + 1) (d + 2) y = true) a1 a2 (by
      intro y hy
      simp only [List.mem_cons, List.not_mem_nil, or_false] at hy
      rcases hy with rfl | rfl | rfl | rfl | rfl | rfl | rfl | rfl | rfl
      · exact okD_leaf (by simp only [fitD]; exact fits_of fun x hx => okD_fit (xk x hx)) rfl
      · refine okD_tup.mpr ⟨by simp only [List.length_append, List.length_cons, List.length_nil, List.length_reverse]; omega, fun x hx => ?_⟩
        rcases List.mem_append.mp hx with hx | hx
        · exact xk' x hx
        · exact xk' x (c1.2 x hx)
      · exact okD_tup.mpr ⟨by omega, fun x hx => xk' x (c2.2 x hx)⟩
      · exact okD_leaf rfl rfl
      · refine okD_tup.mpr ⟨by simp only [List.length_append, List.length_cons, List.length_nil, List.length_reverse]; omega, fun x hx => ?_⟩
        simp at hx
        subst hx
        exact okD_mono (by omega) (by omega) hx
      · refine okD_tup.mpr ⟨by simp only [List.length_append, List.length_cons, List.length_nil, List.length_reverse]; omega, fun x hx => ?_⟩
        rcases List.mem_append.mp hx with hx | hx
        · exact xk' x hx
        · simp at hx; subst hx; exact okD_leaf rfl rfl
      · exact okD_tup.mpr ⟨by omega, fun x hx => xk' x (c3.2 x hx)⟩
      · exact okD_tup.mpr ⟨by simp only [List.length_append, List.length_cons, List.length_nil, List.length_reverse]; omega, fun x hx => xk' x (by simpa using hx)⟩
      · refine okD_tup.mpr ⟨by simp only [List.length_append, List.length_cons, List.length_nil, List.length_reverse]; omega, fun x hx => ?_⟩
        rcases List.mem_append.mp hx with hx | hx
        · exact xk' x hx
        · simp at hx; subst hx
          refine okD_tup.mpr ⟨by simp only [List.length_append, List.length_cons, List.length_nil, List.length_reverse]; omega, fun x hx => ?_⟩
          simp at hx
          rcases hx with rfl | rfl
          · exact okD_leaf (by simp only [fitD]; exact decide_eq_true (by rw [sizeLine_eq]; decide +kernel)) rfl
          · exact okD_leaf rfl rfl)
    exact ⟨y, s1, r, e1, ey, hy, n1⟩
  cases hxs : xs with
  | nil =>
    obtain ⟨y, s1, r, e1, ey, hy, n1⟩ := other (s0 := st) (m' := m) (hb.le (by omega))
    subst hxs
    refine ⟨y, s1, ?_, hy, n1⟩
    have cn : ∀ lo hi, cutD [] lo hi = [] := fun lo hi => by simp [cutD]
    simp only [List.nil_append, List.reverse_nil, cn] at ey k0
    simp [fn__law_changed, runFn_eq, finR_rt, finR_nx, finR_ite, ↓startE, ↓evSs, ↓evS, ↓evX, ↓evL, ↓evOs, ↓evBs, ↓evP, ↓evI, ↓asO_pk, ↓asO_var, ↓asO_con, ↓asO_glb, ↓asO_bin, ↓asO_neg, ↓asO_ife, ↓asO_tup, ↓asO_lst, ↓asO_idx, ↓asO_slc, ↓asO_rev, ↓asO_call, ↓asO_bi, ↓asO_join, ↓asO_pop, ↓asO_sset, ↓asO_cmp, ↓Res.bind, ↓asB, ↓asI, ↓asS, ↓asD, ↓Res.opt, ↓two, ↓resO, ↓S.get, ↓S.put, ↓S.put?, ↓asgT, ↓asgTs, ↓RX.dat, ↓obind_eq, ↓omap_eq, and_merge, or_merge, and_mergeB, or_mergeB, isiD, cmpD, lenD, binD, idxD, biD, nonD, atI_0, atI_1, atI_2, List.length_cons, List.length_nil, List.map_cons, List.map_nil, List.append_eq, List.cons_append, List.nil_append, List.getElem?_cons_zero, List.getElem?_cons_succ, List.getElem?_nil, List.mapM_cons, List.mapM_nil, Option.pure_def, Option.bind_eq_bind, id_eq, Bool.false_eq_true, List.foldl_cons, List.foldl_nil, ↓frzS, k0, eqD_tup0, slcD, revD, e1, ey, z9, z8, z2, z1, cn]
  | cons x0 xr =>
    rw [← hxs]
    have hne : xs.isEmpty = false := by rw [hxs]; rfl
    have hl1 : 1 ≤ xs.length := by rw [hxs]; simp
    obtain ⟨r1, s1, e1, a1, a2, n1⟩ := hk st n (m + 3 * (d + 1) + 2) 7 (hb.le (by omega)) (by omega) (by omega)
    by_cases h : 0 < r1
    · obtain ⟨r2, s2, e2, b1, b2, n2⟩ := hk s1 n (m + 3 * (d + 1) + 1) xs.length (n1.bag.le (by omega)) (by omega) (by omega)
      obtain ⟨x, ex, hx'⟩ := atI_ok b1 b2
      obtain ⟨y, s3, e3, hy, n3⟩ := hc s2 n m N x hN hN2 (xk x hx') (n2.bag.le (by omega))
      have t1 := cut_lo (xs := xs) (r := r2) b1 (by omega)
      have t2 := cut_hi (xs := xs) (r := r2 + 1) (by omega) (by omega)
      have lt : (xs.take r2.toNat).length + 1 + (xs.drop (r2 + 1).toNat).length ≤ xs.length := by simp; omega
      have z5 : (xs.take r2.toNat).length + 1 ≤ sizeLine := by omega
      have z6 : (xs.take r2.toNat).length + 1 + (xs.drop (r2 + 1).toNat).length ≤ sizeLine := by omega
      refine ⟨.tup (xs.take r2.toNat ++ [y] ++ xs.drop (r2 + 1).toNat), s3, ?_, okD_tup.mpr ⟨by simp only [List.length_append, List.length_singleton]; omega, fun z hz => ?_⟩, (n1.trans n2).trans n3⟩
      · generalize xs.take r2.toNat = A at *
        generalize xs.drop (r2 + 1).toNat = B at *
        simp [fn__law_changed, runFn_eq, finR_rt, finR_nx, finR_ite, ↓startE, ↓evSs, ↓evS, ↓evX, ↓evL, ↓evOs, ↓evBs, ↓evP, ↓evI, ↓asO_pk, ↓asO_var, ↓asO_con, ↓asO_glb, ↓asO_bin, ↓asO_neg, ↓asO_ife, ↓asO_tup, ↓asO_lst, ↓asO_idx, ↓asO_slc, ↓asO_rev, ↓asO_call, ↓asO_bi, ↓asO_join, ↓asO_pop, ↓asO_sset, ↓asO_cmp, ↓Res.bind, ↓asB, ↓asI, ↓asS, ↓asD, ↓Res.opt, ↓two, ↓resO, ↓S.get, ↓S.put, ↓S.put?, ↓asgT, ↓asgTs, ↓RX.dat, ↓obind_eq, ↓omap_eq, and_merge, or_merge, and_mergeB, or_mergeB, isiD, cmpD, lenD, binD, idxD, biD, nonD, atI_0, atI_1, atI_2, List.length_cons, List.length_nil, List.map_cons, List.map_nil, List.append_eq, List.cons_append, List.nil_append, List.getElem?_cons_zero, List.getElem?_cons_succ, List.getElem?_nil, List.mapM_cons, List.mapM_nil, Option.pure_def, Option.bind_eq_bind, id_eq, Bool.false_eq_true, List.foldl_cons, List.foldl_nil, ↓frzS, k0, eqD_tup0, hne, e1, h, e2, ex, e3, slcD, t1, t2, z1, z5, z6]
      · rcases List.mem_append.mp hz with hz | hz
        · rcases List.mem_append.mp hz with hz | hz
          · exact xk' z (List.mem_of_mem_take hz)
          · simp at hz; subst hz; exact hy
        · exact xk' z (List.mem_of_mem_drop hz)
    · obtain ⟨y, s2, r, e2, ey, hy, n2⟩ := other (s0 := s1) (m' := m) (n1.bag.le (by omega))
      refine ⟨y, s2, ?_, hy, n1.trans n2⟩
      simp [fn__law_changed, runFn_eq, finR_rt, finR_nx, finR_ite, ↓startE, ↓evSs, ↓evS, ↓evX, ↓evL, ↓evOs, ↓evBs, ↓evP, ↓evI, ↓asO_pk, ↓asO_var, ↓asO_con, ↓asO_glb, ↓asO_bin, ↓asO_neg, ↓asO_ife, ↓asO_tup, ↓asO_lst, ↓asO_idx, ↓asO_slc, ↓asO_rev, ↓asO_call, ↓asO_bi, ↓asO_join, ↓asO_pop, ↓asO_sset, ↓asO_cmp, ↓Res.bind, ↓asB, ↓asI, ↓asS, ↓asD, ↓Res.opt, ↓two, ↓resO, ↓S.get, ↓S.put, ↓S.put?, ↓asgT, ↓asgTs, ↓RX.dat, ↓obind_eq, ↓omap_eq, and_merge, or_merge, and_mergeB, or_mergeB, isiD, cmpD, lenD, binD, idxD, biD, nonD, atI_0, atI_1, atI_2, List.length_cons, List.length_nil, List.map_cons, List.map_nil, List.append_eq, List.cons_append, List.nil_append, List.getElem?_cons_zero, List.getElem?_cons_succ, List.getElem?_nil, List.mapM_cons, List.mapM_nil, Option.pure_def, Option.bind_eq_bind, id_eq, Bool.false_eq_true, List.foldl_cons, List.foldl_nil, ↓frzS, k0, eqD_tup0, hne, e1, h, slcD, revD, e2, ey, z9, z8, z2, z1, z3, z0]
theorem changed_ok {C : Ctx} {i_k i_c d : Nat} (hk : HK C i_k) (hc : ∀ d', d = d' + 1 → HChd C i_c d') {st : Store} {n m N : Nat} {x : D} (hN : 2 ≤ N) (hN2 : N ≤ 100) (hx : okD N d x = true) (hb : Bag st n (m + 3 * (d + 1))) :
    ∃ (y : D) (st' : Store), runFn C (fn__law_changed i_k i_c) [.loc n, x] st = some (y, st') ∧ okD (N + 1) (d + 1) y = true ∧ Nxt st st' n m := by
  cases ht : isTupD x with
  | false => exact changed_leaf hk ht (okD_fit hx) (hb.le (by omega)) |>.imp fun y ⟨s, a, b, c⟩ => ⟨s, a, b, c.trans (.refl (c.bag))⟩
  | true =>
    cases x with
    | tup xs =>
      cases d with
      | zero => simp [okD, isTupD] at hx
      | succ d => exact changed_tup hk (hc d rfl) hN hN2 hx hb
    | _ => cases ht
end DE
end

section
set_option Elab.async false
set_option linter.all false
set_option maxRecDepth 100000
set_option maxHeartbeats 4000000
namespace DE
open PySem L2
/-! the bags -/
def HWell (C : Ctx) (i : Nat) : Prop := ∀ (c t : Int) (st : Store), ∃ a b : Int, C.call i [.int c, .int t] st = some (.loc st.length, st ++ [[.int a, .int b, .int t]])
theorem bags_comp {C : Ctx} {i : Nat} {e : Env} (hw : HWell C i) (he : e.length = 5) : ∀ (cs : List Int) (k : Nat) (acc : List D) (st : Store), k + cs.length ≤ 1000 → acc.length + cs.length ≤ 1000 →
    ∃ (st' : Store), compL e (fun x s => asgT (.tup (.cons (.name 3) (.cons (.name 4) .nil))) (.d x) s) (evBs C .nil) (fun s => asD (evX C (el__law_bags_0 i) s)) (enumF k (cs.map D.int)) acc st = some (acc ++ (List.range cs.length).map (fun j => D.loc (st.length + j)), st') ∧
      st'.length = st.length + cs.length ∧ (∀ j, j < st.length → st'[j]? = st[j]?) ∧ ∀ j, st.length ≤ j → j < st.length + cs.length → Bag st' j (2 ^ 61)
  | [], k, acc, st, _, _ => ⟨st, by simp [compL, enumF], by simp, fun _ _ => rfl, fun j h1 h2 => by simp at h2; omega⟩
  | c :: cs, k, acc, st, hk, hl => by
    simp only [List.length_cons] at hk hl
    obtain ⟨a, b, ew⟩ := hw c (977 * (k : Int)) st
    obtain ⟨st', q1, q2, q3, q4⟩ := bags_comp hw he cs (k + 1) (acc ++ [.loc st.length]) (st ++ [[.int a, .int b, .int (977 * (k : Int))]]) (by omega) (by simp; omega)
    have zl : acc.length < sizeLine := by rw [sizeLine_eq]; omega
    match e, he with
    | [v0, v1, v2, v3, v4], _ =>
    refine ⟨st', ?_, by simp at q2 ⊢; omega, fun j hj => ?_, fun j h1 h2 => ?_⟩
    · rw [List.map_cons, enumF]
      unfold compL
      rw [show asgT (.tup (.cons (.name 3) (.cons (.name 4) .nil))) (.d (.tup [.int (k : Int), .int c])) ⟨[v0, v1, v2, v3, v4], st⟩ = some ⟨[v0, v1, v2, some (.val (.int (k : Int))), some (.val (.int c))], st⟩ from rfl]
      dsimp only
      rw [show evBs C .nil ⟨[v0, v1, v2, some (.val (.int (k : Int))), some (.val (.int c))], st⟩ = .ok true ⟨[v0, v1, v2, some (.val (.int (k : Int))), some (.val (.int c))], st⟩ from rfl]
      dsimp only
      have : asD (evX C (el__law_bags_0 i) ⟨[v0, v1, v2, some (.val (.int (k : Int))), some (.val (.int c))], st⟩) = .ok (.loc st.length) ⟨[v0, v1, v2, some (.val (.int (k : Int))), some (.val (.int c))], st ++ [[.int a, .int b, .int (977 * (k : Int))]]⟩ := by
        simp [el__law_bags_0, runFn_eq, finR_rt, finR_nx, finR_ite, ↓startE, ↓evSs, ↓evS, ↓evX, ↓evL, ↓evOs, ↓evBs, ↓evP, ↓evI, ↓asO_pk, ↓asO_var, ↓asO_con, ↓asO_glb, ↓asO_bin, ↓asO_neg, ↓asO_ife, ↓asO_tup, ↓asO_lst, ↓asO_idx, ↓asO_slc, ↓asO_rev, ↓asO_call, ↓asO_bi, ↓asO_join, ↓asO_pop, ↓asO_sset, ↓asO_cmp, ↓Res.bind, ↓asB, ↓asI, ↓asS, ↓asD, ↓Res.opt, ↓two, ↓resO, ↓S.get, ↓S.put, ↓S.put?, ↓asgT, ↓asgTs, ↓RX.dat, ↓obind_eq, ↓omap_eq, and_merge, or_merge, and_mergeB, or_mergeB, isiD, cmpD, lenD, binD, idxD, biD, nonD, atI_0, atI_1, atI_2, List.length_cons, List.length_nil, List.map_cons, List.map_nil, List.append_eq, List.cons_append, List.nil_append, List.getElem?_cons_zero, List.getElem?_cons_succ, List.getElem?_nil, List.mapM_cons, List.mapM_nil, Option.pure_def, Option.bind_eq_bind, id_eq, Bool.false_eq_true, List.foldl_cons, List.foldl_nil, ↓frzS, ew]
      rw [this]
      dsimp only
      rw [if_pos zl, q1]
      simp [List.range_succ_eq_map, Function.comp_def, Nat.add_comm, Nat.add_left_comm]
    · rw [q3 j (by simp; omega), List.getElem?_append_left hj]
    · by_cases hj : j = st.length
      · subst hj
        refine ⟨a, b, 977 * (k : Int), ?_, by omega, by omega⟩
        rw [q3 _ (by simp)]
        simp
      · exact q4 j (by simp; omega) (by simp at h2 ⊢; omega)
theorem cut_ints {ns : List Int} {r : Nat} : cutD (ns.map D.int) none (some (r : Int)) = (ns.take r).map D.int := by
  unfold cutD
  rw [HT.sIx_none, HT.sIx_nat, List.length_map, List.drop_zero, List.map_take, Nat.sub_zero, ← List.length_map (f := D.int), List.take_eq_take_min, List.length_map]
  simp only [List.take_eq_take_iff, List.length_map]
  omega
def HBags (C : Ctx) (i : Nat) : Prop := ∀ (ns : List Int) (most : Nat) (st : Store), ns.length ≤ 63 → most ≤ 63 → ∃ (cnt : Nat) (st' : Store), C.call i [.scr (ns.map D.int), .int most] st = some (.lst ((List.range cnt).map fun j => D.loc (st.length + j)), st') ∧
  st'.length = st.length + cnt ∧ (∀ j, j < st.length → st'[j]? = st[j]?) ∧ ∀ j, st.length ≤ j → j < st.length + cnt → Bag st' j (2 ^ 61)
theorem bags_ok {C : Ctx} {i : Nat} (hw : HWell C i) {ns : List Int} {most : Nat} {st : Store} (h1 : ns.length ≤ 63) (h2 : most ≤ 63) : ∃ (cnt : Nat) (st' : Store), runFn C (fn__law_bags i) [.scr (ns.map D.int), .int most] st = some (.lst ((List.range cnt).map fun j => D.loc (st.length + j)), st') ∧
    st'.length = st.length + cnt ∧ (∀ j, j < st.length → st'[j]? = st[j]?) ∧ ∀ j, st.length ≤ j → j < st.length + cnt → Bag st' j (2 ^ 61) := by
  have tl : (ns.take most).length ≤ 63 := by simp; omega
  obtain ⟨st', q1, q2, q3, q4⟩ := bags_comp (C := C) (i := i) (e := compEnv [2, 3, 4] [some (.val (.scr (ns.map D.int))), some (.val (.int most)), none, none, none]) hw rfl (ns.take most ++ [0]) 0 [] st (by simp at tl ⊢; omega) (by simp at tl ⊢; omega)
  refine ⟨(ns.take most ++ [0]).length, st', ?_, q2, q3, q4⟩
  have z1 : 1 ≤ sizeLine := by rw [sizeLine_eq]; omega
  have z2 : min most ns.length + 1 ≤ sizeLine := by rw [sizeLine_eq]; omega
  have hc : evX C (ce__law_bags_0 i) ⟨[some (.val (.scr (ns.map D.int))), some (.val (.int most)), none, none, none], st⟩ = .ok (.fr ((List.range (ns.take most ++ [0]).length).map fun j => D.loc (st.length + j))) ⟨[some (.val (.scr (ns.map D.int))), some (.val (.int most)), none, none, none], st'⟩ := by
    unfold ce__law_bags_0
    refine ev_comp2 (s1 := ⟨[some (.val (.scr (ns.map D.int))), some (.val (.int most)), none, none, none], st⟩) (xs := enumF 0 ((ns.take most ++ [0]).map D.int)) ?_ (by simpa using q1)
    simp [runFn_eq, finR_rt, finR_nx, finR_ite, ↓startE, ↓evSs, ↓evS, ↓evX, ↓evL, ↓evOs, ↓evBs, ↓evP, ↓evI, ↓asO_pk, ↓asO_var, ↓asO_con, ↓asO_glb, ↓asO_bin, ↓asO_neg, ↓asO_ife, ↓asO_tup, ↓asO_lst, ↓asO_idx, ↓asO_slc, ↓asO_rev, ↓asO_call, ↓asO_bi, ↓asO_join, ↓asO_pop, ↓asO_sset, ↓asO_cmp, ↓Res.bind, ↓asB, ↓asI, ↓asS, ↓asD, ↓Res.opt, ↓two, ↓resO, ↓S.get, ↓S.put, ↓S.put?, ↓asgT, ↓asgTs, ↓RX.dat, ↓obind_eq, ↓omap_eq, and_merge, or_merge, and_mergeB, or_mergeB, isiD, cmpD, lenD, binD, idxD, biD, nonD, atI_0, atI_1, atI_2, List.length_cons, List.length_nil, List.map_cons, List.map_nil, List.append_eq, List.cons_append, List.nil_append, List.getElem?_cons_zero, List.getElem?_cons_succ, List.getElem?_nil, List.mapM_cons, List.mapM_nil, Option.pure_def, Option.bind_eq_bind, id_eq, Bool.false_eq_true, List.foldl_cons, List.foldl_nil, ↓frzS, slcD, cut_ints, enumV, enumD, z1, z2]
  have ha := as_np (e := ce__law_bags_0 i) rfl hc
  simp [fn__law_bags, runFn_eq, finR_rt, finR_nx, finR_ite, ↓startE, ↓evSs, ↓evS, ↓evX, ↓evL, ↓evOs, ↓evBs, ↓evP, ↓evI, ↓asO_pk, ↓asO_var, ↓asO_con, ↓asO_glb, ↓asO_bin, ↓asO_neg, ↓asO_ife, ↓asO_tup, ↓asO_lst, ↓asO_idx, ↓asO_slc, ↓asO_rev, ↓asO_call, ↓asO_bi, ↓asO_join, ↓asO_pop, ↓asO_sset, ↓asO_cmp, ↓Res.bind, ↓asB, ↓asI, ↓asS, ↓asD, ↓Res.opt, ↓two, ↓resO, ↓S.get, ↓S.put, ↓S.put?, ↓asgT, ↓asgTs, ↓RX.dat, ↓obind_eq, ↓omap_eq, and_merge, or_merge, and_mergeB, or_mergeB, isiD, cmpD, lenD, binD, idxD, biD, nonD, atI_0, atI_1, atI_2, List.length_cons, List.length_nil, List.map_cons, List.map_nil, List.append_eq, List.cons_append, List.nil_append, List.getElem?_cons_zero, List.getElem?_cons_succ, List.getElem?_nil, List.mapM_cons, List.mapM_nil, Option.pure_def, Option.bind_eq_bind, id_eq, Bool.false_eq_true, List.foldl_cons, List.foldl_nil, ↓frzS, hc]
end DE
end

section
set_option Elab.async false
set_option linter.all false
set_option maxRecDepth 100000
set_option maxHeartbeats 4000000
namespace DE
open PySem L2
theorem okD_step {N : Nat} {ns ks : List Str} {x : D} (hN : 2 ≤ N) (h : isStepD x ns ks = true) (hz : ∀ z ∈ ns ++ ks, z.length ≤ 8) : okD N 1 x = true := by
  have hs : 8 ≤ sizeLine := by rw [sizeLine_eq]; omega
  obtain ⟨w, p, rfl, hk⟩ := isStepD_kind h
  have wl : w.length ≤ 8 := by
    rcases hk with ⟨h | h | h, _⟩ | ⟨h | h | h, _⟩ <;> subst h <;> decide +kernel
  have pf : okD N 0 p = true := by
    rcases hk with ⟨_, i, rfl⟩ | ⟨hw, u, rfl⟩
    · rfl
    · have hu : u ∈ ns ++ ks := by
        rcases hw with rfl | rfl | rfl <;> simp [isStepD, w_work_take, w_work_free, w_work_grow, w_work_shrink, w_work_raise, w_take_work, w_take_free, w_take_grow, w_take_shrink, w_take_raise, w_free_work, w_free_take, w_free_grow, w_free_shrink, w_free_raise, w_grow_work, w_grow_take, w_grow_free, w_grow_shrink, w_grow_raise, w_shrink_work, w_shrink_take, w_shrink_free, w_shrink_grow, w_shrink_raise, w_raise_work, w_raise_take, w_raise_free, w_raise_grow, w_raise_shrink] at h <;> simp [h]
      have := hz u hu
      exact okD_leaf (by simp only [fitD]; exact decide_eq_true (by omega)) rfl
  refine okD_tup.mpr ⟨by simp only [List.length_cons, List.length_nil]; omega, fun y hy => ?_⟩
  simp at hy
  rcases hy with rfl | rfl
  · exact okD_leaf (by simp only [fitD]; exact decide_eq_true (by omega)) rfl
  · exact pf
theorem nameS_len {z : Str} (h : nameS z = true) : z.length ≤ 8 := by
  simp only [nameS, Bool.and_eq_true, decide_eq_true_eq] at h
  exact h.1.2
theorem Kern.okD {op un : Bool} {ns : List Str} {ps : List (Str × Int)} {ls : List Int} {ts : List DE.D} (K : Kern op un ns ps ls ts) : (∀ x ∈ ts, okD 12 3 x = true) ∧ ts.length ≤ 6 ∧ ∀ x ∈ ps.map pairD, okD 12 1 x = true := by
  have hs : 8 ≤ sizeLine := by rw [sizeLine_eq]; omega
  have n8 : ∀ z ∈ ns, z.length ≤ 8 := fun z hz => nameS_len (List.all_eq_true.mp K.names z hz)
  have k8 : ∀ z ∈ ps.map (·.1), z.length ≤ 8 := fun z hz => nameS_len (List.all_eq_true.mp K.locks z hz)
  refine ⟨fun x hx => ?_, by rw [K.drawn.len.1]; exact K.len, fun x hx => ?_⟩
  · obtain ⟨z, l, hz, hl, d⟩ := K.drawn.mem x hx
    obtain ⟨rm, gp, cs, rfl, _, _, _, _, _, c1, c2, c3⟩ := d.shape
    refine okD_tup.mpr ⟨by simp only [List.length_cons, List.length_nil]; omega, fun y hy => ?_⟩
    simp only [List.mem_cons, List.not_mem_nil, or_false] at hy
    rcases hy with rfl | rfl | rfl | rfl | rfl
    · exact okD_leaf (by simp only [fitD]; exact decide_eq_true (Nat.le_trans (n8 z hz) hs)) rfl
    · exact okD_leaf rfl rfl
    · exact okD_leaf rfl rfl
    · exact okD_leaf rfl rfl
    · refine okD_tup.mpr ⟨c3, fun y hy => okD_step (by omega) (List.all_eq_true.mp c1 y hy) fun z hz => ?_⟩
      rcases List.mem_append.mp hz with hz | hz
      · split at hz
        · cases hz
        · exact n8 z hz
      · exact k8 z hz
  · obtain ⟨p, hp, rfl⟩ := List.mem_map.mp hx
    refine okD_tup.mpr ⟨by simp only [List.length_cons, List.length_nil]; omega, fun y hy => ?_⟩
    simp at hy
    rcases hy with rfl | rfl
    · exact okD_leaf (by simp only [fitD]; exact decide_eq_true (Nat.le_trans (k8 _ (List.mem_map_of_mem hp)) hs)) rfl
    · exact okD_leaf rfl rfl
theorem atI_last {α : Type} (xs : List α) (y : α) : atI (xs ++ [y]) (-1) = some y := by
  have h1 : (-1 + ((xs ++ [y]).length : Int)).toNat = xs.length := by simp only [List.length_append, List.length_singleton]; omega
  unfold atI ixN
  rw [if_neg (by omega), if_pos (by simp only [List.length_append, List.length_singleton]; omega), h1]
  simp
section
variable {C : Ctx} {i_b i_k i_c i_t i_s i_i i_l : Nat}
theorem ss_cons {C : Ctx} {c : CS} {cs : CSs} {s s1 : S} {r : Res Flow} (h : evS C c s = .ok .nx s1) (q : evSs C cs s1 = r) : evSs C (.cons c cs) s = r := by
  simp only [evSs, h, bind_ok, q]
def HSame (C : Ctx) (i : Nat) : Prop := ∀ (x y : Bool) (st : Store), C.call i [.bl x, .bl y] st = some (.bl (x == y), st)
def HKn (C : Ctx) (i : Nat) : Prop := ∀ (x : D) (st : Store), fitD x = true → C.call i [x] st = some (.bl (isKernelD x), st)
theorem law_check (hs : HSame C i_s) (hi : HKn C i_i) (hl : HKn C i_l) {a b c d e g : Option Slot} {st : Store} : ∀ (xs : List D) (f : Option Slot), fitDs xs = true →
    ∃ f', forL (evSs C (bo_law_1 i_b i_k i_c i_t i_s i_i i_l)) (fun x s => asgT (.name 6) (.d x) s) xs ⟨[a, b, c, d, e, g, f], st⟩ = .ok .nx ⟨[a, b, c, d, e, g, f'], st⟩
  | [], f, _ => ⟨f, rfl⟩
  | x :: xs, f, h => by
    simp only [fitDs, Bool.and_eq_true] at h
    obtain ⟨f', q⟩ := law_check hs hi hl xs (some (.val x)) h.2
    refine ⟨f', ?_⟩
    have b1 : evSs C (bo_law_1 i_b i_k i_c i_t i_s i_i i_l) ⟨[a, b, c, d, e, g, some (.val x)], st⟩ = .ok .nx ⟨[a, b, c, d, e, g, some (.val x)], st⟩ := by
      have e1 := fun st => hi x st h.1
      have e2 := fun st => hl x st h.1
      have e3 := fun st => hs (isKernelD x) (isKernelD x) st
      simp [bo_law_1, runFn_eq, finR_rt, finR_nx, finR_ite, ↓startE, ↓evSs, ↓evS, ↓evX, ↓evL, ↓evOs, ↓evBs, ↓evP, ↓evI, ↓asO_pk, ↓asO_var, ↓asO_con, ↓asO_glb, ↓asO_bin, ↓asO_neg, ↓asO_ife, ↓asO_tup, ↓asO_lst, ↓asO_idx, ↓asO_slc, ↓asO_rev, ↓asO_call, ↓asO_bi, ↓asO_join, ↓asO_pop, ↓asO_sset, ↓asO_cmp, ↓Res.bind, ↓asB, ↓asI, ↓asS, ↓asD, ↓Res.opt, ↓two, ↓resO, ↓S.get, ↓S.put, ↓S.put?, ↓asgT, ↓asgTs, ↓RX.dat, ↓obind_eq, ↓omap_eq, and_merge, or_merge, and_mergeB, or_mergeB, isiD, cmpD, lenD, binD, idxD, biD, nonD, atI_0, atI_1, atI_2, List.length_cons, List.length_nil, List.map_cons, List.map_nil, List.append_eq, List.cons_append, List.nil_append, List.getElem?_cons_zero, List.getElem?_cons_succ, List.getElem?_nil, List.mapM_cons, List.mapM_nil, Option.pure_def, Option.bind_eq_bind, id_eq, Bool.false_eq_true, List.foldl_cons, List.foldl_nil, ↓frzS, e1, e2, e3]
    have e1 : asgT (.name 6) (.d x) ⟨[a, b, c, d, e, g, f], st⟩ = some ⟨[a, b, c, d, e, g, some (.val x)], st⟩ := rfl
    unfold forL
    simp only [e1, opt_some, bind_ok, b1]
    exact q
theorem law_some (hc : ∀ d ≤ 10, HChd C i_c d) {n m : Nat} {K : D} {a d e f : Option Slot} {st0 : Store} (hK : okD 12 5 K = true) : ∀ (rs : List D) (xs : List D) (y : D) (b : Option Slot) (st : Store), xs.length + rs.length ≤ 1000 → fitDs xs = true → okD 13 6 y = true → Nxt st0 st n (m + 18 * rs.length) →
    ∃ xs' y' b' st', forL (evSs C (bo_law_0 i_b i_k i_c i_t i_s i_i i_l)) (fun x s => asgT (.name 4) (.d x) s) rs ⟨[a, some (.val (.loc n)), some (.val K), some (.own (xs ++ [y])), b, d, e], st⟩ = .ok .nx ⟨[a, some (.val (.loc n)), some (.val K), some (.own (xs' ++ [y'])), b', d, e], st'⟩ ∧ xs'.length ≤ xs.length + rs.length ∧ fitDs xs' = true ∧ okD 13 6 y' = true ∧ Nxt st0 st' n m
  | [], xs, y, b, st, hl, hf, hy, nx => ⟨xs, y, b, st, rfl, by simp, hf, hy, by simpa using nx⟩
  | r :: rs, xs, y, b, st, hl, hf, hy, nx => by
    simp only [List.length_cons] at hl nx
    obtain ⟨z, s1, e1, hz, n1⟩ := hc 5 (by omega) st n (m + 18 * rs.length) 12 K (by omega) (by omega) hK (nx.bag.le (by omega))
    obtain ⟨xs', y', b', st', q1, q2, q3, q4, q5⟩ := law_some (d := d) (e := e) (f := f) hc hK rs (xs ++ [y]) z (some (.val r)) s1 (by simp; omega) (fits_of fun w hw => by
      rcases List.mem_append.mp hw with hw | hw
      · exact fits_mem hf w hw
      · simp at hw; subst hw; exact okD_fit hy) hz (nx.trans n1)
    refine ⟨xs', y', b', st', ?_, by simp at q2 ⊢; omega, q3, q4, q5⟩
    have zl : xs.length + 1 < sizeLine := by rw [sizeLine_eq]; omega
    have b1 : evSs C (bo_law_0 i_b i_k i_c i_t i_s i_i i_l) ⟨[a, some (.val (.loc n)), some (.val K), some (.own (xs ++ [y])), some (.val r), d, e], st⟩ = .ok .nx ⟨[a, some (.val (.loc n)), some (.val K), some (.own (xs ++ [y] ++ [z])), some (.val r), d, e], s1⟩ := by
      simp [bo_law_0, runFn_eq, finR_rt, finR_nx, finR_ite, ↓startE, ↓evSs, ↓evS, ↓evX, ↓evL, ↓evOs, ↓evBs, ↓evP, ↓evI, ↓asO_pk, ↓asO_var, ↓asO_con, ↓asO_glb, ↓asO_bin, ↓asO_neg, ↓asO_ife, ↓asO_tup, ↓asO_lst, ↓asO_idx, ↓asO_slc, ↓asO_rev, ↓asO_call, ↓asO_bi, ↓asO_join, ↓asO_pop, ↓asO_sset, ↓asO_cmp, ↓Res.bind, ↓asB, ↓asI, ↓asS, ↓asD, ↓Res.opt, ↓two, ↓resO, ↓S.get, ↓S.put, ↓S.put?, ↓asgT, ↓asgTs, ↓RX.dat, ↓obind_eq, ↓omap_eq, and_merge, or_merge, and_mergeB, or_mergeB, isiD, cmpD, lenD, binD, idxD, biD, nonD, atI_0, atI_1, atI_2, List.length_cons, List.length_nil, List.map_cons, List.map_nil, List.append_eq, List.cons_append, List.nil_append, List.getElem?_cons_zero, List.getElem?_cons_succ, List.getElem?_nil, List.mapM_cons, List.mapM_nil, Option.pure_def, Option.bind_eq_bind, id_eq, Bool.false_eq_true, List.foldl_cons, List.foldl_nil, ↓frzS, lstSlot, e1, zl]
    have ea : asgT (.name 4) (.d r) ⟨[a, some (.val (.loc n)), some (.val K), some (.own (xs ++ [y])), b, d, e], st⟩ = some ⟨[a, some (.val (.loc n)), some (.val K), some (.own (xs ++ [y])), some (.val r), d, e], st⟩ := rfl
    unfold forL
    simp only [ea, opt_some, bind_ok, b1]
    exact q1
theorem law_turn (hk : HKer C i_k) (hc : ∀ d ≤ 10, HChd C i_c d) (ht : HK C i_t) (hs : HSame C i_s) (hi : HKn C i_i) (hl : HKn C i_l) {n m : Nat} {v a b c d e : Option Slot} {st : Store} (hb : Bag st n (m + 1000)) :
    ∃ a' b' c' d' e' st', evSs C (bo_law_2 i_b i_k i_c i_t i_s i_i i_l) ⟨[v, some (.val (.loc n)), a, b, c, d, e], st⟩ = .ok .nx ⟨[v, some (.val (.loc n)), a', b', c', d', e'], st'⟩ ∧ Nxt st st' n m := by
  obtain ⟨ns, ps, ls, ts, dp, s1, e1, K, d1, d2, n1⟩ := hk st n (m + 700) 6 false false false false (by omega) (by omega) (hb.le (by omega))
  obtain ⟨k1, k2, k3⟩ := K.okD
  have p3 : (ps.map pairD).length ≤ 3 := by simpa using K.llen
  generalize hks : ps.map pairD = ks at *
  have okK : okD 12 5 (.tup [.tup ts, .tup ks, .int dp]) = true := by
    refine okD_tup.mpr ⟨by simp only [List.length_cons, List.length_nil]; omega, fun y hy => ?_⟩
    simp only [List.mem_cons, List.not_mem_nil, or_false] at hy
    rcases hy with rfl | rfl | rfl
    · exact okD_tup.mpr ⟨by omega, k1⟩
    · exact okD_tup.mpr ⟨by omega, fun x hx => okD_mono (by omega) (by omega) (k3 x hx)⟩
    · exact okD_leaf rfl rfl
  have f1 : fitDs ts = true := fits_of fun x hx => okD_fit (k1 x hx)
  have f2 : fitDs ks = true := fits_of fun x hx => okD_fit (k3 x hx)
  have okP : okD 13 6 (.tup [.tup ts, .tup ks]) = true := by
    refine okD_tup.mpr ⟨by simp only [List.length_cons, List.length_nil]; omega, fun y hy => ?_⟩
    simp only [List.mem_cons, List.not_mem_nil, or_false] at hy
    rcases hy with rfl | rfl
    · exact okD_tup.mpr ⟨by omega, fun x hx => okD_mono (by omega) (by omega) (k1 x hx)⟩
    · exact okD_tup.mpr ⟨by omega, fun x hx => okD_mono (by omega) (by omega) (k3 x hx)⟩
  have hs0 : 20 ≤ sizeLine := by rw [sizeLine_eq]; omega
  have fs : ∀ z : Str, z.length ≤ 20 → fitD (.str z) = true := fun z h => by simp only [fitD]; exact decide_eq_true (by omega)
  obtain ⟨xs, y, b1, s2, e2, l2, x2, y2, n2⟩ := law_some (i_b := i_b) (i_k := i_k) (i_t := i_t) (i_s := i_s) (i_i := i_i) (i_l := i_l) (n := n) (m := m + 100) (K := .tup [.tup ts, .tup ks, .int dp]) (a := v) (d := d) (e := e) (f := none) (st0 := s1) hc okK
    (rangeD 0 10) [.tup [.tup ts, .tup ks, .int dp], .tup [.tup [], .tup [], .int 1], .tup [.tup ts, .tup ks, .int 4], .non, .lst [], .str "a", .int 7] (.tup [.tup ts, .tup ks]) c s1 (by simp [rangeD]) (by
      simp [fitDs, fitD, f1, f2]; have := fs "a" (by decide +kernel); simpa [fitD] using this) okP (.refl (n1.bag.le (by simp [rangeD])))
  obtain ⟨z, s3, e3, z3, n3⟩ := hc 6 (by omega) s2 n (m + 50) 13 y (by omega) (by omega) y2 (n2.bag.le (by omega))
  obtain ⟨r, s4, e4, a1, a2, n4⟩ := ht s3 n m 3 (n3.bag.le (by omega)) (by omega) (by omega)
  have q1 : 2 ≤ 11 + r := by omega
  have q2 : 11 + r ≤ 1000 := by omega
  obtain ⟨L, hL⟩ : ∃ L, L = List.replicate (11 + r).toNat (D.tup [D.str "work", D.int 1]) := ⟨_, rfl⟩
  have fL : fitDs L = true := fits_of fun x hx => by
    subst hL
    rw [List.mem_replicate] at hx
    rw [hx.2]
    simp only [fitD, fitDs, Bool.and_true]
    exact decide_eq_true (by have : (Str.ofString "work").length ≤ 20 := by decide +kernel
                             omega)
  have fq : ∀ z : Str, z.length ≤ 20 → decide (z.length ≤ sizeLine) = true := fun z h => decide_eq_true (by omega)
  obtain ⟨f', ck⟩ := law_check (i_b := i_b) (i_k := i_k) (i_c := i_c) (i_t := i_t) (a := v) (b := some (.val (.loc n))) (c := some (.val (.tup [.tup ts, .tup ks, .int dp])))
    (d := some (.val (.lst (xs ++ [y] ++ [z] ++ [.tup [.tup (ts ++ [.tup [.str "zzz", .int 1, .int 0, .int 0, .tup [.tup [.str "work", .int 1]]]]), .tup ks, .int 1]] ++ [.tup [.tup [.tup [.str "q", .int 1, .int 0, .int 0, .tup L]], .tup [.tup [.str "x", .int 0], .tup [.str "y", .int 9]], .int 3]]))))
    (e := b1) (g := some (.val (.tup L))) (st := s4) hs hi hl (xs ++ [y] ++ [z] ++ [.tup [.tup (ts ++ [.tup [.str "zzz", .int 1, .int 0, .int 0, .tup [.tup [.str "work", .int 1]]]]), .tup ks, .int 1]] ++ [.tup [.tup [.tup [.str "q", .int 1, .int 0, .int 0, .tup L]], .tup [.tup [.str "x", .int 0], .tup [.str "y", .int 9]], .int 3]]) e (by
      have fa : ∀ {a b : List D}, fitDs a = true → fitDs b = true → fitDs (a ++ b) = true := fun h1 h2 => fits_of fun x hx => by
        rcases List.mem_append.mp hx with hx | hx
        · exact fits_mem h1 x hx
        · exact fits_mem h2 x hx
      have w1 := fq "zzz" (by decide +kernel)
      have w2 := fq "work" (by decide +kernel)
      have w3 := fq "q" (by decide +kernel)
      have w4 := fq "x" (by decide +kernel)
      have w5 := fq "y" (by decide +kernel)
      refine fa (fa (fa (fa x2 ?_) ?_) ?_) ?_
      · simp only [fitDs, okD_fit y2, Bool.and_true]
      · simp only [fitDs, okD_fit z3, Bool.and_true]
      · simp only [fitDs, fitD, Bool.and_true, Bool.true_and, f2, Bool.and_true]
        exact fa f1 (by simp only [fitDs, fitD, w1, w2, Bool.and_true])
      · simp only [fitDs, fitD, fL, w3, w4, w5, Bool.and_true])
  have hf1 : evS C (fo_law_0 i_b i_k i_c i_t i_s i_i i_l) ⟨[v, some (.val (.loc n)), some (.val (.tup [.tup ts, .tup ks, .int dp])), some (.own ([.tup [.tup ts, .tup ks, .int dp], .tup [.tup [], .tup [], .int 1], .tup [.tup ts, .tup ks, .int 4], .non, .lst [], .str "a", .int 7] ++ [.tup [.tup ts, .tup ks]])), c, d, e], s1⟩ = .ok .nx ⟨[v, some (.val (.loc n)), some (.val (.tup [.tup ts, .tup ks, .int dp])), some (.own (xs ++ [y])), b1, d, e], s2⟩ := by
    unfold fo_law_0
    exact (ev_for (by simp [runFn_eq, finR_rt, finR_nx, finR_ite, ↓startE, ↓evSs, ↓evS, ↓evX, ↓evL, ↓evOs, ↓evBs, ↓evP, ↓evI, ↓asO_pk, ↓asO_var, ↓asO_con, ↓asO_glb, ↓asO_bin, ↓asO_neg, ↓asO_ife, ↓asO_tup, ↓asO_lst, ↓asO_idx, ↓asO_slc, ↓asO_rev, ↓asO_call, ↓asO_bi, ↓asO_join, ↓asO_pop, ↓asO_sset, ↓asO_cmp, ↓Res.bind, ↓asB, ↓asI, ↓asS, ↓asD, ↓Res.opt, ↓two, ↓resO, ↓S.get, ↓S.put, ↓S.put?, ↓asgT, ↓asgTs, ↓RX.dat, ↓obind_eq, ↓omap_eq, and_merge, or_merge, and_mergeB, or_mergeB, isiD, cmpD, lenD, binD, idxD, biD, nonD, atI_0, atI_1, atI_2, List.length_cons, List.length_nil, List.map_cons, List.map_nil, List.append_eq, List.cons_append, List.nil_append, List.getElem?_cons_zero, List.getElem?_cons_succ, List.getElem?_nil, List.mapM_cons, List.mapM_nil, Option.pure_def, Option.bind_eq_bind, id_eq, Bool.false_eq_true, List.foldl_cons, List.foldl_nil, ↓frzS])).trans e2
  have hf2 := (ev_for (C := C) (t := .name 6) (it := .seq (.var 3)) (body := bo_law_1 i_b i_k i_c i_t i_s i_i i_l) (s := ⟨[v, some (.val (.loc n)), some (.val (.tup [.tup ts, .tup ks, .int dp])), some (.val (.lst (xs ++ [y] ++ [z] ++ [.tup [.tup (ts ++ [.tup [.str "zzz", .int 1, .int 0, .int 0, .tup [.tup [.str "work", .int 1]]]]), .tup ks, .int 1]] ++ [.tup [.tup [.tup [.str "q", .int 1, .int 0, .int 0, .tup L]], .tup [.tup [.str "x", .int 0], .tup [.str "y", .int 9]], .int 3]]))), b1, some (.val (.tup L)), e], s4⟩) (by simp only [runFn_eq, finR_rt, finR_nx, finR_ite, ↓startE, ↓evSs, ↓evS, ↓evX, ↓evL, ↓evOs, ↓evBs, ↓evP, ↓evI, ↓asO_pk, ↓asO_var, ↓asO_con, ↓asO_glb, ↓asO_bin, ↓asO_neg, ↓asO_ife, ↓asO_tup, ↓asO_lst, ↓asO_idx, ↓asO_slc, ↓asO_rev, ↓asO_call, ↓asO_bi, ↓asO_join, ↓asO_pop, ↓asO_sset, ↓asO_cmp, ↓Res.bind, ↓asB, ↓asI, ↓asS, ↓asD, ↓Res.opt, ↓two, ↓resO, ↓S.get, ↓S.put, ↓S.put?, ↓asgT, ↓asgTs, ↓RX.dat, ↓obind_eq, ↓omap_eq, and_merge, or_merge, and_mergeB, or_mergeB, isiD, cmpD, lenD, binD, idxD, biD, nonD, atI_0, atI_1, atI_2, List.length_cons, List.length_nil, List.map_cons, List.map_nil, List.append_eq, List.cons_append, List.nil_append, List.getElem?_cons_zero, List.getElem?_cons_succ, List.getElem?_nil, List.mapM_cons, List.mapM_nil, Option.pure_def, Option.bind_eq_bind, id_eq, Bool.false_eq_true, List.foldl_cons, List.foldl_nil, ↓frzS, seqD])).trans ck
  change evS C (fo_law_1 i_b i_k i_c i_t i_s i_i i_l) _ = _ at hf2
  refine ⟨some (.val (.tup [.tup ts, .tup ks, .int dp])), some (.val (.lst (xs ++ [y] ++ [z] ++ [.tup [.tup (ts ++ [.tup [.str "zzz", .int 1, .int 0, .int 0, .tup [.tup [.str "work", .int 1]]]]), .tup ks, .int 1]] ++ [.tup [.tup [.tup [.str "q", .int 1, .int 0, .int 0, .tup L]], .tup [.tup [.str "x", .int 0], .tup [.str "y", .int 9]], .int 3]]))), b1, some (.val (.tup L)), f', s4, ?_, ((n1.trans n2).trans n3).trans n4 |>.trans (.refl (n4.bag))⟩
  have zs : ∀ k, k ≤ 20 → k ≤ sizeLine := fun k h => by omega
  have l1 : xs.length + 1 < sizeLine := by simp [rangeD] at l2; rw [sizeLine_eq]; omega
  have l3 : xs.length + 1 + 1 < sizeLine := by simp [rangeD] at l2; rw [sizeLine_eq]; omega
  have l4 : xs.length + 1 + 1 + 1 < sizeLine := by simp [rangeD] at l2; rw [sizeLine_eq]; omega
  have lts : ts.length + 1 ≤ sizeLine := by omega
  have al := atI_last xs y
  simp only [List.cons_append, List.nil_append] at hf1
  unfold bo_law_2
  refine ss_cons (s1 := ⟨[v, some (.val (.loc n)), a, b, c, d, e], st⟩) (by simp [runFn_eq, finR_rt, finR_nx, finR_ite, ↓startE, ↓evSs, ↓evS, ↓evX, ↓evL, ↓evOs, ↓evBs, ↓evP, ↓evI, ↓asO_pk, ↓asO_var, ↓asO_con, ↓asO_glb, ↓asO_bin, ↓asO_neg, ↓asO_ife, ↓asO_tup, ↓asO_lst, ↓asO_idx, ↓asO_slc, ↓asO_rev, ↓asO_call, ↓asO_bi, ↓asO_join, ↓asO_pop, ↓asO_sset, ↓asO_cmp, ↓Res.bind, ↓asB, ↓asI, ↓asS, ↓asD, ↓Res.opt, ↓two, ↓resO, ↓S.get, ↓S.put, ↓S.put?, ↓asgT, ↓asgTs, ↓RX.dat, ↓obind_eq, ↓omap_eq, and_merge, or_merge, and_mergeB, or_mergeB, isiD, cmpD, lenD, binD, idxD, biD, nonD, atI_0, atI_1, atI_2, List.length_cons, List.length_nil, List.map_cons, List.map_nil, List.append_eq, List.cons_append, List.nil_append, List.getElem?_cons_zero, List.getElem?_cons_succ, List.getElem?_nil, List.mapM_cons, List.mapM_nil, Option.pure_def, Option.bind_eq_bind, id_eq, Bool.false_eq_true, List.foldl_cons, List.foldl_nil, ↓frzS]) ?_
  refine ss_cons (s1 := ⟨[v, some (.val (.loc n)), some (.val (.tup [.tup ts, .tup ks, .int dp])), b, c, d, e], s1⟩) (by simp [runFn_eq, finR_rt, finR_nx, finR_ite, ↓startE, ↓evSs, ↓evS, ↓evX, ↓evL, ↓evOs, ↓evBs, ↓evP, ↓evI, ↓asO_pk, ↓asO_var, ↓asO_con, ↓asO_glb, ↓asO_bin, ↓asO_neg, ↓asO_ife, ↓asO_tup, ↓asO_lst, ↓asO_idx, ↓asO_slc, ↓asO_rev, ↓asO_call, ↓asO_bi, ↓asO_join, ↓asO_pop, ↓asO_sset, ↓asO_cmp, ↓Res.bind, ↓asB, ↓asI, ↓asS, ↓asD, ↓Res.opt, ↓two, ↓resO, ↓S.get, ↓S.put, ↓S.put?, ↓asgT, ↓asgTs, ↓RX.dat, ↓obind_eq, ↓omap_eq, and_merge, or_merge, and_mergeB, or_mergeB, isiD, cmpD, lenD, binD, idxD, biD, nonD, atI_0, atI_1, atI_2, List.length_cons, List.length_nil, List.map_cons, List.map_nil, List.append_eq, List.cons_append, List.nil_append, List.getElem?_cons_zero, List.getElem?_cons_succ, List.getElem?_nil, List.mapM_cons, List.mapM_nil, Option.pure_def, Option.bind_eq_bind, id_eq, Bool.false_eq_true, List.foldl_cons, List.foldl_nil, ↓frzS, e1, zs]) ?_
  refine ss_cons (s1 := ⟨[v, some (.val (.loc n)), some (.val (.tup [.tup ts, .tup ks, .int dp])), b, c, d, e], s1⟩) (by simp [runFn_eq, finR_rt, finR_nx, finR_ite, ↓startE, ↓evSs, ↓evS, ↓evX, ↓evL, ↓evOs, ↓evBs, ↓evP, ↓evI, ↓asO_pk, ↓asO_var, ↓asO_con, ↓asO_glb, ↓asO_bin, ↓asO_neg, ↓asO_ife, ↓asO_tup, ↓asO_lst, ↓asO_idx, ↓asO_slc, ↓asO_rev, ↓asO_call, ↓asO_bi, ↓asO_join, ↓asO_pop, ↓asO_sset, ↓asO_cmp, ↓Res.bind, ↓asB, ↓asI, ↓asS, ↓asD, ↓Res.opt, ↓two, ↓resO, ↓S.get, ↓S.put, ↓S.put?, ↓asgT, ↓asgTs, ↓RX.dat, ↓obind_eq, ↓omap_eq, and_merge, or_merge, and_mergeB, or_mergeB, isiD, cmpD, lenD, binD, idxD, biD, nonD, atI_0, atI_1, atI_2, List.length_cons, List.length_nil, List.map_cons, List.map_nil, List.append_eq, List.cons_append, List.nil_append, List.getElem?_cons_zero, List.getElem?_cons_succ, List.getElem?_nil, List.mapM_cons, List.mapM_nil, Option.pure_def, Option.bind_eq_bind, id_eq, Bool.false_eq_true, List.foldl_cons, List.foldl_nil, ↓frzS]) ?_
  refine ss_cons (s1 := ⟨[v, some (.val (.loc n)), some (.val (.tup [.tup ts, .tup ks, .int dp])), some (.own ([.tup [.tup ts, .tup ks, .int dp], .tup [.tup [], .tup [], .int 1], .tup [.tup ts, .tup ks, .int 4], .non, .lst [], .str "a", .int 7, .tup [.tup ts, .tup ks]])), c, d, e], s1⟩) (by simp [runFn_eq, finR_rt, finR_nx, finR_ite, ↓startE, ↓evSs, ↓evS, ↓evX, ↓evL, ↓evOs, ↓evBs, ↓evP, ↓evI, ↓asO_pk, ↓asO_var, ↓asO_con, ↓asO_glb, ↓asO_bin, ↓asO_neg, ↓asO_ife, ↓asO_tup, ↓asO_lst, ↓asO_idx, ↓asO_slc, ↓asO_rev, ↓asO_call, ↓asO_bi, ↓asO_join, ↓asO_pop, ↓asO_sset, ↓asO_cmp, ↓Res.bind, ↓asB, ↓asI, ↓asS, ↓asD, ↓Res.opt, ↓two, ↓resO, ↓S.get, ↓S.put, ↓S.put?, ↓asgT, ↓asgTs, ↓RX.dat, ↓obind_eq, ↓omap_eq, and_merge, or_merge, and_mergeB, or_mergeB, isiD, cmpD, lenD, binD, idxD, biD, nonD, atI_0, atI_1, atI_2, List.length_cons, List.length_nil, List.map_cons, List.map_nil, List.append_eq, List.cons_append, List.nil_append, List.getElem?_cons_zero, List.getElem?_cons_succ, List.getElem?_nil, List.mapM_cons, List.mapM_nil, Option.pure_def, Option.bind_eq_bind, id_eq, Bool.false_eq_true, List.foldl_cons, List.foldl_nil, ↓frzS, zs]) ?_
  refine ss_cons (s1 := ⟨[v, some (.val (.loc n)), some (.val (.tup [.tup ts, .tup ks, .int dp])), some (.own (xs ++ [y])), b1, d, e], s2⟩) hf1 ?_
  refine ss_cons (s1 := ⟨[v, some (.val (.loc n)), some (.val (.tup [.tup ts, .tup ks, .int dp])), some (.own (xs ++ [y])), b1, d, e], s2⟩) (by simp [runFn_eq, finR_rt, finR_nx, finR_ite, ↓startE, ↓evSs, ↓evS, ↓evX, ↓evL, ↓evOs, ↓evBs, ↓evP, ↓evI, ↓asO_pk, ↓asO_var, ↓asO_con, ↓asO_glb, ↓asO_bin, ↓asO_neg, ↓asO_ife, ↓asO_tup, ↓asO_lst, ↓asO_idx, ↓asO_slc, ↓asO_rev, ↓asO_call, ↓asO_bi, ↓asO_join, ↓asO_pop, ↓asO_sset, ↓asO_cmp, ↓Res.bind, ↓asB, ↓asI, ↓asS, ↓asD, ↓Res.opt, ↓two, ↓resO, ↓S.get, ↓S.put, ↓S.put?, ↓asgT, ↓asgTs, ↓RX.dat, ↓obind_eq, ↓omap_eq, and_merge, or_merge, and_mergeB, or_mergeB, isiD, cmpD, lenD, binD, idxD, biD, nonD, atI_0, atI_1, atI_2, List.length_cons, List.length_nil, List.map_cons, List.map_nil, List.append_eq, List.cons_append, List.nil_append, List.getElem?_cons_zero, List.getElem?_cons_succ, List.getElem?_nil, List.mapM_cons, List.mapM_nil, Option.pure_def, Option.bind_eq_bind, id_eq, Bool.false_eq_true, List.foldl_cons, List.foldl_nil, ↓frzS]) ?_
  refine ss_cons (s1 := ⟨[v, some (.val (.loc n)), some (.val (.tup [.tup ts, .tup ks, .int dp])), some (.own (xs ++ [y] ++ [z])), b1, d, e], s3⟩) (by simp [runFn_eq, finR_rt, finR_nx, finR_ite, ↓startE, ↓evSs, ↓evS, ↓evX, ↓evL, ↓evOs, ↓evBs, ↓evP, ↓evI, ↓asO_pk, ↓asO_var, ↓asO_con, ↓asO_glb, ↓asO_bin, ↓asO_neg, ↓asO_ife, ↓asO_tup, ↓asO_lst, ↓asO_idx, ↓asO_slc, ↓asO_rev, ↓asO_call, ↓asO_bi, ↓asO_join, ↓asO_pop, ↓asO_sset, ↓asO_cmp, ↓Res.bind, ↓asB, ↓asI, ↓asS, ↓asD, ↓Res.opt, ↓two, ↓resO, ↓S.get, ↓S.put, ↓S.put?, ↓asgT, ↓asgTs, ↓RX.dat, ↓obind_eq, ↓omap_eq, and_merge, or_merge, and_mergeB, or_mergeB, isiD, cmpD, lenD, binD, idxD, biD, nonD, atI_0, atI_1, atI_2, List.length_cons, List.length_nil, List.map_cons, List.map_nil, List.append_eq, List.cons_append, List.nil_append, List.getElem?_cons_zero, List.getElem?_cons_succ, List.getElem?_nil, List.mapM_cons, List.mapM_nil, Option.pure_def, Option.bind_eq_bind, id_eq, Bool.false_eq_true, List.foldl_cons, List.foldl_nil, ↓frzS, al, e3, lstSlot, l1]) ?_
  refine ss_cons (s1 := ⟨[v, some (.val (.loc n)), some (.val (.tup [.tup ts, .tup ks, .int dp])), some (.own (xs ++ [y] ++ [z] ++ [.tup [.tup (ts ++ [.tup [.str "zzz", .int 1, .int 0, .int 0, .tup [.tup [.str "work", .int 1]]]]), .tup ks, .int 1]])), b1, d, e], s3⟩) (by simp [runFn_eq, finR_rt, finR_nx, finR_ite, ↓startE, ↓evSs, ↓evS, ↓evX, ↓evL, ↓evOs, ↓evBs, ↓evP, ↓evI, ↓asO_pk, ↓asO_var, ↓asO_con, ↓asO_glb, ↓asO_bin, ↓asO_neg, ↓asO_ife, ↓asO_tup, ↓asO_lst, ↓asO_idx, ↓asO_slc, ↓asO_rev, ↓asO_call, ↓asO_bi, ↓asO_join, ↓asO_pop, ↓asO_sset, ↓asO_cmp, ↓Res.bind, ↓asB, ↓asI, ↓asS, ↓asD, ↓Res.opt, ↓two, ↓resO, ↓S.get, ↓S.put, ↓S.put?, ↓asgT, ↓asgTs, ↓RX.dat, ↓obind_eq, ↓omap_eq, and_merge, or_merge, and_mergeB, or_mergeB, isiD, cmpD, lenD, binD, idxD, biD, nonD, atI_0, atI_1, atI_2, List.length_cons, List.length_nil, List.map_cons, List.map_nil, List.append_eq, List.cons_append, List.nil_append, List.getElem?_cons_zero, List.getElem?_cons_succ, List.getElem?_nil, List.mapM_cons, List.mapM_nil, Option.pure_def, Option.bind_eq_bind, id_eq, Bool.false_eq_true, List.foldl_cons, List.foldl_nil, ↓frzS, lstSlot, l3, zs, lts]) ?_
  refine ss_cons (s1 := ⟨[v, some (.val (.loc n)), some (.val (.tup [.tup ts, .tup ks, .int dp])), some (.own (xs ++ [y] ++ [z] ++ [.tup [.tup (ts ++ [.tup [.str "zzz", .int 1, .int 0, .int 0, .tup [.tup [.str "work", .int 1]]]]), .tup ks, .int 1]])), b1, d, e], s3⟩) (by simp [runFn_eq, finR_rt, finR_nx, finR_ite, ↓startE, ↓evSs, ↓evS, ↓evX, ↓evL, ↓evOs, ↓evBs, ↓evP, ↓evI, ↓asO_pk, ↓asO_var, ↓asO_con, ↓asO_glb, ↓asO_bin, ↓asO_neg, ↓asO_ife, ↓asO_tup, ↓asO_lst, ↓asO_idx, ↓asO_slc, ↓asO_rev, ↓asO_call, ↓asO_bi, ↓asO_join, ↓asO_pop, ↓asO_sset, ↓asO_cmp, ↓Res.bind, ↓asB, ↓asI, ↓asS, ↓asD, ↓Res.opt, ↓two, ↓resO, ↓S.get, ↓S.put, ↓S.put?, ↓asgT, ↓asgTs, ↓RX.dat, ↓obind_eq, ↓omap_eq, and_merge, or_merge, and_mergeB, or_mergeB, isiD, cmpD, lenD, binD, idxD, biD, nonD, atI_0, atI_1, atI_2, List.length_cons, List.length_nil, List.map_cons, List.map_nil, List.append_eq, List.cons_append, List.nil_append, List.getElem?_cons_zero, List.getElem?_cons_succ, List.getElem?_nil, List.mapM_cons, List.mapM_nil, Option.pure_def, Option.bind_eq_bind, id_eq, Bool.false_eq_true, List.foldl_cons, List.foldl_nil, ↓frzS]) ?_
  refine ss_cons (s1 := ⟨[v, some (.val (.loc n)), some (.val (.tup [.tup ts, .tup ks, .int dp])), some (.own (xs ++ [y] ++ [z] ++ [.tup [.tup (ts ++ [.tup [.str "zzz", .int 1, .int 0, .int 0, .tup [.tup [.str "work", .int 1]]]]), .tup ks, .int 1]])), b1, some (.val (.tup L)), e], s4⟩) (by simp [runFn_eq, finR_rt, finR_nx, finR_ite, ↓startE, ↓evSs, ↓evS, ↓evX, ↓evL, ↓evOs, ↓evBs, ↓evP, ↓evI, ↓asO_pk, ↓asO_var, ↓asO_con, ↓asO_glb, ↓asO_bin, ↓asO_neg, ↓asO_ife, ↓asO_tup, ↓asO_lst, ↓asO_idx, ↓asO_slc, ↓asO_rev, ↓asO_call, ↓asO_bi, ↓asO_join, ↓asO_pop, ↓asO_sset, ↓asO_cmp, ↓Res.bind, ↓asB, ↓asI, ↓asS, ↓asD, ↓Res.opt, ↓two, ↓resO, ↓S.get, ↓S.put, ↓S.put?, ↓asgT, ↓asgTs, ↓RX.dat, ↓obind_eq, ↓omap_eq, and_merge, or_merge, and_mergeB, or_mergeB, isiD, cmpD, lenD, binD, idxD, biD, nonD, atI_0, atI_1, atI_2, List.length_cons, List.length_nil, List.map_cons, List.map_nil, List.append_eq, List.cons_append, List.nil_append, List.getElem?_cons_zero, List.getElem?_cons_succ, List.getElem?_nil, List.mapM_cons, List.mapM_nil, Option.pure_def, Option.bind_eq_bind, id_eq, Bool.false_eq_true, List.foldl_cons, List.foldl_nil, ↓frzS, zs, e4, q1, q2, hL]) ?_
  refine ss_cons (s1 := ⟨[v, some (.val (.loc n)), some (.val (.tup [.tup ts, .tup ks, .int dp])), some (.own (xs ++ [y] ++ [z] ++ [.tup [.tup (ts ++ [.tup [.str "zzz", .int 1, .int 0, .int 0, .tup [.tup [.str "work", .int 1]]]]), .tup ks, .int 1]])), b1, some (.val (.tup L)), e], s4⟩) (by simp [runFn_eq, finR_rt, finR_nx, finR_ite, ↓startE, ↓evSs, ↓evS, ↓evX, ↓evL, ↓evOs, ↓evBs, ↓evP, ↓evI, ↓asO_pk, ↓asO_var, ↓asO_con, ↓asO_glb, ↓asO_bin, ↓asO_neg, ↓asO_ife, ↓asO_tup, ↓asO_lst, ↓asO_idx, ↓asO_slc, ↓asO_rev, ↓asO_call, ↓asO_bi, ↓asO_join, ↓asO_pop, ↓asO_sset, ↓asO_cmp, ↓Res.bind, ↓asB, ↓asI, ↓asS, ↓asD, ↓Res.opt, ↓two, ↓resO, ↓S.get, ↓S.put, ↓S.put?, ↓asgT, ↓asgTs, ↓RX.dat, ↓obind_eq, ↓omap_eq, and_merge, or_merge, and_mergeB, or_mergeB, isiD, cmpD, lenD, binD, idxD, biD, nonD, atI_0, atI_1, atI_2, List.length_cons, List.length_nil, List.map_cons, List.map_nil, List.append_eq, List.cons_append, List.nil_append, List.getElem?_cons_zero, List.getElem?_cons_succ, List.getElem?_nil, List.mapM_cons, List.mapM_nil, Option.pure_def, Option.bind_eq_bind, id_eq, Bool.false_eq_true, List.foldl_cons, List.foldl_nil, ↓frzS]) ?_
  refine ss_cons (s1 := ⟨[v, some (.val (.loc n)), some (.val (.tup [.tup ts, .tup ks, .int dp])), some (.own (xs ++ [y] ++ [z] ++ [.tup [.tup (ts ++ [.tup [.str "zzz", .int 1, .int 0, .int 0, .tup [.tup [.str "work", .int 1]]]]), .tup ks, .int 1]] ++ [.tup [.tup [.tup [.str "q", .int 1, .int 0, .int 0, .tup L]], .tup [.tup [.str "x", .int 0], .tup [.str "y", .int 9]], .int 3]])), b1, some (.val (.tup L)), e], s4⟩) (by simp [runFn_eq, finR_rt, finR_nx, finR_ite, ↓startE, ↓evSs, ↓evS, ↓evX, ↓evL, ↓evOs, ↓evBs, ↓evP, ↓evI, ↓asO_pk, ↓asO_var, ↓asO_con, ↓asO_glb, ↓asO_bin, ↓asO_neg, ↓asO_ife, ↓asO_tup, ↓asO_lst, ↓asO_idx, ↓asO_slc, ↓asO_rev, ↓asO_call, ↓asO_bi, ↓asO_join, ↓asO_pop, ↓asO_sset, ↓asO_cmp, ↓Res.bind, ↓asB, ↓asI, ↓asS, ↓asD, ↓Res.opt, ↓two, ↓resO, ↓S.get, ↓S.put, ↓S.put?, ↓asgT, ↓asgTs, ↓RX.dat, ↓obind_eq, ↓omap_eq, and_merge, or_merge, and_mergeB, or_mergeB, isiD, cmpD, lenD, binD, idxD, biD, nonD, atI_0, atI_1, atI_2, List.length_cons, List.length_nil, List.map_cons, List.map_nil, List.append_eq, List.cons_append, List.nil_append, List.getElem?_cons_zero, List.getElem?_cons_succ, List.getElem?_nil, List.mapM_cons, List.mapM_nil, Option.pure_def, Option.bind_eq_bind, id_eq, Bool.false_eq_true, List.foldl_cons, List.foldl_nil, ↓frzS, lstSlot, l4, zs]) ?_
  refine ss_cons (s1 := ⟨[v, some (.val (.loc n)), some (.val (.tup [.tup ts, .tup ks, .int dp])), some (.val (.lst (xs ++ [y] ++ [z] ++ [.tup [.tup (ts ++ [.tup [.str "zzz", .int 1, .int 0, .int 0, .tup [.tup [.str "work", .int 1]]]]), .tup ks, .int 1]] ++ [.tup [.tup [.tup [.str "q", .int 1, .int 0, .int 0, .tup L]], .tup [.tup [.str "x", .int 0], .tup [.str "y", .int 9]], .int 3]]))), b1, some (.val (.tup L)), e], s4⟩) (by simp [runFn_eq, finR_rt, finR_nx, finR_ite, ↓startE, ↓evSs, ↓evS, ↓evX, ↓evL, ↓evOs, ↓evBs, ↓evP, ↓evI, ↓asO_pk, ↓asO_var, ↓asO_con, ↓asO_glb, ↓asO_bin, ↓asO_neg, ↓asO_ife, ↓asO_tup, ↓asO_lst, ↓asO_idx, ↓asO_slc, ↓asO_rev, ↓asO_call, ↓asO_bi, ↓asO_join, ↓asO_pop, ↓asO_sset, ↓asO_cmp, ↓Res.bind, ↓asB, ↓asI, ↓asS, ↓asD, ↓Res.opt, ↓two, ↓resO, ↓S.get, ↓S.put, ↓S.put?, ↓asgT, ↓asgTs, ↓RX.dat, ↓obind_eq, ↓omap_eq, and_merge, or_merge, and_mergeB, or_mergeB, isiD, cmpD, lenD, binD, idxD, biD, nonD, atI_0, atI_1, atI_2, List.length_cons, List.length_nil, List.map_cons, List.map_nil, List.append_eq, List.cons_append, List.nil_append, List.getElem?_cons_zero, List.getElem?_cons_succ, List.getElem?_nil, List.mapM_cons, List.mapM_nil, Option.pure_def, Option.bind_eq_bind, id_eq, Bool.false_eq_true, List.foldl_cons, List.foldl_nil, ↓frzS]) ?_
  exact ss_cons hf2 rfl
end
end DE
end

section
set_option Elab.async false
set_option linter.all false
set_option maxRecDepth 100000
set_option maxHeartbeats 4000000
namespace DE
open PySem L2
section
variable {C : Ctx} {i_b i_k i_c i_t i_s i_i i_l : Nat}
theorem law_loop (hk : HKer C i_k) (hc : ∀ d ≤ 10, HChd C i_c d) (ht : HK C i_t) (hs : HSame C i_s) (hi : HKn C i_i) (hl : HKn C i_l) {v : Option Slot} {cnt : Nat} : ∀ (j : Nat) (w a b c d e : Option Slot) (st : Store), j ≤ cnt → (∀ i, cnt - j ≤ i → i < cnt → Bag st i (2 ^ 61)) →
    ∃ w' a' b' c' d' e' st', forL (evSs C (bo_law_2 i_b i_k i_c i_t i_s i_i i_l)) (fun x s => asgT (.name 1) (.d x) s) ((List.range' (cnt - j) j).map D.loc) ⟨[v, w, a, b, c, d, e], st⟩ = .ok .nx ⟨[v, w', a', b', c', d', e'], st'⟩
  | 0, w, a, b, c, d, e, st, _, _ => ⟨w, a, b, c, d, e, st, rfl⟩
  | j + 1, w, a, b, c, d, e, st, hj, hb => by
    obtain ⟨a1, b1, c1, d1, e1, s1, q1, nx⟩ := law_turn (i_b := i_b) (v := v) (a := a) (b := b) (c := c) (d := d) (e := e) (n := cnt - (j + 1)) (m := 0) hk hc ht hs hi hl ((hb (cnt - (j + 1)) (by omega) (by omega)).le (by omega))
    obtain ⟨w', a', b', c', d', e', st', q2⟩ := law_loop hk hc ht hs hi hl (v := v) (cnt := cnt) j (some (.val (.loc (cnt - (j + 1))))) a1 b1 c1 d1 e1 s1 (by omega) (fun i h1 h2 => by
      obtain ⟨x, y, z, f1, f2, f3⟩ := hb i (by omega) h2
      exact ⟨x, y, z, by rw [nx.oth i (by omega)]; exact f1, f2, f3⟩)
    refine ⟨w', a', b', c', d', e', st', ?_⟩
    have ea : asgT (.name 1) (.d (.loc (cnt - (j + 1)))) ⟨[v, w, a, b, c, d, e], st⟩ = some ⟨[v, some (.val (.loc (cnt - (j + 1)))), a, b, c, d, e], st⟩ := rfl
    rw [List.range'_succ, List.map_cons]
    unfold forL
    simp only [ea, opt_some, bind_ok, q1]
    rw [show cnt - (j + 1) + 1 = cnt - j by omega]
    exact q2
theorem law_all (hb : HBags C i_b) (hk : HKer C i_k) (hc : ∀ d ≤ 10, HChd C i_c d) (ht : HK C i_t) (hs : HSame C i_s) (hi : HKn C i_i) (hl : HKn C i_l) {ns : List Int} (h : ns.length ≤ 63) :
    ∃ st, runFn C (fn_law i_b i_k i_c i_t i_s i_i i_l) [.scr (ns.map D.int)] [] = some (.bl true, st) := by
  obtain ⟨cnt, s1, e1, l1, _, b1⟩ := hb ns 8 [] h (by omega)
  obtain ⟨w', a', b', c', d', e', st', q⟩ := law_loop (i_b := i_b) hk hc ht hs hi hl (v := some (.val (.scr (ns.map D.int)))) (cnt := cnt) cnt none none none none none none s1 (Nat.le_refl _) (fun i h1 h2 => b1 i (by simp) (by simpa using h2))
  have e2 : ((List.range cnt).map fun j => D.loc (([] : Store).length + j)) = (List.range' (cnt - cnt) cnt).map D.loc := by
    rw [Nat.sub_self, ← List.range_eq_range']
    simp
  rw [e2] at e1
  refine ⟨st', ?_⟩
  have hf : evS C (fo_law_2 i_b i_k i_c i_t i_s i_i i_l) ⟨[some (.val (.scr (ns.map D.int))), none, none, none, none, none, none], []⟩ = .ok .nx ⟨[some (.val (.scr (ns.map D.int))), w', a', b', c', d', e'], st'⟩ := by
    unfold fo_law_2
    refine (ev_for (s1 := ⟨[some (.val (.scr (ns.map D.int))), none, none, none, none, none, none], s1⟩) (xs := (List.range' (cnt - cnt) cnt).map D.loc) ?_).trans q
  
    have e1b : C.call i_b [.scr (ns.map D.int), .int 8] [] = some (.lst ((List.range' (cnt - cnt) cnt).map D.loc), s1) := e1
    simp [runFn_eq, finR_rt, finR_nx, finR_ite, ↓startE, ↓evSs, ↓evS, ↓evX, ↓evL, ↓evOs, ↓evBs, ↓evP, ↓evI, ↓asO_pk, ↓asO_var, ↓asO_con, ↓asO_glb, ↓asO_bin, ↓asO_neg, ↓asO_ife, ↓asO_tup, ↓asO_lst, ↓asO_idx, ↓asO_slc, ↓asO_rev, ↓asO_call, ↓asO_bi, ↓asO_join, ↓asO_pop, ↓asO_sset, ↓asO_cmp, ↓Res.bind, ↓asB, ↓asI, ↓asS, ↓asD, ↓Res.opt, ↓two, ↓resO, ↓S.get, ↓S.put, ↓S.put?, ↓asgT, ↓asgTs, ↓RX.dat, ↓obind_eq, ↓omap_eq, and_merge, or_merge, and_mergeB, or_mergeB, isiD, cmpD, lenD, binD, idxD, biD, nonD, atI_0, atI_1, atI_2, List.length_cons, List.length_nil, List.map_cons, List.map_nil, List.append_eq, List.cons_append, List.nil_append, List.getElem?_cons_zero, List.getElem?_cons_succ, List.getElem?_nil, List.mapM_cons, List.mapM_nil, Option.pure_def, Option.bind_eq_bind, id_eq, Bool.false_eq_true, List.foldl_cons, List.foldl_nil, ↓frzS, e1b, seqD]
  simp [fn_law, runFn_eq, finR_rt, finR_nx, finR_ite, ↓startE, ↓evSs, ↓evS, ↓evX, ↓evL, ↓evOs, ↓evBs, ↓evP, ↓evI, ↓asO_pk, ↓asO_var, ↓asO_con, ↓asO_glb, ↓asO_bin, ↓asO_neg, ↓asO_ife, ↓asO_tup, ↓asO_lst, ↓asO_idx, ↓asO_slc, ↓asO_rev, ↓asO_call, ↓asO_bi, ↓asO_join, ↓asO_pop, ↓asO_sset, ↓asO_cmp, ↓Res.bind, ↓asB, ↓asI, ↓asS, ↓asD, ↓Res.opt, ↓two, ↓resO, ↓S.get, ↓S.put, ↓S.put?, ↓asgT, ↓asgTs, ↓RX.dat, ↓obind_eq, ↓omap_eq, and_merge, or_merge, and_mergeB, or_mergeB, isiD, cmpD, lenD, binD, idxD, biD, nonD, atI_0, atI_1, atI_2, List.length_cons, List.length_nil, List.map_cons, List.map_nil, List.append_eq, List.cons_append, List.nil_append, List.getElem?_cons_zero, List.getElem?_cons_succ, List.getElem?_nil, List.mapM_cons, List.mapM_nil, Option.pure_def, Option.bind_eq_bind, id_eq, Bool.false_eq_true, List.foldl_cons, List.foldl_nil, ↓frzS, hf]
end
end DE
end

section
set_option Elab.async false
set_option linter.all false
set_option maxRecDepth 100000
set_option maxHeartbeats 4000000
namespace DE
open PySem L2
theorem up {f k i : Nat} {fn : Fn} {ds : List D} {st : Store} (h : T[i]? = some fn) : (Ctx.mk (callK T f (k + 1)) f).call i ds st = runFn ⟨callK T f k, f⟩ fn ds st := by
  show callK T f (k + 1) i ds st = _
  unfold callK
  rw [h]
section
variable {f k : Nat}
theorem w0 : HW ⟨callK T f (k + 1), f⟩ 0 := fun x lo hi st h => (up rfl).trans (is_within_ok h)
theorem w18 : HW ⟨callK T f (k + 1), f⟩ 18 := fun x lo hi st h => (up rfl).trans (law_within_ok h)
theorem w1 : HN ⟨callK T f (k + 1), f⟩ 1 := fun x st h => (up rfl).trans (is_name_fit h)
theorem w2 : HR ⟨callK T f (k + 1), f⟩ 2 := fun ns st h => (up rfl).trans (rises_ok h)
theorem w3 : HS ⟨callK T f (k + 2), f⟩ 3 := fun x ns ls st h => (up rfl).trans (is_step_ok w0 (fit_py h))
theorem w4 : HE ⟨callK T f (k + 1), f⟩ 4 := fun xs st h hl => (up rfl).trans (is_even_ok h hl)
theorem w5 : HT' ⟨callK T f (k + 3), f⟩ 5 := fun x ns ls st h => (up rfl).trans (is_task_ok w1 w0 w3 w4 h)
theorem w6 : HL ⟨callK T f (k + 2), f⟩ 6 := fun x st h => (up rfl).trans (is_lock_ok w1 w0 h)
theorem w7 : HI ⟨callK T f (k + 2), f⟩ 7 := fun x most st h hm => (up rfl).trans (names_in_ok w1 w2 h hm)
theorem w8 : HKn ⟨callK T f (k + 4), f⟩ 8 := fun x st h => (up rfl).trans (is_kernel_ok w0 w7 w6 w5 h)
theorem w9 : HWell ⟨callK T f (k + 1), f⟩ 9 := fun c t st => by
  obtain ⟨a, b, h⟩ := well_ok (C := ⟨callK T f k, f⟩) (c := c) (t := t) (st := st)
  exact ⟨a, b, (up rfl).trans h⟩
theorem w10 : HK ⟨callK T f (k + 1), f⟩ 10 := fun st n m many hb h1 h2 => by
  obtain ⟨r, st', h, q⟩ := take_ok (C := ⟨callK T f k, f⟩) hb h1 h2
  exact ⟨r, st', (up rfl).trans h, q⟩
theorem w11 : HBags ⟨callK T f (k + 2), f⟩ 11 := fun ns most st h1 h2 => by
  obtain ⟨cnt, st', h, q⟩ := bags_ok (C := ⟨callK T f (k + 1), f⟩) (st := st) w9 h1 h2
  exact ⟨cnt, st', (up rfl).trans h, q⟩
theorem w12 : HSame ⟨callK T f (k + 1), f⟩ 12 := fun x y st => (up rfl).trans same_bl
theorem w13 : HM ⟨callK T f (k + 2), f⟩ 13 := fun st n m hb => by
  obtain ⟨z, st', h, q⟩ := name_ok (C := ⟨callK T f (k + 1), f⟩) w10 hb
  exact ⟨z, st', (up rfl).trans h, q⟩
theorem w14 : HMs ⟨callK T f (k + 3), f⟩ 14 := fun st n m many h6 hb => by
  obtain ⟨ns, st', h, q⟩ := names_ok (C := ⟨callK T f (k + 2), f⟩) w13 h6 hb
  exact ⟨ns, st', (up rfl).trans h, q⟩
theorem w15 : HC ⟨callK T f (k + 2), f⟩ 15 := fun st n m ls rs sm h1 h2 h3 hb => by
  obtain ⟨cs, st', h, q⟩ := code_ok (C := ⟨callK T f (k + 1), f⟩) w10 h1 h2 h3 hb
  exact ⟨cs, st', (up rfl).trans h, q⟩
theorem w16 : HTo ⟨callK T f (k + 1), f⟩ 16 := fun ts ls st h1 h2 h3 => by
  obtain ⟨ps, h, q⟩ := tops_ok (C := ⟨callK T f k, f⟩) (st := st) h1 h2 h3
  exact ⟨ps, (up rfl).trans h, q⟩
theorem w17 : HKer ⟨callK T f (k + 4), f⟩ 17 := fun st n m most sm op le un h1 h2 hb => by
  obtain ⟨ns, ps, ls, ts, dp, st', h, q⟩ := kernel_ok (C := ⟨callK T f (k + 3), f⟩) (sm := sm) (op := op) (le := le) (un := un) w14 w10 w15 w16 h1 h2 hb
  exact ⟨ns, ps, ls, ts, dp, st', (up rfl).trans h, q⟩
theorem w19 : HN ⟨callK T f (k + 1), f⟩ 19 := fun x st h => (up rfl).trans (law_is_name_ok h)
theorem w20 : HE ⟨callK T f (k + 1), f⟩ 20 := fun xs st h hl => (up rfl).trans (law_even_ok h hl)
theorem w21 : HS ⟨callK T f (k + 2), f⟩ 21 := fun x ns ls st h => (up rfl).trans (law_is_step_ok w18 (fit_py h))
theorem w22 : HO' ⟨callK T f (k + 2), f⟩ 22 := fun x most size st h h1 h2 => (up rfl).trans (law_names_of_ok w19 h h1 h2)
theorem w23 : HKn ⟨callK T f (k + 3), f⟩ 23 := fun x st h => by
  have := (up (i := 23) rfl).trans (law_is_kernel_ok (C := ⟨callK T f (k + 2), f⟩) (st := st) w18 w22 w21 w20 h)
  rw [kernel_eq] at this
  exact this
theorem w24 : ∀ (d k : Nat), HChd ⟨callK T f (k + d + 2), f⟩ 24 d
  | 0, k => fun st n m N x h1 h2 hx hb => by
    obtain ⟨y, st', h, q⟩ := changed_ok (C := ⟨callK T f (k + 1), f⟩) (i_c := 24) w10 (fun d' e => by cases e) h1 h2 hx hb
    exact ⟨y, st', (up rfl).trans h, q⟩
  | d + 1, k => fun st n m N x h1 h2 hx hb => by
    obtain ⟨y, st', h, q⟩ := changed_ok (C := ⟨callK T f (k + d + 2), f⟩) (i_c := 24) w10 (fun d' e => by cases e; exact w24 d k) h1 h2 hx hb
    exact ⟨y, st', (up rfl).trans h, q⟩
end
theorem law_holds (ns : List Int) (h : ns.length ≤ 63) : ∃ st, callK T 0 20 25 [.scr (ns.map D.int)] [] = some (.bl true, st) := by
  obtain ⟨st, q⟩ := law_all (C := ⟨callK T 0 19, 0⟩) (i_b := 11) (i_k := 17) (i_c := 24) (i_t := 10) (i_s := 12) (i_i := 8) (i_l := 23) w11 w17 (fun d hd => by
    have := w24 (f := 0) d (17 - d)
    rw [show 17 - d + d + 2 = 19 by omega] at this
    exact this) w10 w12 w8 w23 h
  exact ⟨st, (up (k := 19) (i := 25) rfl).trans q⟩
end DE
end

set_option Elab.async false
set_option linter.all false
set_option maxRecDepth 100000
set_option maxHeartbeats 8000000
namespace DE
open PySem L2
theorem lookup_mem {α β : Type} [BEq α] [LawfulBEq α] : ∀ {l : List (α × β)} {x : α} {d : β}, l.lookup x = some d → (x, d) ∈ l
  | [], x, d, h => by simp at h
  | (y, e) :: r, x, d, h => by
    rw [List.lookup_cons] at h
    split at h
    · rename_i q
      cases h
      have := eq_of_beq q
      subst this
      simp
    · exact List.mem_cons_of_mem _ (lookup_mem h)
end DE
namespace DE
open PySem L2
theorem all_mk {l : PySem.W.OpenLaw} {w : World} {K : PySem.W.Frag} {h : Heap} {mg : Str → Option Value} {fa : Addr} (X : K.In h) (G : h.Ns mainGlobals mg) (hfa : mg "law" = some (.ref fa))
    {f0 : Addr} {od0 an0 : Option Addr} {sl0 : Array (Option Value)} {oc0 kV0 dc0 pm0 cd0 ct0 : Value}
    (a0 : PySem.W.nsIn K mainGlobals "is_within" = some (some (.ref f0))) (l0 : K.lookup f0 = some ⟨oc0, od0, .func (PySem.W.fnOf "is_within" "is_within" (defArgs (top 11)) (defBody (top 11)) (defScope (top 11)) .none kV0 dc0 pm0 an0 cd0 ct0), sl0⟩) (c0 : PySem.W.codeIn K cd0 "is_within" = true) (k0 : PySem.W.keepIn K (.ref f0) = true)
    {f1 : Addr} {od1 an1 : Option Addr} {sl1 : Array (Option Value)} {oc1 kV1 dc1 pm1 cd1 ct1 : Value}
    (a1 : PySem.W.nsIn K mainGlobals "is_name" = some (some (.ref f1))) (l1 : K.lookup f1 = some ⟨oc1, od1, .func (PySem.W.fnOf "is_name" "is_name" (defArgs (top 12)) (defBody (top 12)) (defScope (top 12)) .none kV1 dc1 pm1 an1 cd1 ct1), sl1⟩) (c1 : PySem.W.codeIn K cd1 "is_name" = true) (k1 : PySem.W.keepIn K (.ref f1) = true)
    {f2 : Addr} {od2 an2 : Option Addr} {sl2 : Array (Option Value)} {oc2 kV2 dc2 pm2 cd2 ct2 : Value}
    (a2 : PySem.W.nsIn K mainGlobals "rises" = some (some (.ref f2))) (l2 : K.lookup f2 = some ⟨oc2, od2, .func (PySem.W.fnOf "rises" "rises" (defArgs (top 13)) (defBody (top 13)) (defScope (top 13)) .none kV2 dc2 pm2 an2 cd2 ct2), sl2⟩) (c2 : PySem.W.codeIn K cd2 "rises" = true) (k2 : PySem.W.keepIn K (.ref f2) = true)
    {f3 : Addr} {od3 an3 : Option Addr} {sl3 : Array (Option Value)} {oc3 kV3 dc3 pm3 cd3 ct3 : Value}
    (a3 : PySem.W.nsIn K mainGlobals "is_step" = some (some (.ref f3))) (l3 : K.lookup f3 = some ⟨oc3, od3, .func (PySem.W.fnOf "is_step" "is_step" (defArgs (top 14)) (defBody (top 14)) (defScope (top 14)) .none kV3 dc3 pm3 an3 cd3 ct3), sl3⟩) (c3 : PySem.W.codeIn K cd3 "is_step" = true) (k3 : PySem.W.keepIn K (.ref f3) = true)
    {f4 : Addr} {od4 an4 : Option Addr} {sl4 : Array (Option Value)} {oc4 kV4 dc4 pm4 cd4 ct4 : Value}
    (a4 : PySem.W.nsIn K mainGlobals "is_even" = some (some (.ref f4))) (l4 : K.lookup f4 = some ⟨oc4, od4, .func (PySem.W.fnOf "is_even" "is_even" (defArgs (top 15)) (defBody (top 15)) (defScope (top 15)) .none kV4 dc4 pm4 an4 cd4 ct4), sl4⟩) (c4 : PySem.W.codeIn K cd4 "is_even" = true) (k4 : PySem.W.keepIn K (.ref f4) = true)
    {f5 : Addr} {od5 an5 : Option Addr} {sl5 : Array (Option Value)} {oc5 kV5 dc5 pm5 cd5 ct5 : Value}
    (a5 : PySem.W.nsIn K mainGlobals "is_task" = some (some (.ref f5))) (l5 : K.lookup f5 = some ⟨oc5, od5, .func (PySem.W.fnOf "is_task" "is_task" (defArgs (top 16)) (defBody (top 16)) (defScope (top 16)) .none kV5 dc5 pm5 an5 cd5 ct5), sl5⟩) (c5 : PySem.W.codeIn K cd5 "is_task" = true) (k5 : PySem.W.keepIn K (.ref f5) = true)
    {f6 : Addr} {od6 an6 : Option Addr} {sl6 : Array (Option Value)} {oc6 kV6 dc6 pm6 cd6 ct6 : Value}
    (a6 : PySem.W.nsIn K mainGlobals "is_lock" = some (some (.ref f6))) (l6 : K.lookup f6 = some ⟨oc6, od6, .func (PySem.W.fnOf "is_lock" "is_lock" (defArgs (top 17)) (defBody (top 17)) (defScope (top 17)) .none kV6 dc6 pm6 an6 cd6 ct6), sl6⟩) (c6 : PySem.W.codeIn K cd6 "is_lock" = true) (k6 : PySem.W.keepIn K (.ref f6) = true)
    {f7 : Addr} {od7 an7 : Option Addr} {sl7 : Array (Option Value)} {oc7 kV7 dc7 pm7 cd7 ct7 : Value}
    (a7 : PySem.W.nsIn K mainGlobals "names_in" = some (some (.ref f7))) (l7 : K.lookup f7 = some ⟨oc7, od7, .func (PySem.W.fnOf "names_in" "names_in" (defArgs (top 18)) (defBody (top 18)) (defScope (top 18)) .none kV7 dc7 pm7 an7 cd7 ct7), sl7⟩) (c7 : PySem.W.codeIn K cd7 "names_in" = true) (k7 : PySem.W.keepIn K (.ref f7) = true)
    {f8 : Addr} {od8 an8 : Option Addr} {sl8 : Array (Option Value)} {oc8 kV8 dc8 pm8 cd8 ct8 : Value}
    (a8 : PySem.W.nsIn K mainGlobals "is_kernel" = some (some (.ref f8))) (l8 : K.lookup f8 = some ⟨oc8, od8, .func (PySem.W.fnOf "is_kernel" "is_kernel" (defArgs (top 19)) (defBody (top 19)) (defScope (top 19)) .none kV8 dc8 pm8 an8 cd8 ct8), sl8⟩) (c8 : PySem.W.codeIn K cd8 "is_kernel" = true) (k8 : PySem.W.keepIn K (.ref f8) = true)
    {f9 : Addr} {od9 an9 : Option Addr} {sl9 : Array (Option Value)} {oc9 kV9 dc9 pm9 cd9 ct9 : Value}
    (a9 : PySem.W.nsIn K mainGlobals "_law_well" = some (some (.ref f9))) (l9 : K.lookup f9 = some ⟨oc9, od9, .func (PySem.W.fnOf "_law_well" "_law_well" (defArgs (top 21)) (defBody (top 21)) (defScope (top 21)) .none kV9 dc9 pm9 an9 cd9 ct9), sl9⟩) (c9 : PySem.W.codeIn K cd9 "_law_well" = true) (k9 : PySem.W.keepIn K (.ref f9) = true)
    {f10 : Addr} {od10 an10 : Option Addr} {sl10 : Array (Option Value)} {oc10 kV10 dc10 pm10 cd10 ct10 : Value}
    (a10 : PySem.W.nsIn K mainGlobals "_law_take" = some (some (.ref f10))) (l10 : K.lookup f10 = some ⟨oc10, od10, .func (PySem.W.fnOf "_law_take" "_law_take" (defArgs (top 22)) (defBody (top 22)) (defScope (top 22)) .none kV10 dc10 pm10 an10 cd10 ct10), sl10⟩) (c10 : PySem.W.codeIn K cd10 "_law_take" = true) (k10 : PySem.W.keepIn K (.ref f10) = true)
    {f11 : Addr} {od11 an11 : Option Addr} {sl11 : Array (Option Value)} {oc11 kV11 dc11 pm11 cd11 ct11 : Value}
    (a11 : PySem.W.nsIn K mainGlobals "_law_bags" = some (some (.ref f11))) (l11 : K.lookup f11 = some ⟨oc11, od11, .func (PySem.W.fnOf "_law_bags" "_law_bags" (defArgs (top 23)) (defBody (top 23)) (defScope (top 23)) .none kV11 dc11 pm11 an11 cd11 ct11), sl11⟩) (c11 : PySem.W.codeIn K cd11 "_law_bags" = true) (k11 : PySem.W.keepIn K (.ref f11) = true)
    {f12 : Addr} {od12 an12 : Option Addr} {sl12 : Array (Option Value)} {oc12 kV12 dc12 pm12 cd12 ct12 : Value}
    (a12 : PySem.W.nsIn K mainGlobals "_law_same" = some (some (.ref f12))) (l12 : K.lookup f12 = some ⟨oc12, od12, .func (PySem.W.fnOf "_law_same" "_law_same" (defArgs (top 24)) (defBody (top 24)) (defScope (top 24)) .none kV12 dc12 pm12 an12 cd12 ct12), sl12⟩) (c12 : PySem.W.codeIn K cd12 "_law_same" = true) (k12 : PySem.W.keepIn K (.ref f12) = true)
    {f13 : Addr} {od13 an13 : Option Addr} {sl13 : Array (Option Value)} {oc13 kV13 dc13 pm13 cd13 ct13 : Value}
    (a13 : PySem.W.nsIn K mainGlobals "_law_name" = some (some (.ref f13))) (l13 : K.lookup f13 = some ⟨oc13, od13, .func (PySem.W.fnOf "_law_name" "_law_name" (defArgs (top 25)) (defBody (top 25)) (defScope (top 25)) .none kV13 dc13 pm13 an13 cd13 ct13), sl13⟩) (c13 : PySem.W.codeIn K cd13 "_law_name" = true) (k13 : PySem.W.keepIn K (.ref f13) = true)
    {f14 : Addr} {od14 an14 : Option Addr} {sl14 : Array (Option Value)} {oc14 kV14 dc14 pm14 cd14 ct14 : Value}
    (a14 : PySem.W.nsIn K mainGlobals "_law_some_names" = some (some (.ref f14))) (l14 : K.lookup f14 = some ⟨oc14, od14, .func (PySem.W.fnOf "_law_some_names" "_law_some_names" (defArgs (top 26)) (defBody (top 26)) (defScope (top 26)) .none kV14 dc14 pm14 an14 cd14 ct14), sl14⟩) (c14 : PySem.W.codeIn K cd14 "_law_some_names" = true) (k14 : PySem.W.keepIn K (.ref f14) = true)
    {f15 : Addr} {od15 an15 : Option Addr} {sl15 : Array (Option Value)} {oc15 kV15 dc15 pm15 cd15 ct15 : Value}
    (a15 : PySem.W.nsIn K mainGlobals "_law_code" = some (some (.ref f15))) (l15 : K.lookup f15 = some ⟨oc15, od15, .func (PySem.W.fnOf "_law_code" "_law_code" (defArgs (top 27)) (defBody (top 27)) (defScope (top 27)) .none kV15 dc15 pm15 an15 cd15 ct15), sl15⟩) (c15 : PySem.W.codeIn K cd15 "_law_code" = true) (k15 : PySem.W.keepIn K (.ref f15) = true)
    {f16 : Addr} {od16 an16 : Option Addr} {sl16 : Array (Option Value)} {oc16 kV16 dc16 pm16 cd16 ct16 : Value}
    (a16 : PySem.W.nsIn K mainGlobals "_law_tops" = some (some (.ref f16))) (l16 : K.lookup f16 = some ⟨oc16, od16, .func (PySem.W.fnOf "_law_tops" "_law_tops" (defArgs (top 28)) (defBody (top 28)) (defScope (top 28)) .none kV16 dc16 pm16 an16 cd16 ct16), sl16⟩) (c16 : PySem.W.codeIn K cd16 "_law_tops" = true) (k16 : PySem.W.keepIn K (.ref f16) = true)
    {f17 : Addr} {od17 an17 : Option Addr} {sl17 : Array (Option Value)} {oc17 kV17 dc17 pm17 cd17 ct17 : Value}
    (a17 : PySem.W.nsIn K mainGlobals "_law_kernel" = some (some (.ref f17))) (l17 : K.lookup f17 = some ⟨oc17, od17, .func (PySem.W.fnOf "_law_kernel" "_law_kernel" (defArgs (top 29)) (defBody (top 29)) (defScope (top 29)) .none kV17 dc17 pm17 an17 cd17 ct17), sl17⟩) (c17 : PySem.W.codeIn K cd17 "_law_kernel" = true) (k17 : PySem.W.keepIn K (.ref f17) = true)
    {f18 : Addr} {od18 an18 : Option Addr} {sl18 : Array (Option Value)} {oc18 kV18 dc18 pm18 cd18 ct18 : Value}
    (a18 : PySem.W.nsIn K mainGlobals "_law_within" = some (some (.ref f18))) (l18 : K.lookup f18 = some ⟨oc18, od18, .func (PySem.W.fnOf "_law_within" "_law_within" (defArgs (top 30)) (defBody (top 30)) (defScope (top 30)) .none kV18 dc18 pm18 an18 cd18 ct18), sl18⟩) (c18 : PySem.W.codeIn K cd18 "_law_within" = true) (k18 : PySem.W.keepIn K (.ref f18) = true)
    {f19 : Addr} {od19 an19 : Option Addr} {sl19 : Array (Option Value)} {oc19 kV19 dc19 pm19 cd19 ct19 : Value}
    (a19 : PySem.W.nsIn K mainGlobals "_law_is_name" = some (some (.ref f19))) (l19 : K.lookup f19 = some ⟨oc19, od19, .func (PySem.W.fnOf "_law_is_name" "_law_is_name" (defArgs (top 31)) (defBody (top 31)) (defScope (top 31)) .none kV19 dc19 pm19 an19 cd19 ct19), sl19⟩) (c19 : PySem.W.codeIn K cd19 "_law_is_name" = true) (k19 : PySem.W.keepIn K (.ref f19) = true)
    {f20 : Addr} {od20 an20 : Option Addr} {sl20 : Array (Option Value)} {oc20 kV20 dc20 pm20 cd20 ct20 : Value}
    (a20 : PySem.W.nsIn K mainGlobals "_law_even" = some (some (.ref f20))) (l20 : K.lookup f20 = some ⟨oc20, od20, .func (PySem.W.fnOf "_law_even" "_law_even" (defArgs (top 32)) (defBody (top 32)) (defScope (top 32)) .none kV20 dc20 pm20 an20 cd20 ct20), sl20⟩) (c20 : PySem.W.codeIn K cd20 "_law_even" = true) (k20 : PySem.W.keepIn K (.ref f20) = true)
    {f21 : Addr} {od21 an21 : Option Addr} {sl21 : Array (Option Value)} {oc21 kV21 dc21 pm21 cd21 ct21 : Value}
    (a21 : PySem.W.nsIn K mainGlobals "_law_is_step" = some (some (.ref f21))) (l21 : K.lookup f21 = some ⟨oc21, od21, .func (PySem.W.fnOf "_law_is_step" "_law_is_step" (defArgs (top 33)) (defBody (top 33)) (defScope (top 33)) .none kV21 dc21 pm21 an21 cd21 ct21), sl21⟩) (c21 : PySem.W.codeIn K cd21 "_law_is_step" = true) (k21 : PySem.W.keepIn K (.ref f21) = true)
    {f22 : Addr} {od22 an22 : Option Addr} {sl22 : Array (Option Value)} {oc22 kV22 dc22 pm22 cd22 ct22 : Value}
    (a22 : PySem.W.nsIn K mainGlobals "_law_names_of" = some (some (.ref f22))) (l22 : K.lookup f22 = some ⟨oc22, od22, .func (PySem.W.fnOf "_law_names_of" "_law_names_of" (defArgs (top 34)) (defBody (top 34)) (defScope (top 34)) .none kV22 dc22 pm22 an22 cd22 ct22), sl22⟩) (c22 : PySem.W.codeIn K cd22 "_law_names_of" = true) (k22 : PySem.W.keepIn K (.ref f22) = true)
    {f23 : Addr} {od23 an23 : Option Addr} {sl23 : Array (Option Value)} {oc23 kV23 dc23 pm23 cd23 ct23 : Value}
    (a23 : PySem.W.nsIn K mainGlobals "_law_is_kernel" = some (some (.ref f23))) (l23 : K.lookup f23 = some ⟨oc23, od23, .func (PySem.W.fnOf "_law_is_kernel" "_law_is_kernel" (defArgs (top 35)) (defBody (top 35)) (defScope (top 35)) .none kV23 dc23 pm23 an23 cd23 ct23), sl23⟩) (c23 : PySem.W.codeIn K cd23 "_law_is_kernel" = true) (k23 : PySem.W.keepIn K (.ref f23) = true)
    {f24 : Addr} {od24 an24 : Option Addr} {sl24 : Array (Option Value)} {oc24 kV24 dc24 pm24 cd24 ct24 : Value}
    (a24 : PySem.W.nsIn K mainGlobals "_law_changed" = some (some (.ref f24))) (l24 : K.lookup f24 = some ⟨oc24, od24, .func (PySem.W.fnOf "_law_changed" "_law_changed" (defArgs (top 36)) (defBody (top 36)) (defScope (top 36)) .none kV24 dc24 pm24 an24 cd24 ct24), sl24⟩) (c24 : PySem.W.codeIn K cd24 "_law_changed" = true) (k24 : PySem.W.keepIn K (.ref f24) = true)
    {f25 : Addr} {od25 an25 : Option Addr} {sl25 : Array (Option Value)} {oc25 kV25 dc25 pm25 cd25 ct25 : Value}
    (a25 : PySem.W.nsIn K mainGlobals "law" = some (some (.ref f25))) (l25 : K.lookup f25 = some ⟨oc25, od25, .func (PySem.W.fnOf "law" "law" (defArgs (top 37)) (defBody (top 37)) (defScope (top 37)) .none kV25 dc25 pm25 an25 cd25 ct25), sl25⟩) (c25 : PySem.W.codeIn K cd25 "law" = true) (k25 : PySem.W.keepIn K (.ref f25) = true)
    {t0 : Tok} (gg0 : PySem.W.nsIn K mainGlobals "LETTERS" = some (some (.str ("abcdefghijklmnopqrstuvwxyz" : PySem.Str) t0)))
    {t1 : Tok} (gg1 : PySem.W.nsIn K mainGlobals "LONGEST_NAME" = some (some (.int 8 t1)))
    {t2 : Tok} (gg2 : PySem.W.nsIn K mainGlobals "MOST_TASKS" = some (some (.int 6 t2)))
    {t3 : Tok} (gg3 : PySem.W.nsIn K mainGlobals "MOST_LEVEL" = some (some (.int 9 t3)))
    {t4 : Tok} (gg4 : PySem.W.nsIn K mainGlobals "MOST_ROOM" = some (some (.int 1000 t4)))
    {t5 : Tok} (gg5 : PySem.W.nsIn K mainGlobals "MOST_GAP" = some (some (.int 1000 t5)))
    {t6 : Tok} (gg6 : PySem.W.nsIn K mainGlobals "MOST_STEPS" = some (some (.int 12 t6)))
    {t7 : Tok} (gg7 : PySem.W.nsIn K mainGlobals "MOST_WORK" = some (some (.int 100 t7)))
    {t8 : Tok} (gg8 : PySem.W.nsIn K mainGlobals "MOST_LOCKS" = some (some (.int 4 t8)))
    {t9 : Tok} (gg9 : PySem.W.nsIn K mainGlobals "MOST_DEPTH" = some (some (.int 3 t9)))
    (zz0 : PySem.W.nsIn K mainGlobals "isinstance" = some none)
    (zz1 : PySem.W.nsIn K mainGlobals "len" = some none)
    (zz2 : PySem.W.nsIn K mainGlobals "max" = some none)
    (zz3 : PySem.W.nsIn K mainGlobals "min" = some none)
    (zz4 : PySem.W.nsIn K mainGlobals "sum" = some none)
    (zz5 : PySem.W.nsIn K mainGlobals "all" = some none)
    (zz6 : PySem.W.nsIn K mainGlobals "any" = some none)
    (zz7 : PySem.W.nsIn K mainGlobals "sorted" = some none)
    (zz8 : PySem.W.nsIn K mainGlobals "tuple" = some none)
    (zz9 : PySem.W.nsIn K mainGlobals "list" = some none)
    (zz10 : PySem.W.nsIn K mainGlobals "int" = some none)
    (zz11 : PySem.W.nsIn K mainGlobals "str" = some none)
    (zz12 : PySem.W.nsIn K mainGlobals "dict" = some none)
    (zz13 : PySem.W.nsIn K mainGlobals "bool" = some none)
    (zz14 : PySem.W.nsIn K mainGlobals "range" = some none)
    (zz15 : PySem.W.nsIn K mainGlobals "enumerate" = some none)
    (zz16 : PySem.W.nsIn K mainGlobals "zip" = some none)
    (zz17 : PySem.W.nsIn K mainGlobals "set" = some none)
    (hl : ∀ ns : List Int, ns.length ≤ 63 → ∃ st, callK T 0 20 25 [.scr (ns.map DE.D.int)] [] = some (.bl true, st)) :
    ∃ fd : FuncData, (∀ (s : Shared) (v : Value), BindsTo s fd ⟨[v], []⟩ [("script", v)]) ∧ ∀ base : Heap, K.In base → base.Ns mainGlobals mg → FnOk l.prog w K mg base CX0 20 fa fd ["script"] (spLaw K) := by
  have e := hfa.symm.trans (PySem.W.mg_of X G a25)
  cases e
  have F0 := fun_mk (st := top 11) l0 c0 k0
  have b0 := F0.binds (ps := ["thing", "low", "high"]) fun _ _ _ _ _ _ us hl => match us, hl with | [_, _, _], _ => rfl
  have D0 : DefOk K mg fns glbs locs "is_within" (top 11) (fn_is_within) := ⟨DE.cd0, DE.sc0, _, _, _, F0, PySem.W.mg_of X G a0, b0⟩
  have F1 := fun_mk (st := top 12) l1 c1 k1
  have b1 := F1.binds (ps := ["thing"]) fun _ _ _ _ _ _ us hl => match us, hl with | [_], _ => rfl
  have D1 : DefOk K mg fns glbs locs "is_name" (top 12) (fn_is_name) := ⟨DE.cd1, DE.sc1, _, _, _, F1, PySem.W.mg_of X G a1, b1⟩
  have F2 := fun_mk (st := top 13) l2 c2 k2
  have b2 := F2.binds (ps := ["some"]) fun _ _ _ _ _ _ us hl => match us, hl with | [_], _ => rfl
  have D2 : DefOk K mg fns glbs locs "rises" (top 13) (fn_rises) := ⟨DE.cd2, DE.sc2, _, _, _, F2, PySem.W.mg_of X G a2, b2⟩
  have F3 := fun_mk (st := top 14) l3 c3 k3
  have b3 := F3.binds (ps := ["thing", "names", "locks"]) fun _ _ _ _ _ _ us hl => match us, hl with | [_, _, _], _ => rfl
  have D3 : DefOk K mg fns glbs locs "is_step" (top 14) ((fn_is_step 0)) := ⟨DE.cd3, DE.sc3, _, _, _, F3, PySem.W.mg_of X G a3, b3⟩
  have F4 := fun_mk (st := top 15) l4 c4 k4
  have b4 := F4.binds (ps := ["code"]) fun _ _ _ _ _ _ us hl => match us, hl with | [_], _ => rfl
  have D4 : DefOk K mg fns glbs locs "is_even" (top 15) (fn_is_even) := ⟨DE.cd4, DE.sc4, _, _, _, F4, PySem.W.mg_of X G a4, b4⟩
  have F5 := fun_mk (st := top 16) l5 c5 k5
  have b5 := F5.binds (ps := ["thing", "names", "locks"]) fun _ _ _ _ _ _ us hl => match us, hl with | [_, _, _], _ => rfl
  have D5 : DefOk K mg fns glbs locs "is_task" (top 16) ((fn_is_task 1 0 3 4)) := ⟨DE.cd5, DE.sc5, _, _, _, F5, PySem.W.mg_of X G a5, b5⟩
  have F6 := fun_mk (st := top 17) l6 c6 k6
  have b6 := F6.binds (ps := ["thing"]) fun _ _ _ _ _ _ us hl => match us, hl with | [_], _ => rfl
  have D6 : DefOk K mg fns glbs locs "is_lock" (top 17) ((fn_is_lock 1 0)) := ⟨DE.cd6, DE.sc6, _, _, _, F6, PySem.W.mg_of X G a6, b6⟩
  have F7 := fun_mk (st := top 18) l7 c7 k7
  have b7 := F7.binds (ps := ["things", "most"]) fun _ _ _ _ _ _ us hl => match us, hl with | [_, _], _ => rfl
  have D7 : DefOk K mg fns glbs locs "names_in" (top 18) ((fn_names_in 1 2)) := ⟨DE.cd7, DE.sc7, _, _, _, F7, PySem.W.mg_of X G a7, b7⟩
  have F8 := fun_mk (st := top 19) l8 c8 k8
  have b8 := F8.binds (ps := ["thing"]) fun _ _ _ _ _ _ us hl => match us, hl with | [_], _ => rfl
  have D8 : DefOk K mg fns glbs locs "is_kernel" (top 19) ((fn_is_kernel 0 7 6 5)) := ⟨DE.cd8, DE.sc8, _, _, _, F8, PySem.W.mg_of X G a8, b8⟩
  have F9 := fun_mk (st := top 21) l9 c9 k9
  have b9 := F9.binds (ps := ["cell", "turn"]) fun _ _ _ _ _ _ us hl => match us, hl with | [_, _], _ => rfl
  have D9 : DefOk K mg fns glbs locs "_law_well" (top 21) (fn__law_well) := ⟨DE.cd9, DE.sc9, _, _, _, F9, PySem.W.mg_of X G a9, b9⟩
  have F10 := fun_mk (st := top 22) l10 c10 k10
  have b10 := F10.binds (ps := ["bag", "many"]) fun _ _ _ _ _ _ us hl => match us, hl with | [_, _], _ => rfl
  have D10 : DefOk K mg fns glbs locs "_law_take" (top 22) (fn__law_take) := ⟨DE.cd10, DE.sc10, _, _, _, F10, PySem.W.mg_of X G a10, b10⟩
  have F11 := fun_mk (st := top 23) l11 c11 k11
  have b11 := F11.binds (ps := ["script", "most"]) fun _ _ _ _ _ _ us hl => match us, hl with | [_, _], _ => rfl
  have D11 : DefOk K mg fns glbs locs "_law_bags" (top 23) ((fn__law_bags 9)) := ⟨DE.cd11, DE.sc11, _, _, _, F11, PySem.W.mg_of X G a11, b11⟩
  have F12 := fun_mk (st := top 24) l12 c12 k12
  have b12 := F12.binds (ps := ["a", "b"]) fun _ _ _ _ _ _ us hl => match us, hl with | [_, _], _ => rfl
  have D12 : DefOk K mg fns glbs locs "_law_same" (top 24) ((fn__law_same 12)) := ⟨DE.cd12, DE.sc12, _, _, _, F12, PySem.W.mg_of X G a12, b12⟩
  have F13 := fun_mk (st := top 25) l13 c13 k13
  have b13 := F13.binds (ps := ["bag"]) fun _ _ _ _ _ _ us hl => match us, hl with | [_], _ => rfl
  have D13 : DefOk K mg fns glbs locs "_law_name" (top 25) ((fn__law_name 10)) := ⟨DE.cd13, DE.sc13, _, _, _, F13, PySem.W.mg_of X G a13, b13⟩
  have F14 := fun_mk (st := top 26) l14 c14 k14
  have b14 := F14.binds (ps := ["bag", "many"]) fun _ _ _ _ _ _ us hl => match us, hl with | [_, _], _ => rfl
  have D14 : DefOk K mg fns glbs locs "_law_some_names" (top 26) ((fn__law_some_names 13)) := ⟨DE.cd14, DE.sc14, _, _, _, F14, PySem.W.mg_of X G a14, b14⟩
  have F15 := fun_mk (st := top 27) l15 c15 k15
  have b15 := F15.binds (ps := ["bag", "locks", "raised", "small"]) fun _ _ _ _ _ _ us hl => match us, hl with | [_, _, _, _], _ => rfl
  have D15 : DefOk K mg fns glbs locs "_law_code" (top 27) ((fn__law_code 10)) := ⟨DE.cd15, DE.sc15, _, _, _, F15, PySem.W.mg_of X G a15, b15⟩
  have F16 := fun_mk (st := top 28) l16 c16 k16
  have b16 := F16.binds (ps := ["tasks", "locks"]) fun _ _ _ _ _ _ us hl => match us, hl with | [_, _], _ => rfl
  have D16 : DefOk K mg fns glbs locs "_law_tops" (top 28) (fn__law_tops) := ⟨DE.cd16, DE.sc16, _, _, _, F16, PySem.W.mg_of X G a16, b16⟩
  have F17 := fun_mk (st := top 29) l17 c17 k17
  have b17 := F17.binds (ps := ["bag", "most", "kind"]) fun _ _ _ _ _ _ us hl => match us, hl with | [_, _, _], _ => rfl
  have D17 : DefOk K mg fns glbs locs "_law_kernel" (top 29) ((fn__law_kernel 14 10 15 16)) := ⟨DE.cd17, DE.sc17, _, _, _, F17, PySem.W.mg_of X G a17, b17⟩
  have F18 := fun_mk (st := top 30) l18 c18 k18
  have b18 := F18.binds (ps := ["x", "low", "high"]) fun _ _ _ _ _ _ us hl => match us, hl with | [_, _, _], _ => rfl
  have D18 : DefOk K mg fns glbs locs "_law_within" (top 30) (fn__law_within) := ⟨DE.cd18, DE.sc18, _, _, _, F18, PySem.W.mg_of X G a18, b18⟩
  have F19 := fun_mk (st := top 31) l19 c19 k19
  have b19 := F19.binds (ps := ["x"]) fun _ _ _ _ _ _ us hl => match us, hl with | [_], _ => rfl
  have D19 : DefOk K mg fns glbs locs "_law_is_name" (top 31) (fn__law_is_name) := ⟨DE.cd19, DE.sc19, _, _, _, F19, PySem.W.mg_of X G a19, b19⟩
  have F20 := fun_mk (st := top 32) l20 c20 k20
  have b20 := F20.binds (ps := ["code"]) fun _ _ _ _ _ _ us hl => match us, hl with | [_], _ => rfl
  have D20 : DefOk K mg fns glbs locs "_law_even" (top 32) (fn__law_even) := ⟨DE.cd20, DE.sc20, _, _, _, F20, PySem.W.mg_of X G a20, b20⟩
  have F21 := fun_mk (st := top 33) l21 c21 k21
  have b21 := F21.binds (ps := ["x", "names", "locks"]) fun _ _ _ _ _ _ us hl => match us, hl with | [_, _, _], _ => rfl
  have D21 : DefOk K mg fns glbs locs "_law_is_step" (top 33) ((fn__law_is_step 18)) := ⟨DE.cd21, DE.sc21, _, _, _, F21, PySem.W.mg_of X G a21, b21⟩
  have F22 := fun_mk (st := top 34) l22 c22 k22
  have b22 := F22.binds (ps := ["x", "most", "size"]) fun _ _ _ _ _ _ us hl => match us, hl with | [_, _, _], _ => rfl
  have D22 : DefOk K mg fns glbs locs "_law_names_of" (top 34) ((fn__law_names_of 19)) := ⟨DE.cd22, DE.sc22, _, _, _, F22, PySem.W.mg_of X G a22, b22⟩
  have F23 := fun_mk (st := top 35) l23 c23 k23
  have b23 := F23.binds (ps := ["x"]) fun _ _ _ _ _ _ us hl => match us, hl with | [_], _ => rfl
  have D23 : DefOk K mg fns glbs locs "_law_is_kernel" (top 35) ((fn__law_is_kernel 18 22 21 20)) := ⟨DE.cd23, DE.sc23, _, _, _, F23, PySem.W.mg_of X G a23, b23⟩
  have F24 := fun_mk (st := top 36) l24 c24 k24
  have b24 := F24.binds (ps := ["bag", "x"]) fun _ _ _ _ _ _ us hl => match us, hl with | [_, _], _ => rfl
  have D24 : DefOk K mg fns glbs locs "_law_changed" (top 36) ((fn__law_changed 10 24)) := ⟨DE.cd24, DE.sc24, _, _, _, F24, PySem.W.mg_of X G a24, b24⟩
  have F25 := fun_mk (st := top 37) l25 c25 k25
  have b25 := F25.binds (ps := ["script"]) fun _ _ _ _ _ _ us hl => match us, hl with | [_], _ => rfl
  have D25 : DefOk K mg fns glbs locs "law" (top 37) ((fn_law 11 17 24 10 12 8 23)) := ⟨DE.cd25, DE.sc25, _, _, _, F25, PySem.W.mg_of X G a25, b25⟩
  have M : ModOk K mg fns glbs locs T := by
    refine ⟨.cons D0 (.cons D1 (.cons D2 (.cons D3 (.cons D4 (.cons D5 (.cons D6 (.cons D7 (.cons D8 (.cons D9 (.cons D10 (.cons D11 (.cons D12 (.cons D13 (.cons D14 (.cons D15 (.cons D16 (.cons D17 (.cons D18 (.cons D19 (.cons D20 (.cons D21 (.cons D22 (.cons D23 (.cons D24 (.cons D25 (.nil)))))))))))))))))))))))))), fun x hx => ?_, fun x d e => ?_⟩
    · simp only [biNames, List.mem_cons, List.not_mem_nil, or_false] at hx
      rcases hx with rfl | rfl | rfl | rfl | rfl | rfl | rfl | rfl | rfl | rfl | rfl | rfl | rfl | rfl | rfl | rfl | rfl | rfl
      · exact PySem.W.mg_none_of X G zz0
      · exact PySem.W.mg_none_of X G zz1
      · exact PySem.W.mg_none_of X G zz2
      · exact PySem.W.mg_none_of X G zz3
      · exact PySem.W.mg_none_of X G zz4
      · exact PySem.W.mg_none_of X G zz5
      · exact PySem.W.mg_none_of X G zz6
      · exact PySem.W.mg_none_of X G zz7
      · exact PySem.W.mg_none_of X G zz8
      · exact PySem.W.mg_none_of X G zz9
      · exact PySem.W.mg_none_of X G zz10
      · exact PySem.W.mg_none_of X G zz11
      · exact PySem.W.mg_none_of X G zz12
      · exact PySem.W.mg_none_of X G zz13
      · exact PySem.W.mg_none_of X G zz14
      · exact PySem.W.mg_none_of X G zz15
      · exact PySem.W.mg_none_of X G zz16
      · exact PySem.W.mg_none_of X G zz17
    · have hm := lookup_mem e
      simp only [glbs, List.mem_cons, List.not_mem_nil, or_false, Prod.mk.injEq] at hm
      rcases hm with ⟨rfl, rfl⟩ | ⟨rfl, rfl⟩ | ⟨rfl, rfl⟩ | ⟨rfl, rfl⟩ | ⟨rfl, rfl⟩ | ⟨rfl, rfl⟩ | ⟨rfl, rfl⟩ | ⟨rfl, rfl⟩ | ⟨rfl, rfl⟩ | ⟨rfl, rfl⟩
      · exact ⟨_, .str ("abcdefghijklmnopqrstuvwxyz" : PySem.Str), PySem.W.mg_of X G gg0, ⟨_, rfl⟩, fun _ _ => .str _ (by decide +kernel)⟩
      · exact ⟨_, .int 8, PySem.W.mg_of X G gg1, ⟨_, rfl⟩, fun _ _ => .int _⟩
      · exact ⟨_, .int 6, PySem.W.mg_of X G gg2, ⟨_, rfl⟩, fun _ _ => .int _⟩
      · exact ⟨_, .int 9, PySem.W.mg_of X G gg3, ⟨_, rfl⟩, fun _ _ => .int _⟩
      · exact ⟨_, .int 1000, PySem.W.mg_of X G gg4, ⟨_, rfl⟩, fun _ _ => .int _⟩
      · exact ⟨_, .int 1000, PySem.W.mg_of X G gg5, ⟨_, rfl⟩, fun _ _ => .int _⟩
      · exact ⟨_, .int 12, PySem.W.mg_of X G gg6, ⟨_, rfl⟩, fun _ _ => .int _⟩
      · exact ⟨_, .int 100, PySem.W.mg_of X G gg7, ⟨_, rfl⟩, fun _ _ => .int _⟩
      · exact ⟨_, .int 4, PySem.W.mg_of X G gg8, ⟨_, rfl⟩, fun _ _ => .int _⟩
      · exact ⟨_, .int 3, PySem.W.mg_of X G gg9, ⟨_, rfl⟩, fun _ _ => .int _⟩
  exact ⟨PySem.W.fnOf "law" "law" (defArgs (top 37)) (defBody (top 37)) (defScope (top 37)) .none kV25 dc25 pm25 an25 cd25 ct25, fun s v => .of_eq rfl, fun base _ _ => law_ok (i := 25) M rfl D25 F25 hl⟩
theorem walk {l : PySem.W.OpenLaw} {q : Program} {loose : List Str} {XP : (Str → Option Value) → Heap → Prop} {YP : World → Heap → Prop} {d : DefRec} {K : Params → PySem.W.Frag} (hn : l.most = some 63) (hdf : d.params.defaults = [])
    (hY : ∀ (w : World) (h : Heap), YP w h → (K w.params).In h)
    (F : ∀ (w : World) (mg : Str → Option Value) (fa : Addr) (h : Heap), (K w.params).In h → h.Ns mainGlobals mg → mg d.name = some (.ref fa) →
      ∃ fd : FuncData, (∀ (s : Shared) (u : Value), BindsTo s fd ⟨[u], []⟩ [("script", u)]) ∧ ∀ base : Heap, (K w.params).In base → base.Ns mainGlobals mg → FnOk l.prog w (K w.params) mg base CX0 20 fa fd ["script"] (spLaw (K w.params))) :
    PySem.W.WalkO q loose XP YP l.row.toRowW d [] (fun f vs => PySem.call f vs) :=
  L2.walk_of (n := 63) (k := 20) (x := "script") (CX := fun _ => CX0) (sp := fun w => spLaw (K w.params)) hn (by decide) hdf ⟨rfl, by decide, by decide⟩ hY F (fun _ _ a ns hl _ hS => ⟨a, ns, rfl, hS, hl, fun _ => rfl⟩) fun _ _ _ _ _ z => z
end DE

open PySem PySem.W PyProof.Rows in
set_option maxRecDepth 100000 in
set_option maxHeartbeats 0 in
theorem PySem.Challenge.cw_onestack_k01_what_is_a_kernel_holds : PySem.Challenge.rw_onestack_k01_what_is_a_kernel.Holds := by
  w_on; o_law; k_head; (case hw => w_witness2)
  k_fill
  refine DE.walk (l := PySem.Challenge.rw_onestack_k01_what_is_a_kernel) rfl rfl (fun w h Y => PySem.W.kIn_of Y) ?F
  case F =>
    intro w mg fa h KX G hmg
    refine' DE.all_mk KX G hmg ?a0 ?l0 ?c0 ?k0 ?a1 ?l1 ?c1 ?k1 ?a2 ?l2 ?c2 ?k2 ?a3 ?l3 ?c3 ?k3 ?a4 ?l4 ?c4 ?k4 ?a5 ?l5 ?c5 ?k5 ?a6 ?l6 ?c6 ?k6 ?a7 ?l7 ?c7 ?k7 ?a8 ?l8 ?c8 ?k8 ?a9 ?l9 ?c9 ?k9 ?a10 ?l10 ?c10 ?k10 ?a11 ?l11 ?c11 ?k11 ?a12 ?l12 ?c12 ?k12 ?a13 ?l13 ?c13 ?k13 ?a14 ?l14 ?c14 ?k14 ?a15 ?l15 ?c15 ?k15 ?a16 ?l16 ?c16 ?k16 ?a17 ?l17 ?c17 ?k17 ?a18 ?l18 ?c18 ?k18 ?a19 ?l19 ?c19 ?k19 ?a20 ?l20 ?c20 ?k20 ?a21 ?l21 ?c21 ?k21 ?a22 ?l22 ?c22 ?k22 ?a23 ?l23 ?c23 ?k23 ?a24 ?l24 ?c24 ?k24 ?a25 ?l25 ?c25 ?k25 ?gg0 ?gg1 ?gg2 ?gg3 ?gg4 ?gg5 ?gg6 ?gg7 ?gg8 ?gg9 ?zz0 ?zz1 ?zz2 ?zz3 ?zz4 ?zz5 ?zz6 ?zz7 ?zz8 ?zz9 ?zz10 ?zz11 ?zz12 ?zz13 ?zz14 ?zz15 ?zz16 ?zz17 DE.law_holds
    (case a0 => k_is)
    (case l0 => k_is)
    (case c0 => k_is)
    (case k0 => k_is)
    (case a1 => k_is)
    (case l1 => k_is)
    (case c1 => k_is)
    (case k1 => k_is)
    (case a2 => k_is)
    (case l2 => k_is)
    (case c2 => k_is)
    (case k2 => k_is)
    (case a3 => k_is)
    (case l3 => k_is)
    (case c3 => k_is)
    (case k3 => k_is)
    (case a4 => k_is)
    (case l4 => k_is)
    (case c4 => k_is)
    (case k4 => k_is)
    (case a5 => k_is)
    (case l5 => k_is)
    (case c5 => k_is)
    (case k5 => k_is)
    (case a6 => k_is)
    (case l6 => k_is)
    (case c6 => k_is)
    (case k6 => k_is)
    (case a7 => k_is)
    (case l7 => k_is)
    (case c7 => k_is)
    (case k7 => k_is)
    (case a8 => k_is)
    (case l8 => k_is)
    (case c8 => k_is)
    (case k8 => k_is)
    (case a9 => k_is)
    (case l9 => k_is)
    (case c9 => k_is)
    (case k9 => k_is)
    (case a10 => k_is)
    (case l10 => k_is)
    (case c10 => k_is)
    (case k10 => k_is)
    (case a11 => k_is)
    (case l11 => k_is)
    (case c11 => k_is)
    (case k11 => k_is)
    (case a12 => k_is)
    (case l12 => k_is)
    (case c12 => k_is)
    (case k12 => k_is)
    (case a13 => k_is)
    (case l13 => k_is)
    (case c13 => k_is)
    (case k13 => k_is)
    (case a14 => k_is)
    (case l14 => k_is)
    (case c14 => k_is)
    (case k14 => k_is)
    (case a15 => k_is)
    (case l15 => k_is)
    (case c15 => k_is)
    (case k15 => k_is)
    (case a16 => k_is)
    (case l16 => k_is)
    (case c16 => k_is)
    (case k16 => k_is)
    (case a17 => k_is)
    (case l17 => k_is)
    (case c17 => k_is)
    (case k17 => k_is)
    (case a18 => k_is)
    (case l18 => k_is)
    (case c18 => k_is)
    (case k18 => k_is)
    (case a19 => k_is)
    (case l19 => k_is)
    (case c19 => k_is)
    (case k19 => k_is)
    (case a20 => k_is)
    (case l20 => k_is)
    (case c20 => k_is)
    (case k20 => k_is)
    (case a21 => k_is)
    (case l21 => k_is)
    (case c21 => k_is)
    (case k21 => k_is)
    (case a22 => k_is)
    (case l22 => k_is)
    (case c22 => k_is)
    (case k22 => k_is)
    (case a23 => k_is)
    (case l23 => k_is)
    (case c23 => k_is)
    (case k23 => k_is)
    (case a24 => k_is)
    (case l24 => k_is)
    (case c24 => k_is)
    (case k24 => k_is)
    (case a25 => k_is)
    (case l25 => k_is)
    (case c25 => k_is)
    (case k25 => k_is)
    (case gg0 => k_is)
    (case gg1 => k_is)
    (case gg2 => k_is)
    (case gg3 => k_is)
    (case gg4 => k_is)
    (case gg5 => k_is)
    (case gg6 => k_is)
    (case gg7 => k_is)
    (case gg8 => k_is)
    (case gg9 => k_is)
    (case zz0 => k_is)
    (case zz1 => k_is)
    (case zz2 => k_is)
    (case zz3 => k_is)
    (case zz4 => k_is)
    (case zz5 => k_is)
    (case zz6 => k_is)
    (case zz7 => k_is)
    (case zz8 => k_is)
    (case zz9 => k_is)
    (case zz10 => k_is)
    (case zz11 => k_is)
    (case zz12 => k_is)
    (case zz13 => k_is)
    (case zz14 => k_is)
    (case zz15 => k_is)
    (case zz16 => k_is)
    (case zz17 => k_is)
