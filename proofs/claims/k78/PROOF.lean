import PyProof.Rows.All
import Wide.All
import OpenK.AllK
import Wide.FinOn
import HandS.ForMost
import HandS.ForExc
import HandS.Flow
import HandS.IsInst
import HandS.TupAny
import HandS.Zip
import HandS.Codes
import HandS.SortRule
import HandS.SortInts
import KE.KTupSum
import PySem.Challenge.RW_deckhands_k78_even_shares_by_quotients
section
set_option Elab.async false
set_option linter.all false
set_option maxRecDepth 100000
/-! DH1: plain values, a small language (IE, IS), its meaning. No Python model in sight. -/
namespace DH

/-- plain values. lst, dct: a list, a dict that nobody changes any more; ptr: a thing that may change, by its number among the cells -/
inductive D where
  | non | bl (b : Bool) | int (i : Int) | str (s : List Nat)
  | tup (xs : List D) | lst (xs : List D) | dct (kvs : List (D × D))
  | ins (c : Nat) (fs : List (Nat × D)) | ptr (i : Nat)
  /-- the script -/
  | frz (xs : List D)
  deriving Inhabited
inductive Cell where
  | lst (xs : List D) | dct (kvs : List (D × D)) | ins (c : Nat) (fs : List (Nat × D))
  deriving Inhabited
abbrev Cs := List Cell
abbrev Env := List (Option D)

inductive Res (α : Type) where
  | ok (a : α) (cs : Cs) | exc (c : Nat) (fs : List D) (cs : Cs) | bad
inductive Out where
  | nx (env : Env) (cs : Cs) | brk (env : Env) (cs : Cs) | cnt (env : Env) (cs : Cs) | ret (d : D) (cs : Cs)
  | exc (c : Nat) (fs : List D) (env : Env) (cs : Cs) | bad
def Res.bind {α β : Type} (r : Res α) (f : α → Cs → Res β) : Res β := match r with
  | .ok a cs => f a cs
  | .exc c fs cs => .exc c fs cs
  | .bad => .bad
/-- an expression's end in a statement -/
def Res.out {α : Type} (r : Res α) (env : Env) (f : α → Cs → Out) : Out := match r with
  | .ok a cs => f a cs
  | .exc c fs cs => .exc c fs env cs
  | .bad => .bad
def Out.seq (r : Out) (f : Env → Cs → Out) : Out := match r with
  | .nx env cs => f env cs
  | r => r
/-- an exception is not told here -/
def Res.noX {α : Type} (r : Res α) : Res α := match r with
  | .exc _ _ _ => .bad
  | r => r
@[simp] theorem noX_ok {α : Type} (a : α) (cs : Cs) : (Res.ok a cs).noX = .ok a cs := rfl
@[simp] theorem noX_bad {α : Type} : (Res.bad : Res α).noX = .bad := rfl
def optR {α : Type} (o : Option α) (cs : Cs) : Res α := match o with
  | some a => .ok a cs
  | none => .bad
@[simp] theorem bind_ok {α β : Type} (a : α) (cs : Cs) (f : α → Cs → Res β) : (Res.ok a cs).bind f = f a cs := rfl
@[simp] theorem bind_bad {α β : Type} (f : α → Cs → Res β) : (Res.bad : Res α).bind f = .bad := rfl
@[simp] theorem bind_exc {α β : Type} (c fs cs) (f : α → Cs → Res β) : (Res.exc c fs cs : Res α).bind f = .exc c fs cs := rfl
@[simp] theorem out_ok {α : Type} (a : α) (cs : Cs) (env : Env) (f : α → Cs → Out) : (Res.ok a cs).out env f = f a cs := rfl
@[simp] theorem out_bad {α : Type} (env : Env) (f : α → Cs → Out) : (Res.bad : Res α).out env f = .bad := rfl
@[simp] theorem out_exc {α : Type} (c fs cs) (env : Env) (f : α → Cs → Out) : (Res.exc c fs cs : Res α).out env f = .exc c fs env cs := rfl
@[simp] theorem seq_nx (env : Env) (cs : Cs) (f : Env → Cs → Out) : (Out.nx env cs).seq f = f env cs := rfl
@[simp] theorem seq_ret (d : D) (cs : Cs) (f : Env → Cs → Out) : (Out.ret d cs).seq f = .ret d cs := rfl
@[simp] theorem seq_brk (env : Env) (cs : Cs) (f : Env → Cs → Out) : (Out.brk env cs).seq f = .brk env cs := rfl
@[simp] theorem seq_cnt (env : Env) (cs : Cs) (f : Env → Cs → Out) : (Out.cnt env cs).seq f = .cnt env cs := rfl
@[simp] theorem seq_bad (f : Env → Cs → Out) : (Out.bad).seq f = .bad := rfl
@[simp] theorem seq_exc (c fs env cs) (f : Env → Cs → Out) : (Out.exc c fs env cs).seq f = .exc c fs env cs := rfl
@[simp] theorem optR_some {α : Type} (a : α) (cs : Cs) : optR (some a) cs = .ok a cs := rfl
@[simp] theorem optR_none {α : Type} (cs : Cs) : optR (none : Option α) cs = .bad := rfl

/-! ### the language -/
inductive Op2 where | add | sub | mul | fdiv | mod | pow
  deriving DecidableEq
inductive Cop where | eq | ne | lt | le | gt | ge | is | isnt | in | nin
  deriving DecidableEq
inductive Ty where | int | bool | str | tuple | list | dict | cls (c : Nat)
  deriving DecidableEq
inductive Bi where | len | int | tuple | all | any | sum | min | max | abs | sorted
  deriving DecidableEq
inductive Mt where | append | extend | pop0 | pop1 | join | get1 | get2 | count | index | insert | split
  deriving DecidableEq
inductive Tg where | var (i : Nat) | tup (ts : List Nat)
  deriving DecidableEq

mutual
inductive IE where
  | var (i : Nat) | lit (d : D) | glb (n : Nat)
  | bin (op : Op2) (a b : IE) | neg (a : IE) | not (a : IE) | and (a b : IE) | or (a b : IE) | ite (c a b : IE)
  | cmp (op : Cop) (a b : IE) | chn (o1 o2 : Cop) (a b c : IE)
  | tup (es : IEs) | call (f : Nat) (es : IEs) | bi (b : Bi) (es : IEs)
  | meth (m : Mt) (o : IE) (es : IEs)
  | idx (a i : IE) | cut (a : IE) (lo hi : IO) | attr (a : IE) (f : Nat)
  | isin (a : IE) (tys : List Ty) | new (mu : Bool) (l : IL)
  /-- a def called with keywords: n positional ones, m keywords; ord: where each parameter's value stands among them -/
  | callK (f n m : Nat) (ord : List Nat) (es kw : IEs)
inductive IEs where
  | nil | cons (e : IE) (es : IEs)
/-- an optional part -/
inductive IO where
  | no | yes (e : IE)
/-- what makes a new list -/
inductive IL where
  | disp (es : IEs) | comp (own : List Nat) (tg : Tg) (it : IT) (c : IO) (elt : IE)
  | cat (a b : IE) | rep (a b : IE) | of (e : IE) | ofr (it : IT)
/-- what is walked -/
inductive IT where
  | seq (e : IE) | rng1 (a : IE) | rng2 (a b : IE) | rng3 (a b c : IE) | zip (a b : IE)
end
mutual
inductive IS where
  | ret (e : IE) | retN | drop (e : IE) | asg (tg : Tg) (e : IE) | setI (o i e : IE) | setA (o : IE) (f : Nat) (e : IE)
  | aug (i : Nat) (op : Op2) (e : IE) | augI (o i : IE) (op : Op2) (e : IE) | ife (c : IE) (a b : ISs) | forS (tg : Tg) (it : IT) (b : ISs) | whileS (c : IE) (b : ISs)
  | raise (c : Nat) (es : IEs) | pass | brk | cnt
  /-- code that is not come to; a try whose body raises nothing -/
  | never | thru (b : ISs)
inductive ISs where
  | nil | cons (s : IS) (ss : ISs)
end

/-! ### values -/
def view (cs : Cs) : D → D
  | .ptr i => match cs[i]? with
    | some (.lst xs) => .lst xs
    | some (.dct kvs) => .dct kvs
    | some (.ins c fs) => .ins c fs
    | none => .ptr i
  | d => d
/-- a list's or a tuple's items -/
def seqV : D → Option (List D)
  | .lst xs => some xs
  | .frz xs => some xs
  | .tup xs => some xs
  | _ => none
def lstV : D → Option (List D)
  | .lst xs => some xs
  | _ => none
def truV : D → Option Bool
  | .non => some false
  | .bl b => some b
  | .int i => some (i != 0)
  | .str s => some (!s.isEmpty)
  | .tup xs => some (!xs.isEmpty)
  | .lst xs => some (!xs.isEmpty)
  | .frz xs => some (!xs.isEmpty)
  | .dct kvs => some (!kvs.isEmpty)
  | _ => none
def b2i (b : Bool) : Int := if b then 1 else 0
def line : Nat := 16777216
def inMul (i : Int) : Prop := -(2 ^ 64) < i ∧ i < 2 ^ 64
noncomputable instance (i : Int) : Decidable (inMul i) := Classical.propDecidable _
/-- a binary operation on viewed values -/
noncomputable def binD : Op2 → D → D → Option D
  | .add, .int i, .int j => some (.int (i + j))
  | .add, .int i, .bl k => some (.int (i + b2i k))
  | .add, .str s, .str t => if s.length + t.length ≤ line then some (.str (s ++ t)) else none
  | .add, .tup xs, .tup ys => if xs.length + ys.length ≤ line then some (.tup (xs ++ ys)) else none
  | .sub, .int i, .int j => some (.int (i - j))
  | .mul, .int i, .int j => if inMul i ∨ inMul j then some (.int (i * j)) else none
  | .fdiv, .int i, .int j => if 0 < j ∧ j < 1073741824 then some (.int (i / j)) else none
  | .mod, .int i, .int j => if 0 < j then some (.int (i % j)) else none
  | .pow, .int i, .int j => if 0 ≤ j ∧ j ≤ 1000000 ∧ i.natAbs < 2 ^ 64 then some (.int (i ^ j.toNat)) else none
  | _, _, _ => none
/-- a binary operation with a store -/
def augD : Op2 → D → D → Option D
  | .add, .int i, .int j => some (.int (i + j))
  | .add, .str s, .str t => if s.length + t.length ≤ line then some (.str (s ++ t)) else none
  | .sub, .int i, .int j => some (.int (i - j))
  | _, _, _ => none
/-- == of plain values; none: not told here -/
def scalEq : D → D → Option Bool
  | .non, .non => some true
  | .non, .int _ => some false
  | .int _, .non => some false
  | .non, .bl _ => some false
  | .bl _, .non => some false
  | .non, .str _ => some false
  | .str _, .non => some false
  | .int i, .int j => some (decide (i = j))
  | .bl i, .bl j => some (decide (i = j))
  | .str s, .str t => some (decide (s = t))
  | .int _, .str _ => some false
  | .str _, .int _ => some false
  | .bl _, .str _ => some false
  | .str _, .bl _ => some false
  | _, _ => none
mutual
def toPy : D → Option PySem.PyData
  | .non => some .none
  | .bl b => some (.bool b)
  | .int i => some (.int i)
  | .str s => some (.str ⟨s.toArray⟩)
  | .tup xs => (toPys xs).map .tuple
  | .lst xs => (toPys xs).map .list
  | _ => none
def toPys : List D → Option (List PySem.PyData)
  | [] => some []
  | d :: ds => match toPy d, toPys ds with
    | some p, some ps => some (p :: ps)
    | _, _ => none
end
def eqD (a b : D) : Option Bool := match scalEq a b with
  | some k => some k
  | none => match toPy a, toPy b with
    | some p, some q => if PySem.SeqAt.shaped p = true ∧ PySem.SeqAt.shaped q = true then some (PySem.PyData.eqv p q) else none
    | _, _ => none
/-- the flat values' == that «in» asks -/
def flatD : D → Option L2.V
  | .non => some .non
  | .bl b => some (.bl b)
  | .int i => some (.int i)
  | .str s => some (.str ⟨s.toArray⟩)
  | _ => none
def flats : List D → Option (List L2.V)
  | [] => some []
  | d :: ds => match flatD d, flats ds with
    | some v, some vs => some (v :: vs)
    | _, _ => none
def isKey : D → Bool
  | .int _ => true
  | .str _ => true
  | _ => false
def keyEq : D → D → Bool
  | .int i, .int j => decide (i = j)
  | .str s, .str t => decide (s = t)
  | _, _ => false
def getK (k : D) : List (D × D) → Option D
  | [] => none
  | (a, v) :: r => if keyEq a k then some v else getK k r
def putK (k v : D) (kvs : List (D × D)) : List (D × D) := if (kvs.any fun p => keyEq p.1 k) = true then kvs.map (fun p => if keyEq p.1 k = true then (p.1, v) else p) else kvs ++ [(k, v)]
def inD (a b : D) : Option Bool := match b with
  | .lst xs => match flatD a, flats xs with
    | some v, some vs => some (L2.inV v vs)
    | _, _ => none
  | .tup xs => match flatD a, flats xs with
    | some v, some vs => some (L2.inV v vs)
    | _, _ => none
  | .dct kvs => if isKey a then some (getK a kvs).isSome else none
  | _ => none
def ltS (s t : List Nat) : Bool := decide (s < t)
def ltD : D → D → Option Bool
  | .int i, .int j => some (decide (i < j))
  | .str s, .str t => some (ltS s t)
  | _, _ => none
def leD : D → D → Option Bool
  | .int i, .int j => some (decide (i ≤ j))
  | .str s, .str t => some (!ltS t s)
  | _, _ => none
def gtD : D → D → Option Bool
  | .int i, .int j => some (decide (j < i))
  | _, _ => none
def geD : D → D → Option Bool
  | .int i, .int j => some (decide (j ≤ i))
  | _, _ => none
def isN : D → Option Bool
  | .non => some true
  | .ptr _ => none
  | _ => some false
def isD (a : D) : D → Option Bool
  | .non => isN a
  | _ => none
/-- a comparison of viewed values -/
def cmpD (op : Cop) (a b : D) : Option Bool := match op with
  | .eq => eqD a b
  | .ne => (eqD a b).map (!·)
  | .lt => ltD a b
  | .le => leD a b
  | .gt => gtD a b
  | .ge => geD a b
  | .is => isD a b
  | .isnt => (isD a b).map (!·)
  | .in => inD a b
  | .nin => (inD a b).map (!·)
def tyIs : Ty → D → Option Bool
  | .int, .int _ => some true
  | .int, .bl _ => some true
  | .bool, .bl _ => some true
  | .str, .str _ => some true
  | .tuple, .tup _ => some true
  | .list, .lst _ => some true
  | .list, .frz _ => some true
  | .dict, .dct _ => some true
  | .cls _, _ => none
  | _, .ins _ _ => none
  | _, .ptr _ => none
  | _, _ => some false
def tyAny : List Ty → D → Option Bool
  | [], _ => some false
  | t :: ts, d => match tyIs t d with
    | some true => some true
    | some false => tyAny ts d
    | none => none
def intsD : List D → Option (List Int)
  | [] => some []
  | .int i :: r => (intsD r).map (i :: ·)
  | _ :: _ => none
def blsD : List D → Option (List Bool)
  | [] => some []
  | .bl i :: r => (blsD r).map (i :: ·)
  | _ :: _ => none
def strsD : List D → Option (List (List Nat))
  | [] => some []
  | .str i :: r => (strsD r).map (i :: ·)
  | _ :: _ => none
def maxI : List Int → Option Int
  | [] => none
  | [x] => some x
  | x :: r => (maxI r).map fun y => if x < y then y else x
def minI : List Int → Option Int
  | [] => none
  | [x] => some x
  | x :: r => (minI r).map fun y => if y < x then y else x
def pairsI : List D → Option (List (Int × Int))
  | [] => some []
  | .tup [.int i, .int j] :: r => (pairsI r).map ((i, j) :: ·)
  | _ :: _ => none
def leI (a b : Int) : Bool := decide (a ≤ b)
def leP (p q : Int × Int) : Bool := decide (p.1 < q.1) || (decide (p.1 = q.1) && decide (p.2 ≤ q.2))
def pairD (p : Int × Int) : D := .tup [.int p.1, .int p.2]
def sortD (xs : List D) : Option D := match intsD xs with
  | some ns => some (.lst ((ns.mergeSort leI).map .int))
  | none => (pairsI xs).map fun ps => .lst ((ps.mergeSort leP).map pairD)
/-- a built-in of viewed arguments -/
def biD : Bi → List D → Option D
  | .len, [.str s] => some (.int s.length)
  | .len, [.tup xs] => some (.int xs.length)
  | .len, [.lst xs] => some (.int xs.length)
  | .len, [.frz xs] => some (.int xs.length)
  | .len, [.dct kvs] => some (.int kvs.length)
  | .int, [.int i] => some (.int i)
  | .int, [.bl b] => some (.int (b2i b))
  | .tuple, [.lst xs] => some (.tup xs)
  | .tuple, [.tup xs] => some (.tup xs)
  | .all, [.lst xs] => (blsD xs).map fun bs => .bl (bs.all id)
  | .any, [.lst xs] => (blsD xs).map fun bs => .bl (bs.any id)
  | .sum, [.lst xs] => (intsD xs).map fun ns => .int ns.sum
  | .sum, [.tup xs] => (intsD xs).map fun ns => .int ns.sum
  | .min, [.lst xs] => (intsD xs).bind fun ns => (minI ns).map .int
  | .max, [.lst xs] => (intsD xs).bind fun ns => (maxI ns).map .int
  | .min, [.int i, .int j] => some (.int (if j < i then j else i))
  | .max, [.int i, .int j] => some (.int (if j > i then j else i))
  | .abs, [.int i] => some (.int (if i < 0 then -i else i))
  | .sorted, [.lst xs] => sortD xs
  | _, _ => none
def cutD {α : Type} (xs : List α) (lo hi : Option Int) : List α := (xs.drop (HT.sIx xs.length 0 lo)).take (HT.sIx xs.length xs.length hi - HT.sIx xs.length 0 lo)
def cutV : D → Option Int → Option Int → Option D
  | .tup xs, lo, hi => some (.tup (cutD xs lo hi))
  | .lst xs, lo, hi => some (.lst (cutD xs lo hi))
  | .frz xs, lo, hi => some (.lst (cutD xs lo hi))
  | .str s, lo, hi => some (.str (cutD s lo hi))
  | _, _, _ => none
def idxD : D → D → Option D
  | .tup xs, .int i => L2.atI xs i
  | .lst xs, .int i => L2.atI xs i
  | .frz xs, .int i => L2.atI xs i
  | .str s, .int i => (L2.atI s i).map fun c => .str [c]
  | .dct kvs, k => if isKey k then getK k kvs else none
  | _, _ => none
/-- .. ahead of a store -/
def idxG : D → D → Option D
  | .lst xs, .int i => if 0 ≤ i then xs[i.toNat]? else none
  | .dct kvs, k => if isKey k then getK k kvs else none
  | _, _ => none
def fldD (f : Nat) : List (Nat × D) → Option D
  | [] => none
  | (g, d) :: r => if g = f then some d else fldD f r
def attrD (f : Nat) : D → Option D
  | .ins _ fs => fldD f fs
  | _ => none
/-- of which kind the receiver must be -/
def mtTy : Mt → D → Bool
  | .join, .str _ => true
  | .split, .str _ => true
  | .get1, .dct _ => true
  | .get2, .dct _ => true
  | .append, .lst _ => true
  | .extend, .lst _ => true
  | .pop0, .lst _ => true
  | .pop1, .lst _ => true
  | .insert, .lst _ => true
  | .count, .lst _ => true
  | .index, .lst _ => true
  | _, _ => false
/-- a method of a value, the arguments as they are -/
def methC (m : Mt) (o : D) (as : List D) (cs : Cs) : Res D :=
  match m, o, as with
  | .append, .ptr i, [d] => match cs[i]? with
    | some (.lst xs) => if xs.length < line then .ok .non (cs.set i (.lst (xs ++ [d]))) else .bad
    | _ => .bad
  | .extend, .ptr i, [d] => match cs[i]?, view cs d with
    | some (.lst xs), .lst ys => if xs.length + ys.length ≤ line then .ok .non (cs.set i (.lst (xs ++ ys))) else .bad
    | _, _ => .bad
  | .pop0, .ptr i, [] => match cs[i]? with
    | some (.lst xs) => match xs[xs.length - 1]? with
      | some d => .ok d (cs.set i (.lst xs.dropLast))
      | none => .bad
    | _ => .bad
  | .pop1, .ptr i, [.int k] => match cs[i]? with
    | some (.lst xs) => match L2.ixN xs.length k with
      | some j => match xs[j]? with
        | some d => if -(2 ^ 63) ≤ k ∧ k < 2 ^ 63 then .ok d (cs.set i (.lst (xs.eraseIdx j))) else .bad
        | none => .bad
      | none => .bad
    | _ => .bad
  | .join, .str sep, [x] => match view cs x with
    | .lst xs => match strsD xs with
      | some ss => if (ss.map List.length).sum + ss.length * sep.length ≤ line then .ok (.str (TL.joinL sep ss)) cs else .bad
      | none => .bad
    | _ => .bad
  | .get1, o, [k] => match view cs o with
    | .dct kvs => if isKey k then .ok ((getK k kvs).getD .non) cs else .bad
    | _ => .bad
  | .get2, o, [k, d] => match view cs o with
    | .dct kvs => if isKey k then .ok ((getK k kvs).getD d) cs else .bad
    | _ => .bad
  | _, _, _ => .bad
/-- o[k] = d -/
def setC (o k d : D) (cs : Cs) : Option Cs :=
  match o with
  | .ptr i => match cs[i]? with
    | some (.lst xs) => match k with
      | .int n => (L2.ixN xs.length n).map fun j => cs.set i (.lst (xs.set j d))
      | _ => none
    | some (.dct kvs) => if isKey k ∧ kvs.length < line then some (cs.set i (.dct (putK k d kvs))) else none
    | _ => none
  | _ => none
def putF (f : Nat) (d : D) : List (Nat × D) → List (Nat × D)
  | [] => [(f, d)]
  | (g, v) :: r => if g = f then (f, d) :: r else (g, v) :: putF f d r
def setAC (o : D) (f : Nat) (d : D) (cs : Cs) : Option Cs :=
  match o with
  | .ptr i => match cs[i]? with
    | some (.ins c fs) => if fs.length < 900 then some (cs.set i (.ins c (putF f d fs))) else none
    | _ => none
  | _ => none
def rngD (lo : Int) : Nat → List D
  | 0 => []
  | n + 1 => .int lo :: rngD (lo + 1) n
def rng3D (lo st : Int) : Nat → List D
  | 0 => []
  | n + 1 => .int lo :: rng3D (lo + st) st n
def inR (i : Int) : Prop := -(2 ^ 62) ≤ i ∧ i < 2 ^ 62
noncomputable instance (i : Int) : Decidable (inR i) := Classical.propDecidable _

/-! ### what is walked: the items, and the cell that they stand in, if they do -/
structure Src where
  at_ : Option Nat
  items : List D
def Src.same (s : Src) (cs : Cs) : Prop := match s.at_ with
  | none => True
  | some i => cs[i]? = some (.lst s.items)
def walkD (cs : Cs) : D → Option Src
  | .ptr i => match cs[i]? with
    | some (.lst xs) => some ⟨some i, xs⟩
    | _ => none
  | .lst xs => some ⟨none, xs⟩
  | .frz xs => some ⟨none, xs⟩
  | .tup xs => some ⟨none, xs⟩
  | .str s => some ⟨none, s.map fun c => .str [c]⟩
  | _ => none
def asgs : List Nat → List D → Env → Option Env
  | [], [], env => some env
  | i :: is, d :: ds, env => if i < env.length then asgs is ds (env.set i (some d)) else none
  | _, _, _ => none
def asgD (tg : Tg) (d : D) (env : Env) : Option Env := match tg with
  | .var i => if i < env.length then some (env.set i (some d)) else none
  | .tup is => match d with
    | .tup xs => asgs is xs env
    | _ => none
def wipeD (env : Env) : List Nat → Env
  | [] => env
  | v :: vs => (wipeD env vs).set v none
/-- two rows of one kind, side by side -/
def zipD : D → D → Option (List D)
  | .tup xs, .tup ys => some (List.zipWith (fun a b => .tup [a, b]) xs ys)
  | .lst xs, .lst ys => some (List.zipWith (fun a b => .tup [a, b]) xs ys)
  | .lst xs, .frz ys => some (List.zipWith (fun a b => .tup [a, b]) xs ys)
  | .frz xs, .lst ys => some (List.zipWith (fun a b => .tup [a, b]) xs ys)
  | .frz xs, .frz ys => some (List.zipWith (fun a b => .tup [a, b]) xs ys)
  | _, _ => none
open Classical in
/-- a comprehension's turns -/
noncomputable def compD (ok : Cs → Prop) (f : D → Cs → Res (Option D)) : List D → Cs → Res (List D)
  | [], cs => if ok cs then .ok [] cs else .bad
  | d :: ds, cs => if ok cs then (f d cs).bind fun o cs1 => (compD ok f ds cs1).bind fun r cs2 => match o with
      | some x => .ok (x :: r) cs2
      | none => .ok r cs2
    else .bad
open Classical in
/-- a for's turns -/
noncomputable def forD (ok : Cs → Prop) (f : D → Env → Cs → Out) : List D → Env → Cs → Out
  | [], env, cs => if ok cs then .nx env cs else .bad
  | d :: ds, env, cs => if ok cs then match f d env cs with
      | .nx e c => forD ok f ds e c
      | .cnt e c => forD ok f ds e c
      | .brk e c => .nx e c
      | r => r
    else .bad
/-- a while's turns -/
def whileD (t : Env → Cs → Res Bool) (f : Env → Cs → Out) : Nat → Env → Cs → Out
  | 0, _, _ => .bad
  | n + 1, env, cs => (t env cs).out env fun b cs1 => if b then (match f env cs1 with
      | .nx e c => whileD t f n e c
      | .cnt e c => whileD t f n e c
      | .brk e c => .nx e c
      | r => r) else .nx env cs1
def pickD (l : List D) : List Nat → Option (List D)
  | [] => some []
  | i :: r => match l[i]?, pickD l r with
    | some x, some xs => some (x :: xs)
    | _, _ => none
def tstR (r : Res D) : Res Bool := r.bind fun d cs => optR (truV (view cs d)) cs

/-! ### the meaning -/
structure Ctx where
  fn : Nat → List D → Cs → Res D
  glb : Nat → Option D
  fuel : Nat
mutual
noncomputable def evE (F : Ctx) : IE → Env → Cs → Res D
  | .var i, env, cs => match env[i]? with
    | some (some d) => .ok d cs
    | _ => .bad
  | .lit d, _, cs => .ok d cs
  | .glb n, _, cs => optR (F.glb n) cs
  | .bin op a b, env, cs => (evE F a env cs).bind fun x cs1 => (evE F b env cs1).bind fun y cs2 => optR (binD op (view cs2 x) (view cs2 y)) cs2
  | .neg a, env, cs => (evE F a env cs).bind fun x cs1 => match x with
    | .int i => .ok (.int (-i)) cs1
    | _ => .bad
  | .not a, env, cs => (tstR (evE F a env cs)).bind fun b cs1 => .ok (.bl (!b)) cs1
  | .and a b, env, cs => (evE F a env cs).bind fun x cs1 => (optR (truV (view cs1 x)) cs1).bind fun k cs2 => if k then evE F b env cs2 else .ok x cs2
  | .or a b, env, cs => (evE F a env cs).bind fun x cs1 => (optR (truV (view cs1 x)) cs1).bind fun k cs2 => if k then .ok x cs2 else evE F b env cs2
  | .ite c a b, env, cs => (tstR (evE F c env cs)).bind fun k cs1 => if k then evE F a env cs1 else evE F b env cs1
  | .cmp op a b, env, cs => (evE F a env cs).bind fun x cs1 => (evE F b env cs1).bind fun y cs2 => (optR (cmpD op (view cs2 x) (view cs2 y)) cs2).bind fun k cs3 => .ok (.bl k) cs3
  | .chn o1 o2 a b c, env, cs => (evE F a env cs).bind fun x cs1 => (evE F b env cs1).bind fun y cs2 => (optR (cmpD o1 (view cs2 x) (view cs2 y)) cs2).bind fun k cs3 =>
      if k then (evE F c env cs3).bind fun z cs4 => (optR (cmpD o2 (view cs4 y) (view cs4 z)) cs4).bind fun k2 cs5 => .ok (.bl k2) cs5 else .ok (.bl false) cs3
  | .tup es, env, cs => (evEs F es env cs).bind fun ds cs1 => if ds.length ≤ 1000 then .ok (.tup ds) cs1 else .bad
  | .call f es, env, cs => (evEs F es env cs).bind fun ds cs1 => F.fn f ds cs1
  | .callK f n m ord es kw, env, cs => (evEs F es env cs).bind fun ds cs1 => (evEs F kw env cs1).bind fun zs cs2 => if ds.length = n ∧ zs.length = m then (match pickD (ds ++ zs) ord with
      | some as => F.fn f as cs2
      | none => .bad) else .bad
  | .bi b es, env, cs => (evEs F es env cs).bind fun ds cs1 => optR (biD b (ds.map (view cs1))) cs1
  | .meth m o es, env, cs => (evE F o env cs).bind fun x cs1 => if mtTy m (view cs1 x) then (evEs F es env cs1).bind fun ds cs2 => methC m x ds cs2 else .bad
  | .idx a i, env, cs => (evE F a env cs).bind fun x cs1 => (evE F i env cs1).bind fun y cs2 => optR (idxD (view cs2 x) y) cs2
  | .cut a lo hi, env, cs => (evE F a env cs).bind fun x cs1 => (evO F lo env cs1).bind fun l cs2 => (evO F hi env cs2).bind fun h cs3 => optR (cutV (view cs3 x) l h) cs3
  | .attr a f, env, cs => (evE F a env cs).bind fun x cs1 => optR (attrD f (view cs1 x)) cs1
  | .isin a tys, env, cs => (evE F a env cs).bind fun x cs1 => (optR (tyAny tys (view cs1 x)) cs1).bind fun k cs2 => .ok (.bl k) cs2
  | .new mu l, env, cs => (evL F l env cs).bind fun ds cs1 => if mu then .ok (.ptr cs1.length) (cs1 ++ [.lst ds]) else .ok (.lst ds) cs1
noncomputable def evEs (F : Ctx) : IEs → Env → Cs → Res (List D)
  | .nil, _, cs => .ok [] cs
  | .cons e es, env, cs => (evE F e env cs).bind fun d cs1 => (evEs F es env cs1).bind fun ds cs2 => .ok (d :: ds) cs2
noncomputable def evO (F : Ctx) : IO → Env → Cs → Res (Option Int)
  | .no, _, cs => .ok none cs
  | .yes e, env, cs => (evE F e env cs).bind fun d cs1 => match d with
    | .int i => .ok (some i) cs1
    | _ => .bad
/-- a comprehension's test -/
noncomputable def evC (F : Ctx) : IO → Env → Cs → Res Bool
  | .no, _, cs => .ok true cs
  | .yes e, env, cs => tstR (evE F e env cs)
noncomputable def evL (F : Ctx) : IL → Env → Cs → Res (List D)
  | .disp es, env, cs => (evEs F es env cs).bind fun ds cs1 => if ds.length ≤ 1000 then .ok ds cs1 else .bad
  | .comp own tg it c elt, env, cs => (evT F it env cs).bind fun s cs1 => if s.items.length ≤ line then compD s.same (fun d cs2 => match asgD tg d (wipeD env own) with
      | some env' => ((evC F c env' cs2).bind fun k cs3 => if k then (evE F elt env' cs3).bind fun y cs4 => .ok (some y) cs4 else .ok none cs3).noX
      | none => .bad) s.items cs1 else .bad
  | .cat a b, env, cs => (evE F a env cs).bind fun x cs1 => (evE F b env cs1).bind fun y cs2 => match view cs2 x, view cs2 y with
    | .lst xs, .lst ys => if xs.length + ys.length ≤ line then .ok (xs ++ ys) cs2 else .bad
    | _, _ => .bad
  | .rep a b, env, cs => (evE F a env cs).bind fun x cs1 => (evE F b env cs1).bind fun y cs2 => match view cs2 x, y with
    | .lst xs, .int k => if inR k ∧ xs.length * k.toNat ≤ line then .ok (List.replicate k.toNat xs).flatten cs2 else .bad
    | _, _ => .bad
  | .of e, env, cs => (evE F e env cs).bind fun x cs1 => optR (seqV (view cs1 x)) cs1
  | .ofr it, env, cs => (evT F it env cs).bind fun s cs1 => if s.items.length ≤ line then .ok s.items cs1 else .bad
noncomputable def evT (F : Ctx) : IT → Env → Cs → Res Src
  | .seq e, env, cs => (evE F e env cs).bind fun d cs1 => optR (walkD cs1 d) cs1
  | .rng1 a, env, cs => (evE F a env cs).bind fun d cs1 => match d with
    | .int i => if inR i then .ok ⟨none, rngD 0 i.toNat⟩ cs1 else .bad
    | _ => .bad
  | .rng2 a b, env, cs => (evE F a env cs).bind fun d cs1 => (evE F b env cs1).bind fun e cs2 => match d, e with
    | .int i, .int j => if inR i ∧ inR j then .ok ⟨none, rngD i (j - i).toNat⟩ cs2 else .bad
    | _, _ => .bad
  | .rng3 a b c, env, cs => (evE F a env cs).bind fun d cs1 => (evE F b env cs1).bind fun e cs2 => (evE F c env cs2).bind fun g cs3 => match d, e, g with
    | .int i, .int j, .int k => if k ≠ 0 ∧ k.natAbs < 1073741824 ∧ PySem.Builtin.Range.small i j k = true ∧ 0 ≤ PySem.Builtin.Range.rangeSize i j k then .ok ⟨none, rng3D i k (PySem.Builtin.Range.rangeSize i j k).toNat⟩ cs3 else .bad
    | _, _, _ => .bad
  | .zip a b, env, cs => (evE F a env cs).bind fun d cs1 => (evE F b env cs1).bind fun e cs2 => optR ((zipD d e).map (Src.mk none)) cs2
end
mutual
noncomputable def exS (F : Ctx) : IS → Env → Cs → Out
  | .ret e, env, cs => (evE F e env cs).out env fun d cs1 => .ret d cs1
  | .retN, _, cs => .ret .non cs
  | .drop e, env, cs => (evE F e env cs).out env fun _ cs1 => .nx env cs1
  | .asg tg e, env, cs => (evE F e env cs).out env fun d cs1 => match asgD tg d env with
    | some env' => .nx env' cs1
    | none => .bad
  | .setI o i e, env, cs => (evE F e env cs).out env fun d cs1 => (evE F o env cs1).out env fun x cs2 => (evE F i env cs2).out env fun k cs3 => match setC x k d cs3 with
    | some cs4 => .nx env cs4
    | none => .bad
  | .setA o f e, env, cs => (evE F e env cs).out env fun d cs1 => (evE F o env cs1).out env fun x cs2 => match setAC x f d cs2 with
    | some cs3 => .nx env cs3
    | none => .bad
  | .aug i op e, env, cs => match env[i]? with
    | some (some x) => (evE F e env cs).out env fun y cs1 => match augD op x y with
      | some z => .nx (env.set i (some z)) cs1
      | none => .bad
    | _ => .bad
  | .augI o i op e, env, cs => (evE F o env cs).out env fun x cs1 => (evE F i env cs1).out env fun k cs2 => match idxG (view cs2 x) k with
    | some v => (evE F e env cs2).out env fun y cs3 => match augD op v y with
      | some z => match setC x k z cs3 with
        | some cs4 => .nx env cs4
        | none => .bad
      | none => .bad
    | none => .bad
  | .ife c a b, env, cs => (tstR (evE F c env cs)).out env fun k cs1 => if k then exSs F a env cs1 else exSs F b env cs1
  | .forS tg it b, env, cs => (evT F it env cs).out env fun s cs1 => forD s.same (fun d env cs2 => match asgD tg d env with
      | some env' => exSs F b env' cs2
      | none => .bad) s.items env cs1
  | .whileS c b, env, cs => whileD (fun env cs => tstR (evE F c env cs)) (exSs F b) F.fuel env cs
  | .raise c es, env, cs => (evEs F es env cs).out env fun ds cs1 => .exc c ds env cs1
  | .never, _, _ => .bad
  | .thru b, env, cs => match exSs F b env cs with
    | .exc _ _ _ _ => .bad
    | r => r
  | .pass, env, cs => .nx env cs
  | .brk, env, cs => .brk env cs
  | .cnt, env, cs => .cnt env cs
noncomputable def exSs (F : Ctx) : ISs → Env → Cs → Out
  | .nil, env, cs => .nx env cs
  | .cons s ss, env, cs => (exS F s env cs).seq fun env cs => exSs F ss env cs
end

/-! ### a def's end: what is left of the cells, a result without the def's own cells -/
mutual
def fz1 (tab : Nat → Option D) : D → Option D
  | .ptr i => tab i
  | .tup xs => (fzs tab xs).map .tup
  | .lst xs => (fzs tab xs).map .lst
  | .frz xs => (fzs tab xs).map .frz
  | .dct kvs => (fzk tab kvs).map .dct
  | .ins c fs => (fzf tab fs).map (.ins c)
  | .non => some .non
  | .bl b => some (.bl b)
  | .int i => some (.int i)
  | .str s => some (.str s)
def fzs (tab : Nat → Option D) : List D → Option (List D)
  | [] => some []
  | d :: ds => match fz1 tab d, fzs tab ds with
    | some x, some xs => some (x :: xs)
    | _, _ => none
def fzk (tab : Nat → Option D) : List (D × D) → Option (List (D × D))
  | [] => some []
  | (a, b) :: ds => match fz1 tab b, fzk tab ds with
    | some x, some xs => some ((a, x) :: xs)
    | _, _ => none
def fzf (tab : Nat → Option D) : List (Nat × D) → Option (List (Nat × D))
  | [] => some []
  | (a, b) :: ds => match fz1 tab b, fzf tab ds with
    | some x, some xs => some ((a, x) :: xs)
    | _, _ => none
end
def fzC (tab : Nat → Option D) : Cell → Option D
  | .lst xs => (fzs tab xs).map .lst
  | .dct kvs => (fzk tab kvs).map .dct
  | .ins c fs => (fzf tab fs).map (.ins c)
def tabN (n : Nat) (cs : Cs) : Nat → Nat → Option D
  | 0, i => if i < n then some (.ptr i) else none
  | k + 1, i => if i < n then some (.ptr i) else match cs[i]? with
    | some c => fzC (tabN n cs k) c
    | none => none
def fz (n : Nat) (cs : Cs) (d : D) : Option D := fz1 (tabN n cs 4) d
/-- the cells below n are as they were, or speak of cells below n alone -/
def okCells (n : Nat) (cs cs2 : Cs) : Prop := ∀ i, i < n → cs2[i]? = cs[i]? ∨ ∃ c d, cs2[i]? = some c ∧ fzC (fun j => if j < n then some (.ptr j) else none) c = some d
open Classical in
noncomputable def fin (keep : Bool) (cs : Cs) (d : D) (cs2 : Cs) : Res D :=
  if keep = true ∨ cs2.length = cs.length then .ok d cs2 else if cs.length ≤ cs2.length ∧ okCells cs.length cs cs2 then match fz cs.length cs2 d with
    | some d' => .ok d' (cs2.take cs.length)
    | none => .bad
  else .bad
open Classical in
noncomputable def finX (cs : Cs) (c : Nat) (ds : List D) (cs2 : Cs) : Res D :=
  if cs2.length = cs.length then .exc c ds cs2 else if cs.length ≤ cs2.length ∧ okCells cs.length cs cs2 then match fzs (tabN cs.length cs2 4) ds with
    | some ds' => .exc c ds' (cs2.take cs.length)
    | none => .bad
  else .bad
structure Fn where
  name : PySem.Str
  ps : List PySem.Str
  N : List PySem.Str
  body : ISs
  keep : Bool
  /-- the ways in which keywords are handed to it -/
  kw : List (List PySem.Str × List Nat)
structure Glob where
  fns : List Fn
  consts : List (PySem.Str × D)
  flds : List PySem.Str
noncomputable def ctxD (G : Glob) (fn : Nat → List D → Cs → Res D) : Ctx := { fn := fn, glb := fun n => (G.consts[n]?).map (·.2), fuel := 4096 }

noncomputable def callD (G : Glob) : Nat → Nat → List D → Cs → Res D
  | 0, _, _, _ => .bad
  | k + 1, i, ds, cs => match G.fns[i]? with
    | some r => if ds.length = r.ps.length then match exSs (ctxD G (callD G k)) r.body (ds.map some ++ List.replicate (r.N.length - ds.length) none) cs with
        | .ret d cs2 => fin r.keep cs d cs2
        | .nx _ cs2 => fin r.keep cs .non cs2
        | .exc c fs _ cs2 => finX cs c fs cs2
        | _ => .bad
      else .bad
    | none => .bad
end DH
end
section
set_option Elab.async false
set_option linter.all false
set_option maxRecDepth 100000
set_option maxHeartbeats 1000000
/-! DH2: how plain values and cells lie in the abstract heap. -/
namespace DH
open PySem L2

/-- what is fixed: the written part, the classes' addresses, the attributes' names, the fields of the error classes -/
structure Wd where
  K : PySem.W.Frag
  cl : Nat → Option Addr
  fname : Nat → Str
  xf : Nat → List Str
  xc : Nat → Option Addr
/-- the cells' addresses; what is being made just now -/
structure Ad where
  r : List Addr
  b : List Addr
def Ad.no (A : Ad) (a : Addr) : Prop := a ∉ A.r ∧ a ∉ A.b
def KSeqL (K : PySem.W.Frag) (a : Addr) (xs : List V) : Prop := ∃ (o : Obj) (its : Array Value) (n : Nat), K.lookup a = some o ∧ o.cls = .type "list" ∧ o.dict = none ∧ o.data = .seq its n ∧ its.size ≤ sizeLine ∧ Vals xs its.toList
def KSeqT (K : PySem.W.Frag) (a : Addr) (xs : List V) : Prop := ∃ (o : Obj) (its : Array Value) (n : Nat), K.lookup a = some o ∧ o.cls = .type "tuple" ∧ o.data = .seq its n ∧ its.size ≤ sizeLine ∧ Vals xs its.toList
def keyR : Key → D → Prop
  | .inl i, .int j => i = j
  | .inr x, .str s => x = ⟨s.toArray⟩
  | _, _ => False
mutual
inductive Rep (W : Wd) (A : Ad) (H : Hp) : V → D → Prop
  | non : Rep W A H .non .non
  | bl (b : Bool) : Rep W A H (.bl b) (.bl b)
  | int (i : Int) : Rep W A H (.int i) (.int i)
  | str (s : List Nat) : s.length ≤ line → Rep W A H (.str ⟨s.toArray⟩) (.str s)
  | tup {a : Addr} {vs : List V} {ds : List D} : A.no a → Rd H a (.tup vs) → RepL W A H vs ds → Rep W A H (.ref a) (.tup ds)
  | tupK {a : Addr} {vs : List V} {ds : List D} : KSeqT W.K a vs → RepL W A H vs ds → Rep W A H (.ref a) (.tup ds)
  | lst {a : Addr} {vs : List V} {ds : List D} : A.no a → H a = some (.lst vs) → RepL W A H vs ds → Rep W A H (.ref a) (.lst ds)
  | frz {a : Addr} {vs : List V} {ds : List D} : A.no a → Rd H a (.lst vs) → RepL W A H vs ds → Rep W A H (.ref a) (.frz ds)
  | frzK {a : Addr} {vs : List V} {ds : List D} : KSeqL W.K a vs → RepL W A H vs ds → Rep W A H (.ref a) (.frz ds)
  | dct {a : Addr} {ks : List (Key × V)} {kvs : List (D × D)} : A.no a → H a = some (.dK ks) → RepK W A H ks kvs → Rep W A H (.ref a) (.dct kvs)
  | ins {a C dx : Addr} {vs : List (Str × V)} {c : Nat} {fs : List (Nat × D)} : A.no a → W.cl c = some C → H a = some (.ins C dx vs) → RepF W A H vs fs → Rep W A H (.ref a) (.ins c fs)
  | ptr {i : Nat} {a : Addr} : A.r[i]? = some a → Rep W A H (.ref a) (.ptr i)
inductive RepL (W : Wd) (A : Ad) (H : Hp) : List V → List D → Prop
  | nil : RepL W A H [] []
  | cons {v : V} {vs : List V} {d : D} {ds : List D} : Rep W A H v d → RepL W A H vs ds → RepL W A H (v :: vs) (d :: ds)
inductive RepK (W : Wd) (A : Ad) (H : Hp) : List (Key × V) → List (D × D) → Prop
  | nil : RepK W A H [] []
  | cons {k : Key} {v : V} {vs : List (Key × V)} {e d : D} {ds : List (D × D)} : keyR k e → Rep W A H v d → RepK W A H vs ds → RepK W A H ((k, v) :: vs) ((e, d) :: ds)
inductive RepF (W : Wd) (A : Ad) (H : Hp) : List (Str × V) → List (Nat × D) → Prop
  | nil : RepF W A H [] []
  | cons {f : Nat} {v : V} {vs : List (Str × V)} {d : D} {ds : List (Nat × D)} : Rep W A H v d → RepF W A H vs ds → RepF W A H ((W.fname f, v) :: vs) ((f, d) :: ds)
end
/-- a cell as it lies -/
def CellOk (W : Wd) (A : Ad) (H : Hp) (a : Addr) : Cell → Prop
  | .lst ds => ∃ vs, H a = some (.lst vs) ∧ RepL W A H vs ds
  | .dct kvs => ∃ ks, H a = some (.dK ks) ∧ RepK W A H ks kvs
  | .ins c fs => ∃ C dx vs, W.cl c = some C ∧ H a = some (.ins C dx vs) ∧ RepF W A H vs fs
structure Sta (W : Wd) (A : Ad) (H : Hp) (cs : Cs) : Prop where
  nd : A.r.Nodup
  len : A.r.length = cs.length
  cell : ∀ (i : Nat) (a : Addr) (c : Cell), A.r[i]? = some a → cs[i]? = some c → CellOk W A H a c
  busy : ∀ a ∈ A.b, a ∉ A.r ∧ ∃ o, H a = some o
/-- later: further cells, all that is no cell stands -/
structure Ext (A : Ad) (H : Hp) (A' : Ad) (H' : Hp) : Prop where
  pre : ∃ nu, A'.r = A.r ++ nu ∧ ∀ p ∈ nu, p ∉ A.r ∧ H p = none
  bus : A'.b = A.b
  keep : ∀ a o, a ∉ A.r → H a = some o → H' a = some o

section
variable {W : Wd} {A A' A1 : Ad} {H H' H1 : Hp} {cs cs' : Cs}
theorem Ext.refl : Ext A H A H := ⟨⟨[], by simp, by simp⟩, rfl, fun _ _ _ h => h⟩
theorem Ext.trans (e : Ext A H A1 H1) (e' : Ext A1 H1 A' H') : Ext A H A' H' := by
  obtain ⟨nu, e1, n1⟩ := e.pre
  obtain ⟨nu', e2, n2⟩ := e'.pre
  refine ⟨⟨nu ++ nu', by rw [e2, e1, List.append_assoc], fun p hp => ?_⟩, e'.bus.trans e.bus, fun a o ha h => ?_⟩
  · rcases List.mem_append.mp hp with h | h
    · exact n1 p h
    · obtain ⟨q1, q2⟩ := n2 p h
      have hA : p ∉ A.r := fun z => q1 (by rw [e1]; exact List.mem_append_left _ z)
      refine ⟨hA, ?_⟩
      cases q : H p with
      | none => rfl
      | some o => rw [e.keep p o hA q] at q2; cases q2
  · refine e'.keep a o (fun z => ?_) (e.keep a o ha h)
    rw [e1] at z
    rcases List.mem_append.mp z with z | z
    · exact ha z
    · rw [(n1 a z).2] at h; cases h
theorem Ext.no {a : Addr} {o : HO} (e : Ext A H A' H') (n : A.no a) (h : H a = some o) : A'.no a := by
  obtain ⟨nu, e1, n1⟩ := e.pre
  refine ⟨fun z => ?_, by rw [e.bus]; exact n.2⟩
  rw [e1] at z
  rcases List.mem_append.mp z with z | z
  · exact n.1 z
  · rw [(n1 a z).2] at h; cases h
theorem Ext.rd {a : Addr} {u : HO} (e : Ext A H A' H') (n : A.no a) (h : Rd H a u) : Rd H' a u ∧ A'.no a := by
  rcases h with h | ⟨o, h⟩
  · exact ⟨.inl (e.keep _ _ n.1 h), e.no n h⟩
  · exact ⟨.inr ⟨o, e.keep _ _ n.1 h⟩, e.no n h⟩
theorem Ext.ptr {i : Nat} {a : Addr} (e : Ext A H A' H') (h : A.r[i]? = some a) : A'.r[i]? = some a := by
  obtain ⟨nu, e1, _⟩ := e.pre
  rw [e1]
  have hi : i < A.r.length := (List.getElem?_eq_some_iff.mp h).1
  rw [List.getElem?_append_left hi]; exact h
mutual
theorem Rep.mono (e : Ext A H A' H') : ∀ {v : V} {d : D}, Rep W A H v d → Rep W A' H' v d
  | _, _, .non => .non
  | _, _, .bl b => .bl b
  | _, _, .int i => .int i
  | _, _, .str s h => .str s h
  | _, _, .tup n h r => .tup (e.rd n h).2 (e.rd n h).1 (RepL.mono e r)
  | _, _, .tupK h r => .tupK h (RepL.mono e r)
  | _, _, .lst n h r => .lst (e.no n h) (e.keep _ _ n.1 h) (RepL.mono e r)
  | _, _, .frz n h r => .frz (e.rd n h).2 (e.rd n h).1 (RepL.mono e r)
  | _, _, .frzK h r => .frzK h (RepL.mono e r)
  | _, _, .dct n h r => .dct (e.no n h) (e.keep _ _ n.1 h) (RepK.mono e r)
  | _, _, .ins n c h r => .ins (e.no n h) c (e.keep _ _ n.1 h) (RepF.mono e r)
  | _, _, .ptr h => .ptr (e.ptr h)
theorem RepL.mono (e : Ext A H A' H') : ∀ {v : List V} {d : List D}, RepL W A H v d → RepL W A' H' v d
  | _, _, .nil => .nil
  | _, _, .cons r t => .cons (Rep.mono e r) (RepL.mono e t)
theorem RepK.mono (e : Ext A H A' H') : ∀ {v : List (Key × V)} {d : List (D × D)}, RepK W A H v d → RepK W A' H' v d
  | _, _, .nil => .nil
  | _, _, .cons k r t => .cons k (Rep.mono e r) (RepK.mono e t)
theorem RepF.mono (e : Ext A H A' H') : ∀ {v : List (Str × V)} {d : List (Nat × D)}, RepF W A H v d → RepF W A' H' v d
  | _, _, .nil => .nil
  | _, _, .cons r t => .cons (Rep.mono e r) (RepF.mono e t)
end
theorem CellOk.mono (e : Ext A H A' H') {a : Addr} (h : H' a = H a) : ∀ {c : Cell}, CellOk W A H a c → CellOk W A' H' a c
  | .lst _, ⟨vs, q, r⟩ => ⟨vs, h.trans q, r.mono e⟩
  | .dct _, ⟨vs, q, r⟩ => ⟨vs, h.trans q, r.mono e⟩
  | .ins _ _, ⟨C, dx, vs, c, q, r⟩ => ⟨C, dx, vs, c, h.trans q, r.mono e⟩
theorem CellOk.there {a : Addr} : ∀ {c : Cell}, CellOk W A H a c → ∃ o, H a = some o
  | .lst _, ⟨vs, q, r⟩ => ⟨_, q⟩
  | .dct _, ⟨vs, q, r⟩ => ⟨_, q⟩
  | .ins _ _, ⟨C, dx, vs, c, q, r⟩ => ⟨_, q⟩
/-- every cell stands in the heap -/
theorem Sta.at (S : Sta W A H cs) {a : Addr} (h : a ∈ A.r) : ∃ (i : Nat) (c : Cell), A.r[i]? = some a ∧ cs[i]? = some c ∧ CellOk W A H a c := by
  obtain ⟨i, hi, e⟩ := List.mem_iff_getElem.mp h
  have hi' : i < cs.length := by rw [← S.len]; exact hi
  have e1 : A.r[i]? = some a := by rw [List.getElem?_eq_getElem hi, e]
  have e2 : cs[i]? = some cs[i] := List.getElem?_eq_getElem hi'
  exact ⟨i, _, e1, e2, S.cell i a _ e1 e2⟩
theorem Sta.free (S : Sta W A H cs) {p : Addr} (h : H p = none) : A.no p := by
  refine ⟨fun z => ?_, fun z => ?_⟩
  · obtain ⟨i, c, _, _, ok⟩ := S.at z
    obtain ⟨o, e⟩ := ok.there
    rw [h] at e; cases e
  · obtain ⟨_, o, e⟩ := S.busy p z
    rw [h] at e; cases e
/-- something new that is no cell -/
theorem Ext.new {p : Addr} {o : HO} (h : H p = none) : Ext A H A (upd H p o) :=
  ⟨⟨[], by simp, by simp⟩, rfl, fun a u _ q => by rw [upd_ne (ne_of_none q h)]; exact q⟩
theorem Sta.ext (S : Sta W A H cs) (e : Ext A H A H') (k : ∀ a ∈ A.r, H' a = H a) : Sta W A H' cs :=
  ⟨S.nd, S.len, fun i a c h1 h2 => (S.cell i a c h1 h2).mono e (k a (List.mem_of_getElem? h1)), fun a ha => by
    obtain ⟨n, o, q⟩ := S.busy a ha
    exact ⟨n, o, e.keep a o n q⟩⟩
theorem Sta.new {p : Addr} {o : HO} (S : Sta W A H cs) (h : H p = none) : Sta W A (upd H p o) cs :=
  S.ext (.new h) fun a ha => by
    obtain ⟨i, c, _, _, ok⟩ := S.at ha
    obtain ⟨u, e⟩ := ok.there
    exact upd_ne (ne_of_none e h)
theorem RepL.length : ∀ {vs : List V} {ds : List D}, RepL W A H vs ds → vs.length = ds.length
  | _, _, .nil => rfl
  | _, _, .cons _ t => by simp [RepL.length t]
theorem RepK.length : ∀ {vs : List (Key × V)} {ds : List (D × D)}, RepK W A H vs ds → vs.length = ds.length
  | _, _, .nil => rfl
  | _, _, .cons _ _ t => by simp [RepK.length t]
theorem RepL.get : ∀ {vs : List V} {ds : List D} {i : Nat} {d : D}, RepL W A H vs ds → ds[i]? = some d → ∃ v, vs[i]? = some v ∧ Rep W A H v d
  | _, _, _, _, .nil, h => by simp at h
  | _, _, 0, _, .cons r t, h => by simp at h; subst h; exact ⟨_, rfl, r⟩
  | _, _, i + 1, _, .cons r t, h => by
    obtain ⟨v, e, q⟩ := RepL.get t (i := i) (by simpa using h)
    exact ⟨v, by simpa using e, q⟩
theorem RepL.getV : ∀ {vs : List V} {ds : List D} {i : Nat} {v : V}, RepL W A H vs ds → vs[i]? = some v → ∃ d, ds[i]? = some d ∧ Rep W A H v d
  | _, _, _, _, .nil, h => by simp at h
  | _, _, 0, _, .cons r t, h => by simp at h; subst h; exact ⟨_, rfl, r⟩
  | _, _, i + 1, _, .cons r t, h => by
    obtain ⟨v, e, q⟩ := RepL.getV t (i := i) (by simpa using h)
    exact ⟨v, by simpa using e, q⟩
theorem RepL.append : ∀ {vs ws : List V} {ds es : List D}, RepL W A H vs ds → RepL W A H ws es → RepL W A H (vs ++ ws) (ds ++ es)
  | _, _, _, _, .nil, s => s
  | _, _, _, _, .cons r t, s => .cons r (RepL.append t s)
theorem RepL.set {v : V} {d : D} (r : Rep W A H v d) : ∀ {vs : List V} {ds : List D} (i : Nat), RepL W A H vs ds → RepL W A H (vs.set i v) (ds.set i d)
  | _, _, _, .nil => .nil
  | _, _, 0, .cons _ t => .cons r t
  | _, _, i + 1, .cons q t => .cons q (RepL.set r i t)
theorem RepL.take : ∀ {vs : List V} {ds : List D} (n : Nat), RepL W A H vs ds → RepL W A H (vs.take n) (ds.take n)
  | _, _, 0, _ => .nil
  | _, _, _ + 1, .nil => .nil
  | _, _, n + 1, .cons r t => .cons r (RepL.take n t)
theorem RepL.drop : ∀ {vs : List V} {ds : List D} (n : Nat), RepL W A H vs ds → RepL W A H (vs.drop n) (ds.drop n)
  | _, _, 0, r => r
  | _, _, _ + 1, .nil => .nil
  | _, _, n + 1, .cons r t => RepL.drop n t
theorem RepL.eraseIdx : ∀ {vs : List V} {ds : List D} (i : Nat), RepL W A H vs ds → RepL W A H (vs.eraseIdx i) (ds.eraseIdx i)
  | _, _, _, .nil => .nil
  | _, _, 0, .cons _ t => t
  | _, _, i + 1, .cons q t => .cons q (RepL.eraseIdx i t)
theorem RepL.dropLast {vs : List V} {ds : List D} (h : RepL W A H vs ds) : RepL W A H vs.dropLast ds.dropLast := by
  rw [List.dropLast_eq_take, List.dropLast_eq_take, h.length]
  exact h.take _
theorem RepL.rep {vs : List V} {ds : List D} (h : RepL W A H vs ds) : ∀ k : Nat, RepL W A H (List.replicate k vs).flatten (List.replicate k ds).flatten
  | 0 => .nil
  | k + 1 => by
    rw [List.replicate_succ, List.replicate_succ, List.flatten_cons, List.flatten_cons]
    exact h.append (RepL.rep h k)

/-! ### a cell changes -/
theorem Ext.write {i : Nat} {a : Addr} {o : HO} (h : A.r[i]? = some a) : Ext A H A (upd H a o) :=
  ⟨⟨[], by simp, by simp⟩, rfl, fun b u nb q => by
    rw [upd_ne (fun z => nb (by rw [z]; exact List.mem_of_getElem? h))]; exact q⟩
theorem nodup_at {l : List Addr} (nd : l.Nodup) {i j : Nat} {a : Addr} (h : l[i]? = some a) (h' : l[j]? = some a) : i = j := by
  obtain ⟨h1, e1⟩ := List.getElem?_eq_some_iff.mp h
  obtain ⟨h2, e2⟩ := List.getElem?_eq_some_iff.mp h'
  exact (List.getElem_inj nd).mp (e1.trans e2.symm)
theorem Sta.write {i : Nat} {a : Addr} {o : HO} {c : Cell} (S : Sta W A H cs) (h : A.r[i]? = some a) (ok : CellOk W A (upd H a o) a c) : Sta W A (upd H a o) (cs.set i c) := by
  have e : Ext A H A (upd H a o) := .write h
  refine ⟨S.nd, by rw [List.length_set]; exact S.len, fun j b c' h1 h2 => ?_, fun b hb => ?_⟩
  · by_cases hj : j = i
    · subst hj
      rw [h] at h1; cases h1
      rw [List.getElem?_set_self' ] at h2
      cases q : cs[j]? with
      | none => rw [q] at h2; cases h2
      | some z => rw [q] at h2; cases h2; exact ok
    · rw [List.getElem?_set_ne (Ne.symm hj)] at h2
      have hb : b ≠ a := fun z => hj (nodup_at S.nd h1 (z ▸ h))
      exact (S.cell j b c' h1 h2).mono e (upd_ne hb)
  · obtain ⟨n, u, q⟩ := S.busy b hb
    exact ⟨n, u, e.keep b u n q⟩
/-- a new cell -/
def Ad.push (A : Ad) (p : Addr) : Ad := ⟨A.r ++ [p], A.b⟩
theorem Ext.push {p : Addr} (S : Sta W A H cs) (h : H p = none) {H' : Hp} (k : ∀ a o, a ∉ A.r → H a = some o → H' a = some o) : Ext A H (A.push p) H' :=
  ⟨⟨[p], rfl, fun q hq => by rw [List.mem_singleton.mp hq]; exact ⟨(S.free h).1, h⟩⟩, rfl, k⟩
theorem Sta.push {p : Addr} {c : Cell} (S : Sta W A H' cs) (n : A.no p) (e : Ext A H' (A.push p) H') (ok : CellOk W (A.push p) H' p c) : Sta W (A.push p) H' (cs ++ [c]) := by
  refine ⟨?_, by simp [Ad.push, S.len], fun i a c' h1 h2 => ?_, fun a ha => ?_⟩
  · show (A.r ++ [p]).Nodup
    rw [List.nodup_append]
    refine ⟨S.nd, by simp, fun a ha b hb => ?_⟩
    rw [List.mem_singleton.mp hb]
    intro z; subst z; exact n.1 ha
  · have h1' : (A.r ++ [p])[i]? = some a := h1
    by_cases hi : i < A.r.length
    · rw [List.getElem?_append_left hi] at h1'
      rw [List.getElem?_append_left (by rw [← S.len]; exact hi)] at h2
      exact (S.cell i a c' h1' h2).mono e rfl
    · rw [List.getElem?_append_right (by omega)] at h1'
      rw [List.getElem?_append_right (by rw [← S.len]; omega), ← S.len] at h2
      have hz : i - A.r.length = 0 := by
        have := (List.getElem?_eq_some_iff.mp h1').1
        simp at this; omega
      rw [hz] at h1' h2
      simp at h1' h2
      subst h1' h2
      exact ok
  · obtain ⟨q1, q2⟩ := S.busy a ha
    refine ⟨fun z => ?_, q2⟩
    rcases List.mem_append.mp z with z | z
    · exact q1 z
    · rw [List.mem_singleton.mp z] at ha
      exact n.2 ha

/-! ### what a viewed value is -/
def RepV (W : Wd) (A : Ad) (H : Hp) (v : V) : D → Prop
  | .non => v = .non
  | .bl b => v = .bl b
  | .int i => v = .int i
  | .str s => v = .str ⟨s.toArray⟩ ∧ s.length ≤ line
  | .tup ds => ∃ a vs, v = .ref a ∧ SqT W.K H a vs ∧ RepL W A H vs ds ∧ Rep W A H v (.tup ds)
  | .lst ds => ∃ a vs, v = .ref a ∧ H a = some (.lst vs) ∧ RepL W A H vs ds
  | .frz ds => ∃ a vs, v = .ref a ∧ SqL W.K H a vs ∧ RepL W A H vs ds
  | .dct kvs => ∃ a ks, v = .ref a ∧ H a = some (.dK ks) ∧ RepK W A H ks kvs
  | .ins c fs => ∃ a C dx vs, v = .ref a ∧ W.cl c = some C ∧ H a = some (.ins C dx vs) ∧ RepF W A H vs fs
  | .ptr _ => True
theorem Rep.val {v : V} {d : D} : Rep W A H v d → RepV W A H v d
  | .non => rfl
  | .bl b => rfl
  | .int i => rfl
  | .str s h => ⟨rfl, h⟩
  | .tup n h r => ⟨_, _, rfl, .inl h, r, .tup n h r⟩
  | .tupK h r => ⟨_, _, rfl, .inr h, r, .tupK h r⟩
  | .lst n h r => ⟨_, _, rfl, h, r⟩
  | .frz n h r => ⟨_, _, rfl, .inl h, r⟩
  | .frzK h r => ⟨_, _, rfl, .inr h, r⟩
  | .dct n h r => ⟨_, _, rfl, h, r⟩
  | .ins n c h r => ⟨_, _, _, _, rfl, c, h, r⟩
  | .ptr h => True.intro
theorem Rep.view (S : Sta W A H cs) {v : V} {d : D} (r : Rep W A H v d) : RepV W A H v (DH.view cs d) := by
  cases d with
  | ptr i =>
    cases r with
    | @ptr i a h =>
      unfold DH.view
      have hi : i < cs.length := by rw [← S.len]; exact (List.getElem?_eq_some_iff.mp h).1
      have e : cs[i]? = some cs[i] := List.getElem?_eq_getElem hi
      have ok := S.cell i a _ h e
      simp only [e]
      cases q : cs[i] with
      | lst xs => rw [q] at ok; obtain ⟨vs, q1, q2⟩ := ok; exact ⟨a, vs, rfl, q1, q2⟩
      | dct xs => rw [q] at ok; obtain ⟨vs, q1, q2⟩ := ok; exact ⟨a, vs, rfl, q1, q2⟩
      | ins c xs => rw [q] at ok; obtain ⟨C, dx, vs, q0, q1, q2⟩ := ok; exact ⟨a, C, dx, vs, rfl, q0, q1, q2⟩
  | _ => exact r.val
end

/-! ### the slots -/
structure REnv (W : Wd) (A : Ad) (H : Hp) (σ : L2.St) (env : Env) : Prop where
  len : σ.length = env.length
  at_ : ∀ (i : Nat) (d : D), env[i]? = some (some d) → ∃ v, σ[i]? = some (some v) ∧ Rep W A H v d
section
variable {W : Wd} {A A' : Ad} {H H' : Hp} {σ : L2.St} {env : Env}
theorem REnv.mono (r : REnv W A H σ env) (e : Ext A H A' H') : REnv W A' H' σ env := ⟨r.len, fun i d h => by
  obtain ⟨v, q, z⟩ := r.at_ i d h
  exact ⟨v, q, z.mono e⟩⟩
theorem REnv.set (r : REnv W A H σ env) {v : V} {d : D} (i : Nat) (h : Rep W A H v d) : REnv W A H (σ.set i (some v)) (env.set i (some d)) := by
  refine ⟨by simp [r.len], fun j e q => ?_⟩
  by_cases hj : j = i
  · subst hj
    rw [List.getElem?_set_self'] at q
    cases z : env[j]? with
    | none => rw [z] at q; cases q
    | some y =>
      rw [z] at q
      cases q
      have hl : j < σ.length := by rw [r.len]; exact (List.getElem?_eq_some_iff.mp z).1
      exact ⟨v, by rw [List.getElem?_set_self hl], h⟩
  · rw [List.getElem?_set_ne (Ne.symm hj)] at q
    obtain ⟨u, q1, q2⟩ := r.at_ j e q
    exact ⟨u, by rw [List.getElem?_set_ne (Ne.symm hj)]; exact q1, q2⟩
theorem REnv.clear (r : REnv W A H σ env) (i : Nat) : REnv W A H (σ.set i none) (env.set i none) := by
  refine ⟨by simp [r.len], fun j e q => ?_⟩
  by_cases hj : j = i
  · subst hj
    rw [List.getElem?_set_self'] at q
    cases z : env[j]? with
    | none => rw [z] at q; cases q
    | some y => rw [z] at q; cases q
  · rw [List.getElem?_set_ne (Ne.symm hj)] at q
    obtain ⟨u, q1, q2⟩ := r.at_ j e q
    exact ⟨u, by rw [List.getElem?_set_ne (Ne.symm hj)]; exact q1, q2⟩
theorem REnv.wipe (r : REnv W A H σ env) : ∀ vs : List Nat, REnv W A H (L2.wipe σ vs) (wipeD env vs)
  | [] => r
  | v :: vs => by
    show REnv W A H ((L2.wipe σ vs).set v none) ((wipeD env vs).set v none)
    exact (REnv.wipe r vs).clear v
end

/-! ### ends -/
section
variable (W : Wd) (X : WX)
def RepX (A : Ad) (H : Hp) (c : Nat) (vs : List (Str × V)) (fs : List D) : Prop := ∀ (i : Nat) f d, (W.xf c)[i]? = some f → fs[i]? = some d → ∃ v, vs.lookup f = some v ∧ Rep W A H v d
/-- an exception of class c with these fields -/
def ExcW (A : Ad) (σ : L2.St) (H : Hp) (c : Nat) (fs : List D) (cs' : Cs) : Prop := ∀ A' H' C dx vs, Ext A H A' H' → Sta W A' H' cs' → W.xc c = some C → H' dx = some (.xd vs) → A'.no dx → RepX W A' H' c vs fs → X (.ref C) (some dx) σ H'
def FinG {α β : Type} (R : Ad → Hp → β → α → Prop) (A : Ad) (σ : L2.St) (H : Hp) (Q : β → Hp → Prop) : Res α → Prop
  | .ok a cs' => ∀ A' H' b, Ext A H A' H' → Sta W A' H' cs' → R A' H' b a → Q b H'
  | .exc c fs cs' => ExcW W X A σ H c fs cs'
  | .bad => False
def tG {α β : Type} (R : Ad → Hp → β → α → Prop) (m : Env → Cs → Res α) : L2.St → Hp → (β → Hp → Prop) → Prop := fun σ H Q => ∃ A env cs, REnv W A H σ env ∧ Sta W A H cs ∧ FinG W X R A σ H Q (m env cs)
end
section
variable {W : Wd} {X : WX} {α β γ δ : Type} {A A' A1 : Ad} {H H' H1 : Hp} {cs cs' : Cs} {σ : L2.St}
theorem ExcW.mono {c : Nat} {fs : List D} (e : Ext A H A1 H1) (h : ExcW W X A σ H c fs cs) : ExcW W X A1 σ H1 c fs cs :=
  fun A' H' C dx vs e' => h A' H' C dx vs (e.trans e')
theorem FinG.mono {R : Ad → Hp → β → α → Prop} {Q : β → Hp → Prop} {r : Res α} (e : Ext A H A1 H1) (h : FinG W X R A σ H Q r) : FinG W X R A1 σ H1 Q r := by
  cases r with
  | ok a cs' => exact fun A' H' b e' => h A' H' b (e.trans e')
  | exc c fs cs' => exact ExcW.mono e h
  | bad => exact h
theorem FinG.bind {R1 : Ad → Hp → β → α → Prop} {R2 : Ad → Hp → δ → γ → Prop} {Q : δ → Hp → Prop} {Q1 : β → Hp → Prop} {r : Res α} {f : α → Cs → Res γ} (h : FinG W X R2 A σ H Q (r.bind f))
    (k : ∀ a cs1, r = .ok a cs1 → ∀ A1 H1 b, Ext A H A1 H1 → Sta W A1 H1 cs1 → R1 A1 H1 b a → FinG W X R2 A1 σ H1 Q (f a cs1) → Q1 b H1) : FinG W X R1 A σ H Q1 r := by
  cases r with
  | ok a cs1 => exact fun A1 H1 b e s r => k a cs1 rfl A1 H1 b e s r (FinG.mono e h)
  | exc c fs cs1 => exact h
  | bad => exact h
theorem FinG.opt {R : Ad → Hp → β → α → Prop} {Q : β → Hp → Prop} {o : Option α} (h : FinG W X R A σ H Q (optR o cs)) : ∃ a, o = some a ∧ ∀ A' H' b, Ext A H A' H' → Sta W A' H' cs → R A' H' b a → Q b H' := by
  cases o with
  | none => exact h.elim
  | some a => exact ⟨a, rfl, h⟩
theorem FinG.opt2 {R2 : Ad → Hp → δ → γ → Prop} {Q : δ → Hp → Prop} {o : Option α} {f : α → Cs → Res γ} (h : FinG W X R2 A σ H Q ((optR o cs).bind f)) : ∃ a, o = some a ∧ FinG W X R2 A σ H Q (f a cs) := by
  cases o with
  | none => exact h.elim
  | some a => exact ⟨a, rfl, h⟩
end
end DH
end
section
set_option Elab.async false
set_option linter.all false
set_option maxRecDepth 100000
set_option maxHeartbeats 2000000
/-! DH3: operations by plain values, over the hand layer's rules. -/
namespace DH
open PySem L2

section
variable {X : Cx} {W : Wd} {A : Ad} {H : Hp} {cs : Cs}
theorem line_eq : (line : Nat) = sizeLine := by rw [sizeLine_eq]; rfl
/-- a binary operation by viewed values -/
def dOp (W : Wd) (f : D → D → Option D) : R2 := fun x y H Q => ∃ A cs d e z, Sta W A H cs ∧ RepV W A H x d ∧ RepV W A H y e ∧ f d e = some z ∧ ∀ A' H' v, Ext A H A' H' → Sta W A' H' cs → Rep W A' H' v z → Q v H'
def opPy : Op2 → Operator
  | .add => .Add | .sub => .Sub | .mul => .Mult | .fdiv => .FloorDiv | .mod => .Mod | .pow => .Pow
theorem Ends0 {Q : VK} {z : D} {v : V} (S : Sta W A H cs) (q : ∀ A' H' v, Ext A H A' H' → Sta W A' H' cs → Rep W A' H' v z → Q v H') (r : Rep W A H v z) : Q v H := q A H v .refl S r
theorem str_len (s : List Nat) : (⟨s.toArray⟩ : Str).length = s.length := by simp [Str.length]
theorem str_add (s t : List Nat) : (⟨s.toArray⟩ : Str) ++ (⟨t.toArray⟩ : Str) = ⟨(s ++ t).toArray⟩ := by
  show Str.append _ _ = _
  simp [Str.append]
theorem new_tup {Q : VK} {p : Addr} {vs : List V} {ds : List D} (S : Sta W A H cs) (hp : H p = none) (r : RepL W A H vs ds) (q : ∀ A' H' v, Ext A H A' H' → Sta W A' H' cs → Rep W A' H' v (.tup ds) → Q v H') : Q (.ref p) (upd H p (.tup vs)) :=
  q A _ _ (.new hp) (S.new hp) (.tup (S.free hp) (.inl upd_same) (r.mono (.new hp)))
theorem new_lst {Q : VK} {p : Addr} {vs : List V} {ds : List D} (S : Sta W A H cs) (hp : H p = none) (r : RepL W A H vs ds) (q : ∀ A' H' v, Ext A H A' H' → Sta W A' H' cs → Rep W A' H' v (.lst ds) → Q v H') : Q (.ref p) (upd H p (.lst vs)) :=
  q A _ _ (.new hp) (S.new hp) (.lst (S.free hp) upd_same (r.mono (.new hp)))
theorem RepL.nil_of {vs : List V} {ds : List D} (r : RepL W A H vs ds) (e : vs = []) : ds = [] := by
  subst e; cases r; rfl

theorem op_bin (hK : X.K = W.K) (op : Op2) : OpR X (binaryOp (opPy op)) (dOp W (binD op)) := by
  intro pins s σ H x y v u Q I rx ry h
  obtain ⟨A, cs, d, e, z, S, rd, re, hf, q⟩ := h
  have hline := line_eq
  unfold binD at hf
  split at hf
  · cases hf; cases (show x = _ from rd); cases (show y = _ from re)
    exact op_add pins s σ H _ _ v u Q I rx ry ⟨_, _, rfl, rfl, Ends0 S q (.int _)⟩
  · cases hf; cases (show x = _ from rd); cases (show y = _ from re)
    exact op_add_ib pins s σ H _ _ v u Q I rx ry ⟨_, _, rfl, rfl, Ends0 S q (.int _)⟩
  · split at hf
    · rename_i hl
      cases hf
      obtain ⟨e1, l1⟩ := (show x = _ ∧ _ from rd)
      obtain ⟨e2, l2⟩ := (show y = _ ∧ _ from re)
      subst e1 e2
      refine op_add_str pins s σ H _ _ v u Q I rx ry ⟨_, _, rfl, rfl, by rw [str_len, str_len, ← hline]; exact hl, ?_⟩
      rw [str_add]
      exact Ends0 S q (.str _ (by rw [List.length_append]; exact hl))
    · cases hf
  · split at hf
    · rename_i hl
      cases hf
      obtain ⟨a, vs, e1, s1, r1, p1⟩ := rd
      obtain ⟨b, ws, e2, s2, r2, p2⟩ := re
      subst e1 e2
      refine op_catA pins s σ H _ _ v u Q I rx ry ⟨a, b, vs, ws, rfl, rfl, by rw [hK]; exact s1, by rw [hK]; exact s2, by rw [r1.length, r2.length, ← hline]; exact hl, fun h0 => ?_, fun _ h0 => ?_, fun _ _ p hp => new_tup S hp (r1.append r2) q⟩
      · rw [r1.nil_of h0] at q
        exact Ends0 S q p2
      · rw [r2.nil_of h0, List.append_nil] at q
        exact Ends0 S q p1
    · cases hf
  · cases hf; cases (show x = _ from rd); cases (show y = _ from re)
    exact op_sub pins s σ H _ _ v u Q I rx ry ⟨_, _, rfl, rfl, Ends0 S q (.int _)⟩
  · split at hf
    · rename_i hl
      cases hf; cases (show x = _ from rd); cases (show y = _ from re)
      exact op_mul pins s σ H _ _ v u Q I rx ry ⟨_, _, rfl, rfl, hl, Ends0 S q (.int _)⟩
    · cases hf
  · split at hf
    · rename_i hl
      cases hf; cases (show x = _ from rd); cases (show y = _ from re)
      exact op_fdiv pins s σ H _ _ v u Q I rx ry ⟨_, _, rfl, rfl, hl, Ends0 S q (.int _)⟩
    · cases hf
  · split at hf
    · rename_i hl
      cases hf; cases (show x = _ from rd); cases (show y = _ from re)
      exact op_mod pins s σ H _ _ v u Q I rx ry ⟨_, _, rfl, rfl, hl, Ends0 S q (.int _)⟩
    · cases hf
  · split at hf
    · rename_i hl
      cases hf; cases (show x = _ from rd); cases (show y = _ from re)
      exact op_pow pins s σ H _ _ v u Q I rx ry ⟨_, _, rfl, rfl, hl, Ends0 S q (.int _)⟩
    · cases hf
  · cases hf

/-! ### comparisons -/
def dCmp (W : Wd) (f : D → D → Option Bool) : R2 := fun x y H Q => ∃ A cs d e k, Sta W A H cs ∧ RepV W A H x d ∧ RepV W A H y e ∧ f d e = some k ∧ Q (.bl k) H
def copPy : Cop → CmpOp
  | .eq => .Eq | .ne => .NotEq | .lt => .Lt | .le => .LtE | .gt => .Gt | .ge => .GtE | .is => .Is | .isnt => .IsNot | .in => .In | .nin => .NotIn
theorem toArr_inj {s t : List Nat} : ((⟨s.toArray⟩ : Str) = ⟨t.toArray⟩) ↔ s = t := by
  constructor
  · intro h; injection h with h; simpa using h
  · intro h; rw [h]
theorem scal_eq {x y : V} {d e : D} {k : Bool} (rd : RepV W A H x d) (re : RepV W A H y e) (h : scalEq d e = some k) : scal x y = true ∧ k = decide (x = y) := by
  unfold scalEq at h
  split at h
  all_goals first
    | (cases h; done)
    | (cases h; cases (show x = _ from rd); cases (show y = _ from re); exact ⟨rfl, by simp⟩)
    | (cases h; obtain ⟨e1, _⟩ := (show x = _ ∧ _ from rd); obtain ⟨e2, _⟩ := (show y = _ ∧ _ from re); subst e1 e2; exact ⟨rfl, by simp⟩)
    | (cases h; cases (show x = _ from rd); obtain ⟨e2, _⟩ := (show y = _ ∧ _ from re); subst e2; exact ⟨rfl, by simp⟩)
    | (cases h; obtain ⟨e1, _⟩ := (show x = _ ∧ _ from rd); cases (show y = _ from re); subst e1; exact ⟨rfl, by simp⟩)
mutual
theorem Rep.dp : ∀ {v : V} {d : D} {p : PySem.PyData}, Rep W A H v d → toPy d = some p → Dp W.K H v p
  | _, _, _, .non, h => by cases h; exact .non
  | _, _, _, .bl b, h => by cases h; exact .bl b
  | _, _, _, .int i, h => by cases h; exact .int i
  | _, _, _, .str s l, h => by cases h; exact .str _
  | _, _, _, @Rep.tup _ _ _ a vs ds n h r, hp => by
    unfold toPy at hp
    cases e : toPys ds with
    | none => rw [e] at hp; cases hp
    | some ps => rw [e] at hp; cases hp; exact .tup (.inl h) (RepL.dp r e)
  | _, _, _, @Rep.tupK _ _ _ a vs ds h r, hp => by
    unfold toPy at hp
    cases e : toPys ds with
    | none => rw [e] at hp; cases hp
    | some ps => rw [e] at hp; cases hp; exact .tup (.inr h) (RepL.dp r e)
  | _, _, _, @Rep.lst _ _ _ a vs ds n h r, hp => by
    unfold toPy at hp
    cases e : toPys ds with
    | none => rw [e] at hp; cases hp
    | some ps => rw [e] at hp; cases hp; exact .lst (SqL.of h) (RepL.dp r e)
  | _, _, _, .frz _ _ _, h => by cases h
  | _, _, _, .frzK _ _, h => by cases h
  | _, _, _, .dct _ _ _, h => by cases h
  | _, _, _, .ins _ _ _ _, h => by cases h
  | _, _, _, .ptr _, h => by cases h
theorem RepL.dp : ∀ {vs : List V} {ds : List D} {ps : List PySem.PyData}, RepL W A H vs ds → toPys ds = some ps → DpAll W.K H vs ps
  | _, _, _, .nil, h => by cases h; exact .nil
  | _, _, _, @RepL.cons _ _ _ v vs d ds r t, h => by
    unfold toPys at h
    cases e1 : toPy d with
    | none => rw [e1] at h; cases h
    | some p =>
      cases e2 : toPys ds with
      | none => rw [e1, e2] at h; cases h
      | some ps =>
        rw [e1, e2] at h
        cases h
        exact .cons (Rep.dp r e1) (RepL.dp t e2)
end
theorem RepV.dp {v : V} {d : D} {p : PySem.PyData} (r : RepV W A H v d) (h : toPy d = some p) : Dp W.K H v p := by
  cases d with
  | non => cases (show v = _ from r); cases h; exact .non
  | bl b => cases (show v = _ from r); cases h; exact .bl b
  | int i => cases (show v = _ from r); cases h; exact .int i
  | str s => obtain ⟨e, _⟩ := (show v = _ ∧ _ from r); subst e; cases h; exact .str _
  | tup ds => obtain ⟨a, vs, e, _, _, p1⟩ := r; exact p1.dp h
  | lst ds =>
    obtain ⟨a, vs, e1, s1, r1⟩ := r
    subst e1
    unfold toPy at h
    cases e : toPys ds with
    | none => rw [e] at h; cases h
    | some ps => rw [e] at h; cases h; exact .lst (SqL.of s1) (r1.dp e)
  | frz ds => cases h
  | dct kvs => cases h
  | ins c fs => cases h
  | ptr i => cases h
theorem RepV.flat {v : V} {d : D} {u : V} (r : RepV W A H v d) (h : flatD d = some u) : v = u ∧ flatV v = true := by
  cases d with
  | non => cases h; exact ⟨r, by rw [show v = _ from r]; rfl⟩
  | bl b => cases h; exact ⟨r, by rw [show v = _ from r]; rfl⟩
  | int i => cases h; exact ⟨r, by rw [show v = _ from r]; rfl⟩
  | str s => cases h; exact ⟨r.1, by rw [show v = _ from r.1]; rfl⟩
  | _ => cases h
theorem RepL.flat : ∀ {vs : List V} {ds : List D} {us : List V}, RepL W A H vs ds → flats ds = some us → vs = us ∧ vs.all flatV = true
  | _, _, _, .nil, h => by cases h; exact ⟨rfl, rfl⟩
  | _, _, _, @RepL.cons _ _ _ v vs d ds r t, h => by
    unfold flats at h
    cases e1 : flatD d with
    | none => rw [e1] at h; cases h
    | some p =>
      cases e2 : flats ds with
      | none => rw [e1, e2] at h; cases h
      | some ps =>
        rw [e1, e2] at h
        cases h
        obtain ⟨q1, q2⟩ := r.val.flat e1
        obtain ⟨q3, q4⟩ := RepL.flat t e2
        subst q1 q3
        exact ⟨rfl, by rw [List.all_cons, q2, q4]; rfl⟩
theorem key_of {v : V} {d : D} (r : RepV W A H v d) (h : isKey d = true) : ∃ k : Key, v = kV k ∧ keyR k d := by
  cases d with
  | int i => cases (show v = _ from r); exact ⟨.inl i, rfl, rfl⟩
  | str s => cases (show v = _ ∧ _ from r).1; exact ⟨.inr ⟨s.toArray⟩, rfl, rfl⟩
  | _ => cases h
theorem keyR_eq {k k' : Key} {d d' : D} (r : keyR k d) (r' : keyR k' d') : keyEq d d' = decide (k = k') := by
  cases k with
  | inl i =>
    cases d with
    | int a =>
      cases (show i = a from r)
      cases k' with
      | inl j =>
        cases d' with
        | int b => cases (show j = b from r'); simp [keyEq]
        | _ => exact r'.elim
      | inr y =>
        cases d' with
        | str b => simp [keyEq]
        | _ => exact r'.elim
    | _ => exact r.elim
  | inr x =>
    cases d with
    | str a =>
      cases (show x = _ from r)
      cases k' with
      | inl j =>
        cases d' with
        | int b => simp [keyEq]
        | _ => exact r'.elim
      | inr y =>
        cases d' with
        | str b => cases (show y = _ from r'); simp [keyEq, toArr_inj]
        | _ => exact r'.elim
    | _ => exact r.elim
end
end DH
end
section
set_option Elab.async false
set_option linter.all false
set_option maxRecDepth 100000
set_option maxHeartbeats 2000000
/-! DH4: comparisons, subscripts, slices, built-ins, methods by plain values. -/
namespace DH
open PySem L2

section
variable {X : Cx} {W : Wd} {A : Ad} {H : Hp} {cs : Cs}
theorem RepK.look {k : Key} {e : D} (ke : keyR k e) : ∀ {ks : List (Key × V)} {kvs : List (D × D)}, RepK W A H ks kvs →
    (getK e kvs = none ∧ valV ks k = none) ∨ ∃ d v, getK e kvs = some d ∧ valV ks k = some v ∧ Rep W A H v d
  | _, _, .nil => .inl ⟨rfl, rfl⟩
  | _, _, @RepK.cons _ _ _ k' v vs e' d ds kr r t => by
    have q : keyEq e' e = decide (k' = k) := keyR_eq kr ke
    by_cases h : k' = k
    · refine .inr ⟨d, v, ?_, valV_pos h, r⟩
      unfold getK; rw [q, decide_eq_true h]; rfl
    · have h1 : getK e ((e', d) :: ds) = getK e ds := by
        show (if keyEq e' e then some d else getK e ds) = _
        rw [q, decide_eq_false h]; rfl
      rw [h1, valV_neg (p := (k', v)) h]
      exact RepK.look ke t
theorem RepK.any {k : Key} {e : D} (ke : keyR k e) : ∀ {ks : List (Key × V)} {kvs : List (D × D)}, RepK W A H ks kvs → (kvs.any fun p => keyEq p.1 e) = ks.any fun kv => decide (kv.1 = k)
  | _, _, .nil => rfl
  | _, _, @RepK.cons _ _ _ k' v vs e' d ds kr r t => by
    rw [List.any_cons, List.any_cons, RepK.any ke t, keyR_eq kr ke]
theorem RepK.mapPut {k : Key} {e d : D} {v : V} (ke : keyR k e) (r : Rep W A H v d) : ∀ {ks : List (Key × V)} {kvs : List (D × D)}, RepK W A H ks kvs →
    RepK W A H (ks.map fun kv => if kv.1 = k then (kv.1, v) else kv) (kvs.map fun p => if keyEq p.1 e = true then (p.1, d) else p)
  | _, _, .nil => .nil
  | _, _, @RepK.cons _ _ _ k' v' vs e' d' ds kr r' t => by
    rw [List.map_cons, List.map_cons]
    have q : keyEq e' e = decide (k' = k) := keyR_eq kr ke
    by_cases h : k' = k
    · rw [if_pos h, if_pos (by show keyEq e' e = true; rw [q, decide_eq_true h])]
      exact .cons kr r (RepK.mapPut ke r t)
    · rw [if_neg h, if_neg (by show ¬ keyEq e' e = true; rw [q, decide_eq_false h]; simp)]
      exact .cons kr r' (RepK.mapPut ke r t)
theorem RepK.append : ∀ {vs ws : List (Key × V)} {ds es : List (D × D)}, RepK W A H vs ds → RepK W A H ws es → RepK W A H (vs ++ ws) (ds ++ es)
  | _, _, _, _, .nil, s => s
  | _, _, _, _, .cons k r t, s => .cons k r (RepK.append t s)
theorem RepK.put {k : Key} {e d : D} {v : V} (ke : keyR k e) (r : Rep W A H v d) {ks : List (Key × V)} {kvs : List (D × D)} (h : RepK W A H ks kvs) : RepK W A H (L2.putK ks k v) (DH.putK e d kvs) := by
  unfold L2.putK DH.putK
  rw [h.any ke]
  split
  · exact h.mapPut ke r
  · exact h.append (.cons ke r .nil)

theorem ltS_eq (s t : List Nat) : decide ((⟨s.toArray⟩ : Str).cps.toList < (⟨t.toArray⟩ : Str).cps.toList) = ltS s t := rfl
theorem op_le_str : OpR X (compareOp .LtE) (fun x y H Q => ∃ i j, x = .str i ∧ y = .str j ∧ Q (.bl (!decide (j.cps.toList < i.cps.toList))) H) := by
  intro pins s σ H x y v u Q I rx ry h
  obtain ⟨i, j, rfl, rfl, q⟩ := h
  obtain ⟨t, rfl⟩ := rx
  obtain ⟨t', rfl⟩ := ry
  exact PySem.P.le_str ⟨.bl _, H, I, rfl, q⟩

theorem op_cmp (hK : X.K = W.K) (hu : X.A.units + 64 < cLine) (op : Cop) : OpR X (compareOp (copPy op)) (dCmp W (cmpD op)) := by
  intro pins s σ H x y v u Q I rx ry h
  obtain ⟨A, cs, d, e, k, S, rd, re, hf, q⟩ := h
  have eqCase : ∀ {k : Bool}, eqD d e = some k → (scal x y = true ∧ k = decide (x = y)) ∨ ∃ p r, Dp X.K H x p ∧ Dp X.K H y r ∧ SeqAt.shaped p = true ∧ SeqAt.shaped r = true ∧ k = PyData.eqv p r := fun {k} h => by
    unfold eqD at h
    split at h
    · rename_i k' hs
      cases h
      exact .inl (scal_eq rd re hs)
    · split at h
      · rename_i p r hp hr
        split at h
        · rename_i hh
          cases h
          exact .inr ⟨p, r, by rw [hK]; exact rd.dp hp, by rw [hK]; exact re.dp hr, hh.1, hh.2, rfl⟩
        · cases h
      · cases h
  have inCase : ∀ (neg : Bool) {k : Bool}, inD d e = some k → (∃ p xs, y = .ref p ∧ (SqL X.K H p xs ∨ SqT X.K H p xs) ∧ flatV x = true ∧ xs.all flatV = true ∧ k = inV x xs) ∨ ∃ a o, y = .ref a ∧ DGet H a x o ∧ k = o.isSome := fun neg {k} h => by
    unfold inD at h
    split at h
    · split at h
      · rename_i xs v' vs' h1 h2
        cases h
        obtain ⟨a, vs, e1, s1, r1⟩ := re
        obtain ⟨e2, f2⟩ := rd.flat h1
        obtain ⟨e3, f3⟩ := r1.flat h2
        subst e2 e3
        exact .inl ⟨a, vs, e1, .inl (SqL.of s1), f2, f3, rfl⟩
      · cases h
    · split at h
      · rename_i xs v' vs' h1 h2
        cases h
        obtain ⟨a, vs, e1, s1, r1, _⟩ := re
        obtain ⟨e2, f2⟩ := rd.flat h1
        obtain ⟨e3, f3⟩ := r1.flat h2
        subst e2 e3
        exact .inl ⟨a, vs, e1, .inr (by rw [hK]; exact s1), f2, f3, rfl⟩
      · cases h
    · split at h
      · rename_i hk
        cases h
        obtain ⟨a, ks, e1, s1, r1⟩ := re
        obtain ⟨key, e2, kr⟩ := key_of rd hk
        refine .inr ⟨a, valV ks key, e1, by rw [e2]; exact DGet.k s1, ?_⟩
        rcases r1.look kr with ⟨q1, q2⟩ | ⟨d', v', q1, q2, _⟩
        · rw [q1, q2]; rfl
        · rw [q1, q2]; rfl
      · cases h
    · cases h
  have isCase : ∀ {k : Bool}, isD d e = some k → y = .non ∧ k = decide (x = .non) := fun {k} h => by
    cases e with
    | non =>
      refine ⟨re, ?_⟩
      have h : isN d = some k := h
      cases d
      all_goals simp only [isN, reduceCtorEq, Option.some.injEq] at h
      all_goals subst h
      · cases (show x = _ from rd); rfl
      · cases (show x = _ from rd); rfl
      · cases (show x = _ from rd); rfl
      · cases (show x = _ from rd.1); rfl
      · obtain ⟨a, vs, e1, _⟩ := rd; subst e1; rfl
      · obtain ⟨a, vs, e1, _⟩ := rd; subst e1; rfl
      · obtain ⟨a, vs, e1, _⟩ := rd; subst e1; rfl
      · obtain ⟨a, C, dx, vs, e1, _⟩ := rd; subst e1; rfl
      · obtain ⟨a, vs, e1, _⟩ := rd; subst e1; rfl
    | _ => cases h
  cases op with
  | eq =>
    rcases eqCase hf with ⟨h1, h2⟩ | ⟨p, r, h1, h2, h3, h4, h5⟩
    · subst h2; exact op_eq pins s σ H x y v u Q I rx ry ⟨h1, q⟩
    · subst h5; exact op_eqD hu pins s σ H x y v u Q I rx ry ⟨p, r, h1, h2, h3, h4, q⟩
  | ne =>
    obtain ⟨k', hk, e'⟩ := Option.map_eq_some_iff.mp (show (eqD d e).map (!·) = some k from hf)
    subst e'
    rcases eqCase hk with ⟨h1, h2⟩ | ⟨p, r, h1, h2, h3, h4, h5⟩
    · subst h2; exact op_ne pins s σ H x y v u Q I rx ry ⟨h1, q⟩
    · subst h5; exact op_neD hu pins s σ H x y v u Q I rx ry ⟨p, r, h1, h2, h3, h4, q⟩
  | lt =>
    have hf : ltD d e = some k := hf
    unfold ltD at hf
    split at hf
    · cases hf; cases (show x = _ from rd); cases (show y = _ from re)
      exact op_lt pins s σ H _ _ v u Q I rx ry ⟨_, _, rfl, rfl, q⟩
    · cases hf; obtain ⟨e1, _⟩ := (show x = _ ∧ _ from rd); obtain ⟨e2, _⟩ := (show y = _ ∧ _ from re); subst e1 e2
      exact op_lt_str pins s σ H _ _ v u Q I rx ry ⟨_, _, rfl, rfl, q⟩
    · cases hf
  | le =>
    have hf : leD d e = some k := hf
    unfold leD at hf
    split at hf
    · cases hf; cases (show x = _ from rd); cases (show y = _ from re)
      exact op_le pins s σ H _ _ v u Q I rx ry ⟨_, _, rfl, rfl, q⟩
    · cases hf; obtain ⟨e1, _⟩ := (show x = _ ∧ _ from rd); obtain ⟨e2, _⟩ := (show y = _ ∧ _ from re); subst e1 e2
      exact op_le_str pins s σ H _ _ v u Q I rx ry ⟨_, _, rfl, rfl, q⟩
    · cases hf
  | gt =>
    have hf : gtD d e = some k := hf
    unfold gtD at hf
    split at hf
    · cases hf; cases (show x = _ from rd); cases (show y = _ from re)
      exact op_gt pins s σ H _ _ v u Q I rx ry ⟨_, _, rfl, rfl, q⟩
    · cases hf
  | ge =>
    have hf : geD d e = some k := hf
    unfold geD at hf
    split at hf
    · cases hf; cases (show x = _ from rd); cases (show y = _ from re)
      exact op_ge pins s σ H _ _ v u Q I rx ry ⟨_, _, rfl, rfl, q⟩
    · cases hf
  | is =>
    obtain ⟨h1, h2⟩ := isCase hf
    subst h1 h2
    exact op_isN pins s σ H _ _ v u Q I rx ry ⟨rfl, q⟩
  | isnt =>
    obtain ⟨k', hk, e'⟩ := Option.map_eq_some_iff.mp (show (isD d e).map (!·) = some k from hf)
    subst e'
    obtain ⟨h1, h2⟩ := isCase hk
    subst h1 h2
    exact op_notN pins s σ H _ _ v u Q I rx ry ⟨rfl, q⟩
  | «in» =>
    rcases inCase false hf with ⟨p, xs, h1, h2, h3, h4, h5⟩ | ⟨a, o, h1, h2, h3⟩
    · subst h5; exact op_in_seq pins s σ H x y v u Q I rx ry ⟨p, xs, h1, h2, h3, h4, q⟩
    · subst h1 h3
      obtain rfl : u = Value.ref a := ry
      exact d_in (by omega) I h2 rx fun s3 I3 => ⟨.bl o.isSome, H, I3, rfl, q⟩
  | nin =>
    obtain ⟨k', hk, e'⟩ := Option.map_eq_some_iff.mp (show (inD d e).map (!·) = some k from hf)
    subst e'
    rcases inCase true hk with ⟨p, xs, h1, h2, h3, h4, h5⟩ | ⟨a, o, h1, h2, h3⟩
    · subst h5; exact op_notIn_seq pins s σ H x y v u Q I rx ry ⟨p, xs, h1, h2, h3, h4, q⟩
    · subst h1 h3
      obtain rfl : u = Value.ref a := ry
      exact d_notIn (by omega) I h2 rx fun s3 I3 => ⟨.bl (!o.isSome), H, I3, rfl, q⟩
end
end DH
end
section
set_option Elab.async false
set_option linter.all false
set_option maxRecDepth 100000
set_option maxHeartbeats 2000000
/-! DH5: subscripts, slices, built-ins, methods, stores by plain values. -/
namespace DH
open PySem L2

section
variable {X : Cx} {W : Wd} {A : Ad} {H : Hp} {cs : Cs}
theorem RepL.at {vs : List V} {ds : List D} {i : Int} {d : D} (r : RepL W A H vs ds) (h : atI ds i = some d) : ∃ v, atI vs i = some v ∧ Rep W A H v d := by
  unfold atI at h ⊢
  rw [r.length]
  cases e : ixN ds.length i with
  | none => rw [e] at h; cases h
  | some j =>
    rw [e] at h
    exact r.get h
theorem atI_map {α β : Type} (f : α → β) (xs : List α) (i : Int) : atI (xs.map f) i = (atI xs i).map f := by
  unfold atI
  rw [List.length_map]
  cases ixN xs.length i with
  | none => rfl
  | some j => simp
theorem ix_all (hK : X.K = W.K) (hu : X.A.units + 64 < cLine) : IxR X (dOp W idxD) := by
  intro value slice pins s σ H x y v u Q I rx ry h hs
  obtain ⟨A, cs, d, e, z, S, rd, re, hf, q⟩ := h
  have hline := line_eq
  unfold idxD at hf
  split at hf
  · obtain ⟨a, vs, e1, s1, r1, _⟩ := rd
    cases (show y = _ from re)
    obtain ⟨w, hw, rw'⟩ := r1.at hf
    exact ix_tup value slice pins s σ H x _ v u Q I rx ry ⟨a, vs, _, w, e1, rfl, by rw [hK]; exact s1, hw, Ends0 S q rw'⟩ hs
  · obtain ⟨a, vs, e1, s1, r1⟩ := rd
    cases (show y = _ from re)
    obtain ⟨w, hw, rw'⟩ := r1.at hf
    exact ix_list value slice pins s σ H x _ v u Q I rx ry ⟨a, vs, _, w, e1, rfl, SqL.of s1, hw, Ends0 S q rw'⟩ hs
  · obtain ⟨a, vs, e1, s1, r1⟩ := rd
    cases (show y = _ from re)
    obtain ⟨w, hw, rw'⟩ := r1.at hf
    exact ix_list value slice pins s σ H x _ v u Q I rx ry ⟨a, vs, _, w, e1, rfl, by rw [hK]; exact s1, hw, Ends0 S q rw'⟩ hs
  · rename_i sx i
    obtain ⟨e1, l1⟩ := (show x = _ ∧ _ from rd)
    cases (show y = _ from re)
    subst e1
    obtain ⟨c, hc, e2⟩ := Option.map_eq_some_iff.mp hf
    subst e2
    refine ix_str value slice pins s σ H _ _ v u Q I rx ry ⟨_, _, c, rfl, rfl, by rw [str_len, ← hline]; exact l1, hc, ?_⟩ hs
    exact Ends0 S q (.str [c] (by show 1 ≤ line; decide))
  · split at hf
    · rename_i hk
      obtain ⟨a, ks, e1, s1, r1⟩ := rd
      obtain ⟨key, e2, kr⟩ := key_of re hk
      subst e1 e2
      rcases r1.look kr with ⟨q1, q2⟩ | ⟨d', v', q1, q2, r'⟩
      · rw [q1] at hf; cases hf
      · rw [q1] at hf; cases hf
        obtain rfl : v = Value.ref a := rx
        have g : DGet H a (kV key) (some v') := q2 ▸ DGet.k s1
        exact PyProof.Rows.tail_any (dict_typeIs I g) PySem.F.slot_dict_getitem.lookup (d_getItem (by omega) I g ry fun w' s3 I3 rw' => ⟨v', H, I3, rw', Ends0 S q r'⟩) hs
    · cases hf
  · cases hf

/-! ### slices -/
def dSl (W : Wd) : V → Option Int → Option Int → Hp → VK → Prop := fun x lo hi H Q => ∃ A cs d z, Sta W A H cs ∧ RepV W A H x d ∧ DH.cutV d lo hi = some z ∧ ∀ A' H' v, Ext A H A' H' → Sta W A' H' cs → Rep W A' H' v z → Q v H'
theorem RepL.cut {vs : List V} {ds : List D} (r : RepL W A H vs ds) (lo hi : Option Int) : RepL W A H (L2.cutV vs lo hi) (cutD ds lo hi) := by
  unfold L2.cutV cutD
  rw [r.length]
  exact (r.drop _).take _
theorem cut_len {α : Type} (xs : List α) (lo hi : Option Int) : (cutD xs lo hi).length ≤ xs.length := by
  unfold cutD
  rw [List.length_take, List.length_drop]
  omega
theorem cut_all {α : Type} (xs : List α) (lo hi : Option Int) (h : HT.sIx xs.length 0 lo = 0 ∧ HT.sIx xs.length xs.length hi = xs.length) : cutD xs lo hi = xs := by
  unfold cutD
  rw [h.1, h.2]
  simp
theorem sl_all (hK : X.K = W.K) : SlR X (dSl W) := by
  intro pins s σ H x v vl vu lo hi sl Q I rx hs pl pu h
  obtain ⟨A, cs, d, z, S, rd, hf, q⟩ := h
  have hline := line_eq
  unfold DH.cutV at hf
  split at hf
  · cases hf
    obtain ⟨a, vs, e1, s1, r1, p1⟩ := rd
    refine sl_tupA pins s σ H x v vl vu lo hi sl Q I rx hs pl pu ⟨a, vs, e1, by rw [hK]; exact s1, fun hw => ?_, fun _ p hp => new_tup S hp (r1.cut lo hi) q⟩
    rw [r1.length] at hw
    rw [cut_all _ _ _ hw] at q
    subst e1
    exact Ends0 S q p1
  · cases hf
    obtain ⟨a, vs, e1, s1, r1⟩ := rd
    exact sl_list pins s σ H x v vl vu lo hi sl Q I rx hs pl pu ⟨a, vs, e1, SqL.of s1, fun p hp => new_lst S hp (r1.cut lo hi) q⟩
  · cases hf
    obtain ⟨a, vs, e1, s1, r1⟩ := rd
    exact sl_list pins s σ H x v vl vu lo hi sl Q I rx hs pl pu ⟨a, vs, e1, by rw [hK]; exact s1, fun p hp => new_lst S hp (r1.cut lo hi) q⟩
  · cases hf
    obtain ⟨e1, l1⟩ := (show x = _ ∧ _ from rd)
    subst e1
    refine sl_str pins s σ H _ v vl vu lo hi sl Q I rx hs pl pu ⟨_, rfl, by rw [str_len, ← hline]; exact l1, ?_⟩
    rename_i sx
    have e : L2.cutS (⟨sx.toArray⟩ : Str) lo hi = ⟨(cutD sx lo hi).toArray⟩ := by
      unfold L2.cutS cutD
      rw [str_len]
    rw [e]
    exact Ends0 S q (.str _ (Nat.le_trans (cut_len _ _ _) l1))
  · cases hf

/-! ### truth -/
theorem truV_ok (hK : X.K = W.K) {x : V} {d : D} {k : Bool} (rd : RepV W A H x d) (h : truV d = some k) : TruV X.K x H k := by
  have hline := line_eq
  unfold truV at h
  split at h
  all_goals first
    | (cases h; done)
    | skip
  · cases h; cases (show x = _ from rd); rfl
  · cases h; cases (show x = _ from rd); rfl
  · cases h; cases (show x = _ from rd); rfl
  · cases h
    obtain ⟨e1, l1⟩ := (show x = _ ∧ _ from rd)
    subst e1
    rename_i sx
    refine ⟨by rw [str_len, ← hline]; exact l1, ?_⟩
    rw [str_len]
    cases sx with
    | nil => rfl
    | cons a r => simp; omega
  · cases h
    obtain ⟨a, vs, e1, s1, r1, _⟩ := rd
    subst e1
    refine .inr (.inl ⟨vs, by rw [hK]; exact s1, ?_⟩)
    cases r1 <;> rfl
  · cases h
    obtain ⟨a, vs, e1, s1, r1⟩ := rd
    subst e1
    refine .inl ⟨vs, SqL.of s1, ?_⟩
    cases r1 <;> rfl
  · cases h
    obtain ⟨a, vs, e1, s1, r1⟩ := rd
    subst e1
    refine .inl ⟨vs, by rw [hK]; exact s1, ?_⟩
    cases r1 <;> rfl
  · cases h
    obtain ⟨a, vs, e1, s1, r1⟩ := rd
    subst e1
    refine .inr (.inr ⟨vs, s1, ?_⟩)
    cases r1 <;> rfl

/-! ### built-ins -/
def RepVs (W : Wd) (A : Ad) (H : Hp) : List V → List D → Prop
  | [], [] => True
  | v :: vs, d :: ds => RepV W A H v d ∧ RepVs W A H vs ds
  | _, _ => False
theorem RepL.views (S : Sta W A H cs) : ∀ {vs : List V} {ds : List D}, RepL W A H vs ds → RepVs W A H vs (ds.map (view cs))
  | _, _, .nil => True.intro
  | _, _, .cons r t => ⟨r.view S, RepL.views S t⟩
theorem RepVs.nil {vs : List V} (h : RepVs W A H vs []) : vs = [] := by cases vs with
  | nil => rfl
  | cons _ _ => exact h.elim
theorem RepVs.cons {vs : List V} {d : D} {ds : List D} (h : RepVs W A H vs (d :: ds)) : ∃ v r, vs = v :: r ∧ RepV W A H v d ∧ RepVs W A H r ds := by cases vs with
  | nil => exact h.elim
  | cons v r => exact ⟨v, r, rfl, h.1, h.2⟩
theorem RepVs.one {vs : List V} {d : D} (h : RepVs W A H vs [d]) : ∃ v, vs = [v] ∧ RepV W A H v d := by
  obtain ⟨v, r, e, h1, h2⟩ := h.cons
  rw [h2.nil] at e
  exact ⟨v, e, h1⟩
theorem RepVs.two {vs : List V} {d e : D} (h : RepVs W A H vs [d, e]) : ∃ v u, vs = [v, u] ∧ RepV W A H v d ∧ RepV W A H u e := by
  obtain ⟨v, r, e1, h1, h2⟩ := h.cons
  obtain ⟨u, e2, h3⟩ := h2.one
  subst e2
  exact ⟨v, u, e1, h1, h3⟩
def dCall (W : Wd) (f : List D → Option D) : List V → Hp → VK → Prop := fun vs H Q => ∃ A cs ds z, Sta W A H cs ∧ RepVs W A H vs ds ∧ f ds = some z ∧ ∀ A' H' v, Ext A H A' H' → Sta W A' H' cs → Rep W A' H' v z → Q v H'
theorem RepL.bls : ∀ {vs : List V} {ds : List D} {bs : List Bool}, RepL W A H vs ds → blsD ds = some bs → vs = bs.map V.bl
  | _, _, _, .nil, h => by cases h; rfl
  | _, _, _, @RepL.cons _ _ _ v vs d ds r t, h => by
    cases d with
    | bl b =>
      obtain ⟨bs', h', e⟩ := Option.map_eq_some_iff.mp (show (blsD ds).map (b :: ·) = some _ from h)
      subst e
      rw [RepL.bls t h', show v = _ from r.val]
      rfl
    | _ => cases h
theorem RepL.ints : ∀ {vs : List V} {ds : List D} {ns : List Int}, RepL W A H vs ds → intsD ds = some ns → vs = ns.map V.int
  | _, _, _, .nil, h => by cases h; rfl
  | _, _, _, @RepL.cons _ _ _ v vs d ds r t, h => by
    cases d with
    | int b =>
      obtain ⟨bs', h', e⟩ := Option.map_eq_some_iff.mp (show (intsD ds).map (b :: ·) = some _ from h)
      subst e
      rw [RepL.ints t h', show v = _ from r.val]
      rfl
    | _ => cases h
theorem RepL.of_ints : ∀ ns : List Int, RepL W A H (ns.map V.int) (ns.map D.int)
  | [] => .nil
  | n :: ns => .cons (.int n) (RepL.of_ints ns)
theorem RepL.strs : ∀ {vs : List V} {ds : List D} {ns : List (List Nat)}, RepL W A H vs ds → strsD ds = some ns → vs = (ns.map fun s => (⟨s.toArray⟩ : Str)).map V.str
  | _, _, _, .nil, h => by cases h; rfl
  | _, _, _, @RepL.cons _ _ _ v vs d ds r t, h => by
    cases d with
    | str b =>
      obtain ⟨bs', h', e⟩ := Option.map_eq_some_iff.mp (show (strsD ds).map (b :: ·) = some _ from h)
      subst e
      rw [RepL.strs t h', show v = _ from r.val.1]
      rfl
    | _ => cases h
theorem maxI_spec : ∀ {ns : List Int} {m m' : Int}, maxI ns = some m → m' ∈ ns → (∀ y, y ∈ ns → y ≤ m') → m' = m
  | [], _, _, h, _, _ => by cases h
  | [x], m, m', h, hm, _ => by cases h; exact List.mem_singleton.mp hm
  | x :: y :: r, m, m', h, hm, hle => by
    obtain ⟨k, hk, e⟩ := Option.map_eq_some_iff.mp (show (maxI (y :: r)).map (fun y => if x < y then y else x) = some m from h)
    have key : ∀ {ns : List Int} {k : Int}, maxI ns = some k → k ∈ ns ∧ ∀ z ∈ ns, z ≤ k := by
      intro ns
      induction ns with
      | nil => intro k h; cases h
      | cons a l ih =>
        intro k h
        cases l with
        | nil => cases h; exact ⟨List.mem_singleton.mpr rfl, fun z hz => Int.le_of_eq (List.mem_singleton.mp hz)⟩
        | cons b l' =>
          obtain ⟨j, hj, e⟩ := Option.map_eq_some_iff.mp (show (maxI (b :: l')).map (fun y => if a < y then y else a) = some k from h)
          obtain ⟨h1, h2⟩ := ih hj
          by_cases hab : a < j
          · rw [if_pos hab] at e; subst e
            refine ⟨List.mem_cons_of_mem _ h1, fun z hz => ?_⟩
            rcases List.mem_cons.mp hz with rfl | hz
            · omega
            · exact h2 z hz
          · rw [if_neg hab] at e; subst e
            refine ⟨List.mem_cons_self, fun z hz => ?_⟩
            rcases List.mem_cons.mp hz with rfl | hz
            · omega
            · have := h2 z hz; omega
    obtain ⟨h1, h2⟩ := key h
    have h3 := hle m h1
    have h4 := h2 m' hm
    omega
theorem minI_spec {ns : List Int} {m m' : Int} (h : minI ns = some m) (hm : m' ∈ ns) (hle : ∀ y, y ∈ ns → m' ≤ y) : m' = m := by
  have key : ∀ {ns : List Int} {k : Int}, minI ns = some k → k ∈ ns ∧ ∀ z ∈ ns, k ≤ z := by
    intro ns
    induction ns with
    | nil => intro k h; cases h
    | cons a l ih =>
      intro k h
      cases l with
      | nil => cases h; exact ⟨List.mem_singleton.mpr rfl, fun z hz => Int.le_of_eq (List.mem_singleton.mp hz).symm⟩
      | cons b l' =>
        obtain ⟨j, hj, e⟩ := Option.map_eq_some_iff.mp (show (minI (b :: l')).map (fun y => if y < a then y else a) = some k from h)
        obtain ⟨h1, h2⟩ := ih hj
        by_cases hab : j < a
        · rw [if_pos hab] at e; subst e
          refine ⟨List.mem_cons_of_mem _ h1, fun z hz => ?_⟩
          rcases List.mem_cons.mp hz with rfl | hz
          · omega
          · exact h2 z hz
        · rw [if_neg hab] at e; subst e
          refine ⟨List.mem_cons_self, fun z hz => ?_⟩
          rcases List.mem_cons.mp hz with rfl | hz
          · omega
          · have := h2 z hz; omega
  obtain ⟨h1, h2⟩ := key h
  have h3 := hle m h1
  have h4 := h2 m' hm
  omega
def biPy : Bi → Str
  | .len => "len" | .int => "int" | .tuple => "tuple" | .all => "all" | .any => "any" | .sum => "sum" | .min => "min" | .max => "max" | .abs => "abs" | .sorted => "sorted"
def biVal : Bi → Value
  | .len => .builtin "len" | .int => .type "int" | .tuple => .type "tuple" | .all => .builtin "all" | .any => .builtin "any" | .sum => .builtin "sum" | .min => .builtin "min" | .max => .builtin "max" | .abs => .builtin "abs" | .sorted => .builtin "sorted"
theorem call_sumT {pins : List (Addr × Obj)} {s : Shared} {σ : L2.St} {us : List Value} {a : Addr} {ns : List Int} {Q : VK} (hc : X.calm = true) (I : Inv X pins σ H s) (r : Vals [V.ref a] us) (hs : SqT X.K H a (ns.map V.int)) (q : Q (.int ns.sum) H) :
    wpAny (model X.prog X.w) X.A (call (.builtin "sum") us) (EP X pins σ Q) X.xe s := by
  obtain ⟨its, vals, isT, _⟩ := I.tuple hs
  obtain ⟨u, eu, ru⟩ := vals1 r
  subst eu
  cases (show u = Value.ref a from ru)
  have hi := vals.ints
  obtain ⟨xs, exs⟩ := hi.allInts.items
  have hn : numsOf (intItems xs).toList = ns := by rw [← exs]; exact hi.numsOf
  rw [exs] at isT
  rw [nums_intItems] at hn
  refine PySem.W.ktm_sumG (I.ok.hd hc) isT fun h' tk t' hk => ?_
  rw [preSum_eq, List.take_of_length_le (by simp), hn]
  exact ⟨.int _, H, I.kept hk, ⟨_, rfl⟩, q⟩
/-! ### sorted -/
theorem leI_tr (a b c : Int) (h1 : leI a b = true) (h2 : leI b c = true) : leI a c = true := by
  simp only [leI, decide_eq_true_eq] at *
  omega
theorem leI_tot (a b : Int) : (leI a b || leI b a) = true := by
  simp only [leI, Bool.or_eq_true, decide_eq_true_eq]
  omega
theorem sorted_ints {ns l : List Int} (hp : l.Perm ns) (hs : l.Pairwise (· ≤ ·)) : l = ns.mergeSort leI := by
  refine List.Perm.eq_of_pairwise (le := fun a b => leI a b = true) (fun a b _ _ h1 h2 => ?_) (hs.imp fun h => by simpa [leI] using h) (List.pairwise_mergeSort leI_tr leI_tot ns) (hp.trans (List.mergeSort_perm ns leI).symm)
  simp only [leI, decide_eq_true_eq] at h1 h2
  omega
theorem leP_iff {p q : Int × Int} : leP p q = true ↔ p.1 < q.1 ∨ (p.1 = q.1 ∧ p.2 ≤ q.2) := by simp [leP]
theorem leP_tr (a b c : Int × Int) (h1 : leP a b = true) (h2 : leP b c = true) : leP a c = true := by
  rw [leP_iff] at *
  omega
theorem leP_tot (a b : Int × Int) : (leP a b || leP b a) = true := by
  rw [Bool.or_eq_true, leP_iff, leP_iff]
  omega
theorem sorted_prs {ns l : List (Int × Int)} (hp : l.Perm ns) (hs : l.Pairwise fun x y => leP x y = true) : l = ns.mergeSort leP := by
  refine List.Perm.eq_of_pairwise (le := fun a b => leP a b = true) (fun a b _ _ h1 h2 => ?_) hs (List.pairwise_mergeSort leP_tr leP_tot ns) (hp.trans (List.mergeSort_perm ns leP).symm)
  rw [leP_iff] at h1 h2
  exact Prod.ext (by omega) (by omega)
/-- sorted of pairs of ints, wherever the pairs stand -/
theorem call_sort_prs {pins : List (Addr × Obj)} {s : Shared} {σ : L2.St} {xs : List V} {us : List Value} {a : Addr} {Q : VK} (key : V → Int × Int) (I : Inv X pins σ H s) (r : Vals [V.ref a] us) (hl : SqL X.K H a xs)
    (hx : ∀ x ∈ xs, ∃ t, x = V.ref t ∧ SqT X.K H t [.int (key x).1, .int (key x).2]) (q : ∀ ys p, SrtO.Srtd (ltP key) ys → ys.Perm xs → H p = none → Q (.ref p) (upd H p (.lst ys))) :
    wpAny (model X.prog X.w) X.A (call (.builtin "sorted") us) (EP X pins σ Q) X.xe s := by
  obtain ⟨its, vals, pl, size⟩ := I.list hl
  obtain ⟨u, eu, ru⟩ := vals1 r
  subst eu
  cases (show u = Value.ref a from ru)
  obtain ⟨back, refs⟩ := refs_back vals fun x hm => (hx x hm).imp fun t h => h.1
  refine SrtO.sorted_pairsO (k := fun u => key (backV u)) pl.isList (by rw [← vals.length]; exact size) (fun v hv => ?_) fun h' d out srt stb kp hd top => ?_
  · obtain ⟨t, ev⟩ := refs v hv
    subst ev
    obtain ⟨t', et, ht⟩ := hx (V.ref t) (by rw [back]; exact List.mem_map.mpr ⟨_, hv, rfl⟩)
    cases et
    obtain ⟨items, rit, ⟨o, ho, hc, n, hdat⟩, _⟩ := I.tuple ht
    obtain ⟨u1, u2, e12, r1, r2⟩ := vals2 rit
    subst e12
    obtain ⟨k1, q1⟩ := r1
    obtain ⟨k2, q2⟩ := r2
    subst q1 q2
    exact ⟨t, o, k1, k2, n, rfl, ho, hc, hdat⟩
  · obtain ⟨n, hn⟩ := top
    have all : ∀ u ∈ out, ∃ b, u = Value.ref b := fun u hu => refs u (stb.perm.mem_iff.mp hu)
    have st : SrtO.Stb (ltP key) (out.map backV) xs := by
      have := SrtO.Stb.map (ltP_swo key) backV stb
      rwa [← back] at this
    exact ⟨.ref d, upd H d (.lst (out.map backV)), I.laid (t' := s.toks) kp hd ⟨by rw [st.len]; exact size, out, n, vals_back all, hn⟩, rfl, q _ d (SrtO.srtd_map srt) st.perm (I.hok.fresh hd)⟩
open Classical in
noncomputable def keyP (K : PySem.W.Frag) (H : Hp) (x : V) : Int × Int := if h : ∃ (i j : Int) (t : Addr), x = .ref t ∧ SqT K H t [.int i, .int j] then (h.choose, h.choose_spec.choose) else (0, 0)
theorem keyP_of {pins : List (Addr × Obj)} {s : Shared} {σ : L2.St} (I : Inv X pins σ H s) {t : Addr} {i j : Int} (h : SqT X.K H t [.int i, .int j]) : keyP X.K H (.ref t) = (i, j) := by
  have ex : ∃ (i j : Int) (u : Addr), V.ref t = .ref u ∧ SqT X.K H u [.int i, .int j] := ⟨i, j, t, rfl, h⟩
  unfold keyP
  rw [dif_pos ex]
  obtain ⟨u, e, h2⟩ := ex.choose_spec.choose_spec
  cases e
  have z := I.tuple_inj h h2
  cases z
  rfl
theorem RepL.prs {pins : List (Addr × Obj)} {s : Shared} {σ : L2.St} (hK : X.K = W.K) (I : Inv X pins σ H s) : ∀ {vs : List V} {ds : List D} {ps : List (Int × Int)}, RepL W A H vs ds → pairsI ds = some ps →
    vs.map (keyP X.K H) = ps ∧ ∀ v ∈ vs, (∃ t, v = V.ref t ∧ SqT X.K H t [.int (keyP X.K H v).1, .int (keyP X.K H v).2]) ∧ Rep W A H v (pairD (keyP X.K H v))
  | _, _, _, .nil, h => by cases h; exact ⟨rfl, fun v hv => by cases hv⟩
  | _, _, _, @RepL.cons _ _ _ v vs d ds r t, h => by
    unfold pairsI at h
    split at h
    · rename_i e1
      cases e1
    · rename_i i j r' e1
      cases e1
      obtain ⟨ps', h', e⟩ := Option.map_eq_some_iff.mp h
      subst e
      obtain ⟨q1, q2⟩ := RepL.prs hK I t h'
      obtain ⟨a, ws, ev, s1, r1, _⟩ := r.val
      subst ev
      cases r1 with
      | cons x1 r2 =>
        cases r2 with
        | cons x2 r3 =>
          cases r3
          have y1 := x1.val
          have y2 := x2.val
          cases (show _ = V.int i from y1)
          cases (show _ = V.int j from y2)
          rw [← hK] at s1
          have kk := keyP_of I s1
          refine ⟨by rw [List.map_cons, kk, q1], fun w hw => ?_⟩
          rcases List.mem_cons.mp hw with e | hw
          · subst e
            rw [kk]
            exact ⟨⟨a, rfl, s1⟩, r⟩
          · exact q2 w hw
    · cases h
theorem RepL.of_all {f : V → D} : ∀ {vs : List V}, (∀ v ∈ vs, Rep W A H v (f v)) → RepL W A H vs (vs.map f)
  | [], _ => .nil
  | v :: vs, h => .cons (h v List.mem_cons_self) (RepL.of_all fun w hw => h w (List.mem_cons_of_mem _ hw))
theorem call_bi (hK : X.K = W.K) (hc : X.calm = true) (b : Bi) : CallR X (biVal b) (dCall W (biD b)) := by
  intro pins s σ H xs us Q I r h
  obtain ⟨A, cs, ds, z, S, rd, hf, q⟩ := h
  have hline := line_eq
  unfold biD at hf
  split at hf
  · cases hf
    obtain ⟨v, e, r1⟩ := rd.one
    obtain ⟨e1, l1⟩ := (show v = _ ∧ _ from r1)
    subst e e1
    refine call_len_str pins s σ H _ us Q I r ⟨_, rfl, by rw [str_len, ← hline]; exact l1, ?_⟩
    rw [str_len]
    exact Ends0 S q (.int _)
  · cases hf
    obtain ⟨v, e, a, vs, e1, s1, r1, _⟩ := rd.one
    subst e e1
    refine call_len_seq pins s σ H _ us Q I r ⟨a, vs, rfl, .inr (by rw [hK]; exact s1), ?_⟩
    rw [r1.length]
    exact Ends0 S q (.int _)
  · cases hf
    obtain ⟨v, e, a, vs, e1, s1, r1⟩ := rd.one
    subst e e1
    refine call_len_seq pins s σ H _ us Q I r ⟨a, vs, rfl, .inl (SqL.of s1), ?_⟩
    rw [r1.length]
    exact Ends0 S q (.int _)
  · cases hf
    obtain ⟨v, e, a, vs, e1, s1, r1⟩ := rd.one
    subst e e1
    refine call_len_seq pins s σ H _ us Q I r ⟨a, vs, rfl, .inl (by rw [hK]; exact s1), ?_⟩
    rw [r1.length]
    exact Ends0 S q (.int _)
  · cases hf
    obtain ⟨v, e, a, vs, e1, s1, r1⟩ := rd.one
    subst e e1
    refine call_lenD pins s σ H _ us Q I r ⟨a, vs, rfl, s1, ?_⟩
    rw [r1.length]
    exact Ends0 S q (.int _)
  · cases hf
    obtain ⟨v, e, r1⟩ := rd.one
    cases (show v = _ from r1)
    subst e
    exact call_int1 pins s σ H _ us Q I r (.inl ⟨_, rfl, Ends0 S q (.int _)⟩)
  · cases hf
    obtain ⟨v, e, r1⟩ := rd.one
    cases (show v = _ from r1)
    subst e
    exact call_int1 pins s σ H _ us Q I r (.inr ⟨_, rfl, Ends0 S q (.int _)⟩)
  · cases hf
    obtain ⟨v, e, a, vs, e1, s1, r1⟩ := rd.one
    subst e e1
    exact call_tuple_of pins s σ H _ us Q I r ⟨a, vs, rfl, .inl ⟨SqL.of s1, fun l hl => new_tup S hl r1 q⟩⟩
  · cases hf
    obtain ⟨v, e, a, vs, e1, s1, r1, p1⟩ := rd.one
    subst e e1
    exact call_tuple_of pins s σ H _ us Q I r ⟨a, vs, rfl, .inr ⟨by rw [hK]; exact s1, Ends0 S q p1⟩⟩
  · obtain ⟨bs, hb, e2⟩ := Option.map_eq_some_iff.mp hf
    subst e2
    obtain ⟨v, e, a, vs, e1, s1, r1⟩ := rd.one
    subst e e1
    rw [r1.bls hb] at s1
    exact cr_all hc pins s σ H _ us Q I r ⟨a, bs, rfl, SqL.of s1, Ends0 S q (.bl _)⟩
  · obtain ⟨bs, hb, e2⟩ := Option.map_eq_some_iff.mp hf
    subst e2
    obtain ⟨v, e, a, vs, e1, s1, r1⟩ := rd.one
    subst e e1
    rw [r1.bls hb] at s1
    exact cr_any hc pins s σ H _ us Q I r ⟨a, bs, rfl, SqL.of s1, Ends0 S q (.bl _)⟩
  · obtain ⟨bs, hb, e2⟩ := Option.map_eq_some_iff.mp hf
    subst e2
    obtain ⟨v, e, a, vs, e1, s1, r1⟩ := rd.one
    subst e e1
    rw [r1.ints hb] at s1
    exact cr_sum hc pins s σ H _ us Q I r ⟨a, bs, rfl, SqL.of s1, Ends0 S q (.int _)⟩
  · obtain ⟨bs, hb, e2⟩ := Option.map_eq_some_iff.mp hf
    subst e2
    obtain ⟨v, e, a, vs, e1, s1, r1, _⟩ := rd.one
    subst e e1
    rw [r1.ints hb, ← hK] at s1
    exact call_sumT hc I r s1 (Ends0 S q (.int _))
  · obtain ⟨ns, hb, e2⟩ := Option.bind_eq_some_iff.mp hf
    obtain ⟨m, hm, e3⟩ := Option.map_eq_some_iff.mp e2
    subst e3
    obtain ⟨v, e, a, vs, e1, s1, r1⟩ := rd.one
    subst e e1
    rw [r1.ints hb] at s1
    refine cr_min hc pins s σ H _ us Q I r ⟨a, ns, rfl, SqL.of s1, ?_, fun m' h1 h2 => ?_⟩
    · cases ns with
      | nil => cases hm
      | cons _ _ => simp
    · rw [minI_spec hm h1 h2]; exact Ends0 S q (.int _)
  · obtain ⟨ns, hb, e2⟩ := Option.bind_eq_some_iff.mp hf
    obtain ⟨m, hm, e3⟩ := Option.map_eq_some_iff.mp e2
    subst e3
    obtain ⟨v, e, a, vs, e1, s1, r1⟩ := rd.one
    subst e e1
    rw [r1.ints hb] at s1
    refine cr_max hc pins s σ H _ us Q I r ⟨a, ns, rfl, SqL.of s1, ?_, fun m' h1 h2 => ?_⟩
    · cases ns with
      | nil => cases hm
      | cons _ _ => simp
    · rw [maxI_spec hm h1 h2]; exact Ends0 S q (.int _)
  · cases hf
    obtain ⟨v, u, e, r1, r2⟩ := rd.two
    cases (show v = _ from r1)
    cases (show u = _ from r2)
    subst e
    exact call_min2 hc pins s σ H _ us Q I r ⟨_, _, rfl, Ends0 S q (.int _)⟩
  · cases hf
    obtain ⟨v, u, e, r1, r2⟩ := rd.two
    cases (show v = _ from r1)
    cases (show u = _ from r2)
    subst e
    exact call_max2 hc pins s σ H _ us Q I r ⟨_, _, rfl, Ends0 S q (.int _)⟩
  · cases hf
    obtain ⟨v, e, r1⟩ := rd.one
    cases (show v = _ from r1)
    subst e
    exact call_abs pins s σ H _ us Q I r ⟨_, rfl, Ends0 S q (.int _)⟩
  · obtain ⟨v, e, a, vs, e1, s1, r1⟩ := rd.one
    subst e e1
    unfold sortD at hf
    split at hf
    · rename_i ns hb
      cases hf
      rw [r1.ints hb] at s1
      refine cr_sortedI pins s σ H _ us Q I r ⟨a, ns, rfl, SqL.of s1, fun l p hp hs hn => ?_⟩
      rw [sorted_ints hp hs]
      exact q A _ _ (.new hn) (S.new hn) (.lst (S.free hn) upd_same (RepL.of_ints _))
    · obtain ⟨ps, hb, e2⟩ := Option.map_eq_some_iff.mp hf
      subst e2
      obtain ⟨q1, q2⟩ := r1.prs hK I hb
      refine call_sort_prs (keyP X.K H) I r (SqL.of s1) (fun x hm => (q2 x hm).1) fun ys p srt perm hn => ?_
      have e3 : ys.map (keyP X.K H) = ps.mergeSort leP := by
        refine sorted_prs (by rw [← q1]; exact perm.map _) ?_
        rw [List.pairwise_map]
        refine srt.imp fun {x y} h => ?_
        have h2 : ¬ _ := SrtO.lexB_no.mp h
        rw [leP_iff]
        omega
      have e4 : (ps.mergeSort leP).map pairD = ys.map fun y => pairD (keyP X.K H y) := by rw [← e3, List.map_map]; rfl
      refine q A _ _ (.new hn) (S.new hn) (.lst (S.free hn) upd_same ?_)
      rw [e4]
      exact (RepL.of_all (f := fun y => pairD (keyP X.K H y)) fun y hy => (q2 y (perm.mem_iff.mp hy)).2).mono (.new hn)
  · cases hf
end
end DH
end
section
set_option Elab.async false
set_option linter.all false
set_option maxRecDepth 100000
set_option maxHeartbeats 2000000
/-! DH6: isinstance, methods, stores by plain values. -/
namespace DH
open PySem L2

section
variable {X : Cx} {W : Wd} {A : Ad} {H : Hp} {cs : Cs}
/-! ### isinstance -/
def tyNm : D → Option String
  | .non => some "NoneType" | .bl _ => some "bool" | .int _ => some "int" | .str _ => some "str"
  | .tup _ => some "tuple" | .lst _ => some "list" | .frz _ => some "list" | .dct _ => some "dict"
  | _ => none
theorem sqT_ty {K : PySem.W.Frag} {a : Addr} {vs : List V} (h : SqT K H a vs) : TyX K H (.ref a) (.type "tuple") := by
  rcases h with (h | ⟨o, h⟩) | ⟨o, its, n, e, c, _⟩
  · exact .base (.tup h)
  · exact .fTuple h
  · exact .kTuple e c
theorem sqL_ty {K : PySem.W.Frag} {a : Addr} {vs : List V} (h : SqL K H a vs) : TyX K H (.ref a) (.type "list") := by
  rcases h with (h | ⟨o, h⟩) | ⟨o, its, n, e, c, _⟩
  · exact .base (.lst h)
  · exact .base (.frz h)
  · exact .kList e c
theorem tyX_of {x : V} {d : D} {T : String} (rd : RepV W A H x d) (h : tyNm d = some T) : TyX W.K H x (.type T) := by
  unfold tyNm at h
  split at h
  all_goals first | (cases h; done) | skip
  · cases h; cases (show x = _ from rd); exact .base .non
  · cases h; cases (show x = _ from rd); exact .base (.bl _)
  · cases h; cases (show x = _ from rd); exact .base (.int _)
  · cases h; cases (show x = _ from rd.1); exact .base (.str _)
  · cases h; obtain ⟨a, vs, e1, s1, r1, _⟩ := rd; subst e1; exact sqT_ty s1
  · cases h; obtain ⟨a, vs, e1, s1, r1⟩ := rd; subst e1; exact .base (.lst s1)
  · cases h; obtain ⟨a, vs, e1, s1, r1⟩ := rd; subst e1; exact sqL_ty s1
  · cases h; obtain ⟨a, vs, e1, s1, r1⟩ := rd; subst e1; exact .base (.dK s1)
def tyS : Ty → Option String
  | .int => some "int" | .bool => some "bool" | .str => some "str" | .tuple => some "tuple" | .list => some "list" | .dict => some "dict" | .cls _ => none
theorem kit_all {t : Ty} {d : D} {k : Bool} {T U : String} (h : tyIs t d = some k) (hT : tyNm d = some T) (hU : tyS t = some U) : kitB T U = some k := by
  cases t <;> cases hU <;> cases d <;> cases hT <;> cases h <;> decide +kernel

/-! ### methods -/
def mtPy : Mt → Str
  | .append => "append" | .extend => "extend" | .pop0 => "pop" | .pop1 => "pop" | .join => "join" | .get1 => "get" | .get2 => "get" | .count => "count" | .index => "index" | .insert => "insert" | .split => "split"
def mtId : Mt → String
  | .append => "list.append" | .extend => "list.extend" | .pop0 => "list.pop" | .pop1 => "list.pop" | .join => "str.join" | .get1 => "dict.get" | .get2 => "dict.get" | .count => "list.count" | .index => "list.index" | .insert => "list.insert" | .split => "str.split"
def mtT : Mt → String
  | .join => "str" | .split => "str" | .get1 => "dict" | .get2 => "dict" | _ => "list"
def mtDone : Mt → Bool
  | .append => true | .extend => true | .pop0 => true | .pop1 => true | .join => true | .get1 => true | .get2 => true | _ => false
theorem mt_attrs (m : Mt) : PySem.PlainAttrs (mtT m) := match m with
  | .append => PySem.F.plainAttrs_list
  | .extend => PySem.F.plainAttrs_list
  | .pop0 => PySem.F.plainAttrs_list
  | .pop1 => PySem.F.plainAttrs_list
  | .count => PySem.F.plainAttrs_list
  | .index => PySem.F.plainAttrs_list
  | .insert => PySem.F.plainAttrs_list
  | .join => PySem.F.plainAttrs_str
  | .split => PySem.F.plainAttrs_str
  | .get1 => PySem.F.plainAttrs_dict
  | .get2 => PySem.F.plainAttrs_dict
theorem mt_slot (m : Mt) (h : mtDone m = true) : PySem.Slot (mtT m) (mtPy m) (mtId m) := match m, h with
  | .append, _ => PySem.F.slot_list_append
  | .extend, _ => PySem.F.slot_list_extend
  | .pop0, _ => PySem.F.slot_list_pop
  | .pop1, _ => PySem.F.slot_list_pop
  | .join, _ => PySem.F.slot_str_join
  | .get1, _ => PySem.F.slot_dict_get
  | .get2, _ => PySem.F.slot_dict_get
theorem mt_type (m : Mt) (h : mtDone m = true) : typeOf (.builtin (mtId m)) = pure (.type "method_descriptor") := match m, h with
  | .append, _ => PySem.F.type_list_append
  | .extend, _ => PySem.F.type_list_extend
  | .pop0, _ => PySem.F.type_list_pop
  | .pop1, _ => PySem.F.type_list_pop
  | .join, _ => PySem.F.type_str_join
  | .get1, _ => PySem.F.type_dict_get
  | .get2, _ => PySem.F.type_dict_get
theorem mt_ty (hK : X.K = W.K) {m : Mt} {x : V} {d : D} (rd : RepV W A H x d) (h : mtTy m d = true) : tyV X.K (mtT m) x H := by
  cases m <;> cases d <;> first
    | (cases h; done)
    | (obtain ⟨e1, l1⟩ := (show x = _ ∧ _ from rd); subst e1; rfl)
    | (obtain ⟨a, vs, e1, s1, r1⟩ := rd; subst e1; exact .inl ⟨rfl, vs, SqL.of s1⟩)
    | (obtain ⟨a, vs, e1, s1, r1⟩ := rd; subst e1; exact .inr (.inr (.inl ⟨rfl, .inl ⟨vs, s1⟩⟩)))
def dMeth (W : Wd) (m : Mt) : V → List V → Hp → VK → Prop := fun x vs H Q => ∃ A cs o ds d cs', Sta W A H cs ∧ Rep W A H x o ∧ RepL W A H vs ds ∧ methC m o ds cs = .ok d cs' ∧ ∀ A' H' v, Ext A H A' H' → Sta W A' H' cs' → Rep W A' H' v d → Q v H'
theorem RepL.one {vs : List V} {d : D} (h : RepL W A H vs [d]) : ∃ v, vs = [v] ∧ Rep W A H v d := by
  cases h with | cons r t => cases t; exact ⟨_, rfl, r⟩
theorem RepL.two {vs : List V} {d e : D} (h : RepL W A H vs [d, e]) : ∃ v u, vs = [v, u] ∧ Rep W A H v d ∧ Rep W A H u e := by
  cases h with | cons r t => obtain ⟨u, e, q⟩ := t.one; subst e; exact ⟨_, u, rfl, r, q⟩
theorem RepL.emp {vs : List V} (h : RepL W A H vs []) : vs = [] := by cases h; rfl
theorem cell_lst (S : Sta W A H cs) {i : Nat} {xs : List D} {x : V} (r : Rep W A H x (.ptr i)) (h : cs[i]? = some (.lst xs)) : ∃ a vs, x = .ref a ∧ A.r[i]? = some a ∧ H a = some (.lst vs) ∧ RepL W A H vs xs := by
  cases r with
  | @ptr i a e =>
    obtain ⟨vs, q1, q2⟩ := S.cell i a _ e h
    exact ⟨a, vs, rfl, e, q1, q2⟩
theorem cell_dct (S : Sta W A H cs) {i : Nat} {xs : List (D × D)} {x : V} (r : Rep W A H x (.ptr i)) (h : cs[i]? = some (.dct xs)) : ∃ a vs, x = .ref a ∧ A.r[i]? = some a ∧ H a = some (.dK vs) ∧ RepK W A H vs xs := by
  cases r with
  | @ptr i a e =>
    obtain ⟨vs, q1, q2⟩ := S.cell i a _ e h
    exact ⟨a, vs, rfl, e, q1, q2⟩
/-- a list's cell is changed -/
theorem set_lst (S : Sta W A H cs) {i : Nat} {a : Addr} {vs : List V} {ds : List D} (e : A.r[i]? = some a) (r : RepL W A H vs ds) : Ext A H A (upd H a (.lst vs)) ∧ Sta W A (upd H a (.lst vs)) (cs.set i (.lst ds)) :=
  ⟨.write e, S.write e ⟨vs, upd_same, r.mono (.write e)⟩⟩
theorem mt_all (hu : X.A.units + 64 < cLine) (m : Mt) (hm : mtDone m = true) : MtR X (mtId m) (dMeth W m) := by
  intro pins s σ H x xs v us Q I rx rs h
  obtain ⟨A, cs, o, ds, d, cs', S, ro, rd, hf, q⟩ := h
  have hline := line_eq
  unfold methC at hf
  split at hf
  · rename_i i d0
    split at hf
    · rename_i zs hc
      split at hf
      · rename_i hl
        cases hf
        obtain ⟨a, vs, e1, e2, s1, r1⟩ := cell_lst S ro hc
        obtain ⟨y, e3, r3⟩ := rd.one
        subst e1 e3
        refine mt_append pins s σ H _ _ v us Q I rx rs ⟨a, vs, y, rfl, rfl, s1, by rw [r1.length, ← hline]; exact hl, ?_⟩
        obtain ⟨k1, k2⟩ := set_lst S e2 (r1.append (.cons r3 .nil))
        exact q A _ _ k1 k2 .non
      · cases hf
    · cases hf
  · rename_i i d0
    split at hf
    · rename_i zs ys hc hy
      split at hf
      · rename_i hl
        cases hf
        obtain ⟨a, vs, e1, e2, s1, r1⟩ := cell_lst S ro hc
        obtain ⟨y, e3, r3⟩ := rd.one
        have r4 := r3.view S
        rw [hy] at r4
        obtain ⟨b, ws, e4, s4, r5⟩ := r4
        subst e1 e3 e4
        refine mt_extend pins s σ H _ _ v us Q I rx rs ⟨a, b, vs, ws, rfl, rfl, s1, s4, by rw [r1.length, r5.length, ← hline]; exact hl, ?_⟩
        obtain ⟨k1, k2⟩ := set_lst S e2 (r1.append r5)
        exact q A _ _ k1 k2 .non
      · cases hf
    · cases hf
  · rename_i i
    split at hf
    · rename_i zs hc
      split at hf
      · rename_i d1 hd
        cases hf
        obtain ⟨a, vs, e1, e2, s1, r1⟩ := cell_lst S ro hc
        obtain ⟨w, hw, rw'⟩ := r1.get hd
        rw [rd.emp] at rs
        subst e1
        refine mt_pop pins s σ H _ _ v us Q I rx rs ⟨a, vs, w, rfl, rfl, s1, by rw [r1.length]; exact hw, ?_⟩
        obtain ⟨k1, k2⟩ := set_lst S e2 r1.dropLast
        exact q A _ _ k1 k2 (rw'.mono k1)
      · cases hf
    · cases hf
  · rename_i i k
    split at hf
    · rename_i zs hc
      split at hf
      · rename_i j hj
        split at hf
        · rename_i d1 hd
          split at hf
          · rename_i hb
            cases hf
            obtain ⟨a, vs, e1, e2, s1, r1⟩ := cell_lst S ro hc
            obtain ⟨w, hw, rw'⟩ := r1.get hd
            obtain ⟨y, e3, r3⟩ := rd.one
            have r4 : y = V.int k := r3.val
            subst e1 e3 r4
            refine mt_popAt pins s σ H _ _ v us Q I rx rs ⟨a, vs, k, j, w, rfl, rfl, s1, hb.1, hb.2, by rw [r1.length]; exact (ixN_seq hj).1, hw, ?_⟩
            obtain ⟨k1, k2⟩ := set_lst S e2 (r1.eraseIdx j)
            exact q A _ _ k1 k2 (rw'.mono k1)
          · cases hf
        · cases hf
      · cases hf
    · cases hf
  · rename_i sep x0
    split at hf
    · rename_i zs hz
      split at hf
      · rename_i ss hs
        split at hf
        · rename_i hl
          cases hf
          obtain ⟨e1, l1⟩ := (show x = _ ∧ _ from ro.val)
          obtain ⟨y, e3, r3⟩ := rd.one
          have r4 := r3.view S
          rw [hz] at r4
          obtain ⟨b, ws, e4, s4, r5⟩ := r4
          have e5 := r5.strs hs
          subst e1 e3 e4 e5
          refine mt_join pins s σ H _ _ v us Q I rx rs ⟨_, b, ss.map SX.S, rfl, rfl, .inl (SqL.of s4), ?_, ?_⟩
          · rw [SX.lens, List.length_map, str_len]
            exact hl
          · have e6 : Txt.join (⟨sep.toArray⟩ : Str) (ss.map SX.S) = ⟨(TL.joinL sep ss).toArray⟩ := SX.join_S sep ss
            rw [e6]
            refine q A H _ .refl S (.str _ ?_)
            have e7 : ∀ (l : List (List Nat)), (TL.joinL sep l).length ≤ (l.map List.length).sum + l.length * sep.length := by
              intro l
              induction l with
              | nil => simp [TL.joinL]
              | cons a r ih =>
                cases r with
                | nil => simp [TL.joinL]
                | cons b r' =>
                  simp only [TL.joinL, List.length_append, List.map_cons, List.sum_cons, List.length_cons] at ih ⊢
                  simp only [Nat.add_mul, Nat.one_mul] at ih ⊢
                  omega
            exact Nat.le_trans (e7 ss) hl
        · cases hf
      · cases hf
    · cases hf
  · rename_i k0
    split at hf
    · rename_i kvs hk
      split at hf
      · rename_i hkey
        cases hf
        have r4 := ro.view S
        rw [hk] at r4
        obtain ⟨a, ks, e1, s1, r1⟩ := r4
        obtain ⟨y, e3, r3⟩ := rd.one
        obtain ⟨key, e5, kr⟩ := key_of r3.val hkey
        subst e1 e3
        obtain rfl : v = Value.ref a := rx
        obtain ⟨u, e6, ru⟩ := Vals.one rs
        subst e6
        subst e5
        refine d_get1 (by omega) I (DGet.k s1) ru fun w' s3 I3 rw' => ⟨_, H, I3, rw', ?_⟩
        rcases r1.look kr with ⟨q1, q2⟩ | ⟨d', v', q1, q2, r'⟩
        · rw [q2]
          rw [q1] at q
          exact q A H _ .refl S .non
        · rw [q2]
          rw [q1] at q
          exact q A H _ .refl S r'
      · cases hf
    · cases hf
  · rename_i k0 d0
    split at hf
    · rename_i kvs hk
      split at hf
      · rename_i hkey
        cases hf
        have r4 := ro.view S
        rw [hk] at r4
        obtain ⟨a, ks, e1, s1, r1⟩ := r4
        obtain ⟨y, z, e3, r3, r6⟩ := rd.two
        obtain ⟨key, e5, kr⟩ := key_of r3.val hkey
        subst e1 e3
        obtain rfl : v = Value.ref a := rx
        obtain ⟨u, u2, e6, ru, ru2⟩ := Vals.two rs
        subst e6
        subst e5
        refine d_get2 (by omega) I (DGet.k s1) ru ru2 fun w' s3 I3 rw' => ⟨_, H, I3, rw', ?_⟩
        rcases r1.look kr with ⟨q1, q2⟩ | ⟨d', v', q1, q2, r'⟩
        · rw [q2]
          rw [q1] at q
          exact q A H _ .refl S r6
        · rw [q2]
          rw [q1] at q
          exact q A H _ .refl S r'
      · cases hf
    · cases hf
  · cases hf

/-! ### o[k] = d -/
def dSet (W : Wd) : TSet := fun o i v H Q => ∃ A cs x k d cs', Sta W A H cs ∧ Rep W A H o x ∧ Rep W A H i k ∧ Rep W A H v d ∧ setC x k d cs = some cs' ∧ ∀ A' H', Ext A H A' H' → Sta W A' H' cs' → Q H'
theorem set_all (hu : X.A.units + 64 < cLine) : PSet X (dSet W) := by
  intro pins s σ H o i v ov iv u Q I ro ri rv h
  obtain ⟨A, cs, x, k, d, cs', S, r0, r1, r2, hf, q⟩ := h
  have hline := line_eq
  unfold setC at hf
  split at hf
  · rename_i j
    split at hf
    · rename_i zs hc
      split at hf
      · rename_i n
        obtain ⟨j', hj, e⟩ := Option.map_eq_some_iff.mp hf
        subst e
        obtain ⟨a, vs, e1, e2, s1, r3⟩ := cell_lst S r0 hc
        cases (show i = _ from r1.val)
        subst e1
        refine set_list pins s σ H _ _ v ov iv u Q I ro ri rv ⟨a, vs, n, j', rfl, rfl, s1, by rw [r3.length]; exact hj, ?_⟩
        obtain ⟨k1, k2⟩ := set_lst S e2 (RepL.set r2 j' r3)
        exact q A _ k1 k2
      · cases hf
    · rename_i zs hc
      split at hf
      · rename_i hh
        cases hf
        obtain ⟨a, ks, e1, e2, s1, r3⟩ := cell_dct S r0 hc
        obtain ⟨key, e5, kr⟩ := key_of r1.val hh.1
        subst e1 e5
        obtain rfl : ov = Value.ref a := ro
        refine d_setItem (by omega) I (DPut.k (v := v) s1 (by rw [r3.length, ← hline]; exact hh.2)) ri rv fun s4 I4 => ⟨_, I4, ?_⟩
        exact q A _ (.write e2) (S.write e2 ⟨_, upd_same, (r3.put kr r2).mono (.write e2)⟩)
      · cases hf
    · cases hf
  · cases hf
end
end DH
end
section
set_option Elab.async false
set_option linter.all false
set_option maxRecDepth 100000
set_option maxHeartbeats 2000000
/-! DH7: the language against the text: the check, what it means. -/
namespace DH
open PySem L2

structure Sc where
  G : Glob
  N : List Str
  sc : Scope
  fb : Str → Bool
def Sc.inner (S : Sc) (scope : Scope) : Sc := { S with sc := relS scope S.sc, fb := fun x => scope.names.lookup x == some .cell }
def dunder (x : Str) : Bool := x == ("__debug__" : Str) || x == ("__classdict__" : Str) || x == ("__name__" : Str)
def visB (sc : Scope) (x : Str) : Bool := (match sc.names.lookup x with
  | some .local => true
  | some .cell => true
  | some .free => true
  | _ => false) && !dunder x
def glB (sc : Scope) (x : Str) : Bool := decide (sc.names.lookup x = some .globalImplicit) && !dunder x
/-- x may be stored in its slot -/
def stoB (S : Sc) (x : Str) : Bool := (match S.sc.names.lookup x with
  | some .local => true
  | some .cell => S.fb x
  | _ => false)
def plainX : Expr → Bool
  | .Starred _ _ => false
  | .Slice _ _ _ _ => false
  | .Set _ _ _ => false
  | _ => true
def baseX : Expr → Bool
  | .Call _ [] _ _ => false
  | _ => true
def litB : D → Const → Bool
  | .non, .none => true
  | .bl b, .bool c => b == c
  | .int i, .int j => decide (i = j)
  | .str s, .str t => decide (t = ⟨s.toArray⟩) && decide (s.length ≤ line)
  | _, _ => false
def tyNmS : Ty → Str
  | .int => "int" | .bool => "bool" | .str => "str" | .tuple => "tuple" | .list => "list" | .dict => "dict" | .cls _ => ""
def tysB (S : Sc) : List Ty → List Expr → Bool
  | [], [] => true
  | t :: ts, .Name n _ :: es => (tyS t).isSome && decide (n = tyNmS t) && glB S.sc n && tysB S ts es
  | _, _ => false
def tgB (S : Sc) (tg : Tg) (x : Expr) : Bool := match tg, x with
  | .var i, .Name n _ => decide (S.N[i]? = some n) && stoB S n
  | .tup is, .Tuple es _ _ => tgsB is es
  | _, _ => false
where tgsB : List Nat → List Expr → Bool
  | [], [] => true
  | i :: is, .Name n _ :: es => decide (S.N[i]? = some n) && stoB S n && tgsB is es
  | _, _ => false
def ownP (N : List Str) (own : List Nat) : List (Str × Nat) := own.map fun j => (N.getD j Str.empty, j)
def bltNames : List Str := ["len", "int", "tuple", "all", "any", "sum", "min", "max", "abs", "isinstance", "range", "list", "bool", "str", "dict", "zip", "enumerate", "reversed", "sorted", "set"]
/-- the target that a walk wants -/
def tgFor : IT → Expr → Bool
  | .zip _ _, .Tuple _ _ _ => true
  | .zip _ _, _ => false
  | _, _ => true
def ownTg (own : List Nat) : Tg → Bool
  | .var i => own.contains i
  | .tup is => is.all own.contains
mutual
def chkE (S : Sc) : IE → Expr → Bool
  | .var i, .Name n _ => decide (S.N[i]? = some n) && visB S.sc n
  | .lit d, .Constant c _ _ => litB d c
  | .glb k, .Name n _ => decide ((S.G.consts[k]?).map (·.1) = some n) && glB S.sc n
  | .bin op a b, .BinOp x o y _ => decide (o = opPy op) && chkE S a x && chkE S b y
  | .neg a, .UnaryOp o x _ => decide (o = .USub) && chkE S a x
  | .not a, .UnaryOp o x _ => decide (o = .Not) && chkE S a x
  | .and a b, .BoolOp o (x :: y :: r) pos => decide (o = .And) && chkE S a x && (match r with
    | [] => chkE S b y
    | z :: r => chkE S b (.BoolOp o (y :: z :: r) pos))
  | .or a b, .BoolOp o (x :: y :: r) pos => decide (o = .Or) && chkE S a x && (match r with
    | [] => chkE S b y
    | z :: r => chkE S b (.BoolOp o (y :: z :: r) pos))
  | .ite c a b, .IfExp t x y _ => chkE S c t && chkE S a x && chkE S b y
  | .cmp op a b, .Compare x [o] [y] _ => decide (o = copPy op) && plainX y && chkE S a x && chkE S b y
  | .chn o1 o2 a b c, .Compare x [p1, p2] [y, z] _ => decide (p1 = copPy o1) && decide (p2 = copPy o2) && plainX z && chkE S a x && chkE S b y && chkE S c z
  | .tup es, .Tuple xs _ _ => chkEs S es xs
  | .call f es, .Call (.Name n _) (x :: xs) [] _ => decide ((S.G.fns[f]?).map (·.name) = some n) && glB S.sc n && chkEs S es (x :: xs)
  | .callK f n m ord es kw, .Call (.Name x _) xs kws _ => (match S.G.fns[f]? with
    | some r => decide (r.name = x) && r.kw.any (fun q => decide (q.2 = ord) && decide (kws.map (·.arg) = q.1.map some) && decide (n = r.ps.length - q.1.length) && decide (m = q.1.length))
    | none => false) && glB S.sc x && chkEs S es xs && chkEs S kw (kws.map (·.value)) && !kws.isEmpty
  | .bi b es, .Call (.Name n _) (x :: xs) [] _ => decide (n = biPy b) && glB S.sc n && chkEs S es (x :: xs)
  | .meth m o es, .Call (.Attribute ox n ap) xs [] cp => decide (n = mtPy m) && mtDone m && baseX ox && decide (ap.endLine = cp.line) && decide (xs.length < 20) && chkE S o ox && chkEs S es xs
  | .idx a i, .Subscript x y _ => plainX y && chkE S a x && chkE S i y
  | .cut a lo hi, .Subscript x (.Slice l h none _) _ => chkE S a x && chkO S lo l && chkO S hi h
  | .attr a f, .Attribute x n _ => decide (S.G.flds[f]? = some n) && baseX x && chkE S a x
  | .isin a tys, .Call (.Name n _) [x, t] [] _ => decide (n = "isinstance") && glB S.sc n && plainX x && chkE S a x && (match t with
    | .Name m _ => tysB S tys [.Name m ⟨0, 0, 0, 0⟩]
    | .Tuple es _ _ => tysB S tys es && decide (tys.length ≤ 9) && decide (0 < tys.length)
    | _ => false)
  | .new _ l, x => chkL S l x
  | _, _ => false
def chkEs (S : Sc) : IEs → List Expr → Bool
  | .nil, [] => true
  | .cons e es, x :: xs => plainX x && chkE S e x && chkEs S es xs
  | _, _ => false
def chkO (S : Sc) : IO → Option Expr → Bool
  | .no, none => true
  | .yes e, some x => chkE S e x
  | _, _ => false
def chkC (S : Sc) : IO → List Expr → Bool
  | .no, [] => true
  | .yes e, [x] => chkE S e x
  | _, _ => false
def chkL (S : Sc) : IL → Expr → Bool
  | .disp es, .List xs _ => chkEs S es xs
  | .comp own tg it c elt, .ListComp el [⟨t, i, ifs, z⟩] scope _ => decide (z = 0) && blkC S.N S.sc scope (ownP S.N own) && plainX i && chkT S it i && tgB (S.inner scope) tg t && chkC (S.inner scope) c ifs && chkE (S.inner scope) elt el && ownTg own tg && tgFor it t
  | .cat a b, .BinOp x o y _ => decide (o = .Add) && chkE S a x && chkE S b y
  | .rep a b, .BinOp x o y _ => decide (o = .Mult) && chkE S a x && chkE S b y
  | .of e, .Call (.Name n _) [x] [] _ => decide (n = "list") && glB S.sc n && plainX x && chkE S e x
  | _, _ => false
def chkT (S : Sc) : IT → Expr → Bool
  | .seq e, x => chkE S e x
  | .rng1 a, .Call (.Name n _) [x] [] _ => decide (n = "range") && glB S.sc n && plainX x && chkE S a x
  | .rng2 a b, .Call (.Name n _) [x, y] [] _ => decide (n = "range") && glB S.sc n && plainX x && plainX y && chkE S a x && chkE S b y
  | .rng3 a b c, .Call (.Name n _) [x, y, z] [] _ => decide (n = "range") && glB S.sc n && plainX x && plainX y && plainX z && chkE S a x && chkE S b y && chkE S c z
  | .zip a b, .Call (.Name n _) [x, y] [] _ => decide (n = "zip") && glB S.sc n && plainX x && plainX y && chkE S a x && chkE S b y
  | _, _ => false
end
end DH
end
section
set_option Elab.async false
set_option linter.all false
set_option maxRecDepth 100000
set_option maxHeartbeats 2000000
/-! DH8: what the context gives; the pieces of the soundness proof. -/
namespace DH
open PySem L2

def spD (W : Wd) (f : List D → Cs → Res D) : Sp := fun vs H Q E => ∃ A ds cs, RepL W A H vs ds ∧ Sta W A H cs ∧ FinG W (fun c d _ H' => E c d H') (Rep W) A [] H Q (f ds cs)
/-- the parameters' values out of the positional ones and the keywords' -/
def gK {α : Type} (n m : Nat) (ord : List Nat) (z : α) (us ws : List α) : List α := if us.length = n ∧ ws.length = m then ord.map fun i => (us ++ ws).getD i z else []
theorem gK_len {α : Type} {n m p : Nat} {ord : List Nat} {z : α} {us ws : List α} (h : (gK n m ord z us ws).length = p) (hp : 0 < p) : us.length = n ∧ ws.length = m := by
  unfold gK at h
  split at h
  · assumption
  · rw [← h] at hp
    simp at hp
theorem gK_rel {n m : Nat} {ord : List Nat} {vs zs : List V} {us ws : List Value} (r1 : Vals vs us) (r2 : Vals zs ws) : Vals (gK n m ord V.non vs zs) (gK n m ord Value.none us ws) := by
  unfold gK
  rw [r1.length, r2.length]
  split
  · have r := r1.append r2
    have at_ : ∀ (i : Nat) {l : List V} {l' : List Value}, Vals l l' → RelV (l.getD i .non) (l'.getD i .none) := by
      intro i
      induction i with
      | zero => intro l l' h; cases h with
        | nil => rfl
        | cons h _ => exact h
      | succ i ih => intro l l' h; cases h with
        | nil => rfl
        | cons _ t => simpa using ih t
    induction ord with
    | nil => exact .nil
    | cons i ord ih => exact .cons (at_ i r) ih
  · exact .nil
structure GOk (G : Glob) (k : Nat) (W : Wd) (P : Program) (w : World) (K : PySem.W.Frag) (mg : Str → Option Value) (base : Heap) : Prop where
  hK : K = W.K
  fns : ∀ (i : Nat) (r : Fn), G.fns[i]? = some r → ∃ (f : Addr) (fd : FuncData), mg r.name = some (.ref f) ∧ PySem.W.keepIn K (.ref f) = true ∧ Binds K fd r.ps [] ∧ FnOk P w K mg base (L2.CX P w) k f fd r.ps (spD W (callD G k i)) ∧
    ∀ q ∈ r.kw, KBinds K fd r.ps q.1 (gK (r.ps.length - q.1.length) q.1.length q.2 Value.none) (gK (r.ps.length - q.1.length) q.1.length q.2 V.non)
  blt : ∀ x ∈ bltNames, mg x = none
  cst : ∀ (n : Nat) (x : Str) (d : D), G.consts[n]? = some (x, d) → ∃ (v : V) (u : Value), mg x = some u ∧ RelV v u ∧ ∀ A H, Rep W A H v d
  cls : ∀ (c : Nat) (C : Addr), W.cl c = some C → Cls K C ∧ ∀ (f : Nat) (s : Str), G.flds[f]? = some s → NoAttr K C s
  fld : ∀ (f : Nat) (s : Str), G.flds[f]? = some s → W.fname f = s
  finj : ∀ f g, W.fname f = W.fname g → f = g
structure XOk (S : Sc) (k : Nat) (W : Wd) (WX : WX) (X : Cx) : Prop where
  calm : X.calm = true
  hN : X.N = S.N
  nd : X.N.Nodup
  hsc : X.env.scope = S.sc
  fb : ∀ x, S.fb x = true → X.fn x = true
  room : Room k X.A
  tk : Takes X WX
  po : PassesOwn (model X.prog X.w) X.A X.env X.xe
  g : GOk S.G k W X.prog X.w X.K X.mg X.base

section
variable {X : Cx} {W : Wd} {WX : WX} {S : Sc} {k : Nat}
theorem PE_imp {e : Expr} {t t' : TE} (h : PE X e t) (f : ∀ σ H Q, t' σ H Q → t σ H Q) : PE X e t' := ⟨fun pins s σ H Q I q => h.run pins s σ H Q I (f σ H Q q)⟩
theorem PT_imp {e : Expr} {t t' : TT} (h : PT X e t) (f : ∀ σ H Q, t' σ H Q → t σ H Q) : PT X e t' := ⟨fun pins s σ H Q I q => h.run pins s σ H Q I (f σ H Q q)⟩
theorem PW_imp {e : Expr} {t t' : TT} (h : PW X e t) (f : ∀ σ H Q, t' σ H Q → t σ H Q) : PW X e t' := ⟨fun wh pins s σ H Q I q => h.run wh pins s σ H Q I (f σ H Q q)⟩
theorem PA_imp {e : List Expr} {t t' : TA} (h : PA X e t) (f : ∀ σ H Q, t' σ H Q → t σ H Q) : PA X e t' := ⟨fun pos pins s σ H Q I q => h.run pos pins s σ H Q I (f σ H Q q)⟩
theorem PS_imp {e : Stmt} {t t' : TS} (h : PS X e t) (f : ∀ D σ H, t' D σ H → t D σ H) : PS X e t' := ⟨fun pins s σ H D I q => h.run pins s σ H D I (f D σ H q)⟩

/-! ### names -/
theorem dunder_ne {x : Str} (h : dunder x = false) : (x == ("__debug__" : Str)) = false ∧ (x == ("__classdict__" : Str)) = false ∧ x ≠ "__name__" := by
  unfold dunder at h
  simp only [Bool.or_eq_false_iff] at h
  exact ⟨h.1.1, h.1.2, fun e => by have := h.2; rw [e] at this; simp at this⟩
theorem vis_of {sc : Scope} {x : Str} (h : visB sc x = true) : Vis sc x ∧ dunder x = false := by
  unfold visB at h
  rw [Bool.and_eq_true] at h
  obtain ⟨h1, h2⟩ := h
  refine ⟨?_, by simpa using h2⟩
  split at h1
  · exact .inl (by assumption)
  · exact .inr (.inl (by assumption))
  · exact .inr (.inr (by assumption))
  · cases h1
theorem gl_of {sc : Scope} {x : Str} (h : glB sc x = true) (e : X.env.scope = sc) : Gl X x ∧ dunder x = false := by
  unfold glB at h
  rw [Bool.and_eq_true, decide_eq_true_eq] at h
  refine ⟨?_, by simpa using h.2⟩
  show X.env.scope.names.lookup x = _
  rw [e]; exact h.1
theorem sto_of (o : XOk S k W WX X) {x : Str} (h : stoB S x = true) : Loc X.env.scope x ∧ (X.fn x = true ∨ X.env.scope.names.lookup x = some .local) := by
  unfold stoB at h
  rw [o.hsc]
  split at h
  · rename_i e; exact ⟨.inl e, .inr e⟩
  · rename_i e; exact ⟨.inr e, .inl (o.fb x h)⟩
  · cases h
theorem star_of {e : Expr} (es : List Expr) (env : PySem.Env) (h : plainX e = true) : starEach (e :: es) env = (false, eval e env) :: starEach es env := by
  cases e <;> first | rfl | (cases h; done)
theorem star_none {es : List Expr} {env : PySem.Env} {pos : Pos} (h : es.all plainX = true) : (backTo pos (starEach es env)).any (·.1) = false := by
  induction es with
  | nil => rfl
  | cons e r ih =>
    rw [List.all_cons, Bool.and_eq_true] at h
    rw [star_of r env h.1]
    show (false || (backTo pos (starEach r env)).any (·.1)) = false
    rw [ih h.2]; rfl
theorem base_of {o : Expr} {a : Str} {env : PySem.Env} {wh : Sem Value} (h : baseX o = true) : attributeBase o a env wh = wh := by
  cases o with
  | Call f as ks p =>
    cases as with
    | nil => cases h
    | cons x r => cases f <;> rfl
  | _ => rfl
def plainT : Expr → Bool
  | .UnaryOp o _ _ => match o with
    | .Not => false
    | _ => true
  | .BoolOp _ _ _ => false
  | .IfExp _ _ _ _ => false
  | .Compare _ _ _ _ => false
  | _ => true
theorem tru_plain {a : Expr} (h : plainT a = true) : ∀ whole, isTrue a X.env whole = (do let v ← whole; standAt a.pos; holding [v] (truthy v)) := by
  intro wh
  cases a with
  | UnaryOp o x p => cases o <;> first | rfl | (cases h; done)
  | BoolOp _ _ _ => cases h
  | IfExp _ _ _ _ => cases h
  | Compare _ _ _ _ => cases h
  | _ => rfl
theorem plainIx_of {b : Expr} (h : plainX b = true) : PlainIx b := by
  intro o i
  cases b <;> first | rfl | (cases h; done)
theorem noset_of {e : Expr} {env : PySem.Env} (h : plainX e = true) : ∀ x, foldedSetIterable e env x = pure x := by
  intro x
  cases e <;> first | rfl | (cases h; done)
theorem nomark_of {e : Expr} {op : CmpOp} (h : plainX e = true) : behindInMarks op e = false := by
  cases e <;> first | rfl | (cases h; done)

/-! ### tests -/
abbrev EqB : Ad → Hp → Bool → Bool → Prop := fun _ _ b a => b = a
theorem pt_of (hK : X.K = W.K) {x : Expr} {m : DH.Env → Cs → Res D} (he : PE X x (tG W WX (Rep W) m)) (hp : plainT x = true) : PT X x (tG W WX EqB fun env cs => tstR (m env cs)) := by
  refine PT_imp (pt_truth he (tru_plain hp)) fun σ H Q h => ?_
  obtain ⟨A, env, cs, hE, hS, hF⟩ := h
  refine ⟨A, env, cs, hE, hS, FinG.bind hF fun d cs1 _ A1 H1 v e1 s1 r1 f1 => ?_⟩
  obtain ⟨b, hb, q⟩ := f1.opt
  exact ⟨b, truV_ok hK (r1.view s1) hb, q A1 H1 b .refl s1 rfl⟩
theorem tst_and (F : Ctx) (a b : IE) (env : DH.Env) (cs : Cs) : tstR (evE F (.and a b) env cs) = (tstR (evE F a env cs)).bind fun c cs1 => if c = true then tstR (evE F b env cs1) else .ok false cs1 := by
  simp only [evE]
  cases evE F a env cs with
  | ok d cs1 =>
    simp only [tstR, bind_ok]
    cases h : truV (view cs1 d) with
    | none => rfl
    | some c =>
      cases c with
      | true => rfl
      | false => simp [optR, h]
  | exc c fs cs1 => rfl
  | bad => rfl
theorem tst_or (F : Ctx) (a b : IE) (env : DH.Env) (cs : Cs) : tstR (evE F (.or a b) env cs) = (tstR (evE F a env cs)).bind fun c cs1 => if c = true then .ok true cs1 else tstR (evE F b env cs1) := by
  simp only [evE]
  cases evE F a env cs with
  | ok d cs1 =>
    simp only [tstR, bind_ok]
    cases h : truV (view cs1 d) with
    | none => rfl
    | some c =>
      cases c with
      | false => rfl
      | true => simp [optR, h]
  | exc c fs cs1 => rfl
  | bad => rfl
theorem tst_not (F : Ctx) (a : IE) (env : DH.Env) (cs : Cs) : tstR (evE F (.not a) env cs) = (tstR (evE F a env cs)).bind fun c cs1 => .ok (!c) cs1 := by
  simp only [evE]
  cases h : tstR (evE F a env cs) <;> rfl
theorem tst_ite (F : Ctx) (c a b : IE) (env : DH.Env) (cs : Cs) : tstR (evE F (.ite c a b) env cs) = (tstR (evE F c env cs)).bind fun c cs1 => if c = true then tstR (evE F a env cs1) else tstR (evE F b env cs1) := by
  simp only [evE]
  cases h : tstR (evE F c env cs) with
  | ok d cs1 => cases d <;> rfl
  | exc c fs cs1 => rfl
  | bad => rfl

/-! ### what is being made -/
def Ad.add (A : Ad) (p : Addr) : Ad := ⟨A.r, p :: A.b⟩
variable {A A' A1 : Ad} {H H' H1 : Hp} {cs cs' : Cs} {p : Addr}
theorem no_add {a : Addr} {o : HO} (n : A.no a) (h : H a = some o) (hp : H p = none) : (A.add p).no a :=
  ⟨n.1, fun z => (List.mem_cons.mp z).elim (fun e => by rw [e, hp] at h; cases h) n.2⟩
theorem rd_some {a : Addr} {u : HO} (h : Rd H a u) : ∃ o, H a = some o := by
  rcases h with h | ⟨o, h⟩
  · exact ⟨_, h⟩
  · exact ⟨_, h⟩
mutual
theorem Rep.busy (hp : H p = none) : ∀ {v : V} {d : D}, Rep W A H v d → Rep W (A.add p) H v d
  | _, _, .non => .non
  | _, _, .bl b => .bl b
  | _, _, .int i => .int i
  | _, _, .str s h => .str s h
  | _, _, .tup n h r => .tup (let ⟨_, e⟩ := rd_some h; no_add n e hp) h (RepL.busy hp r)
  | _, _, .tupK h r => .tupK h (RepL.busy hp r)
  | _, _, .lst n h r => .lst (no_add n h hp) h (RepL.busy hp r)
  | _, _, .frz n h r => .frz (let ⟨_, e⟩ := rd_some h; no_add n e hp) h (RepL.busy hp r)
  | _, _, .frzK h r => .frzK h (RepL.busy hp r)
  | _, _, .dct n h r => .dct (no_add n h hp) h (RepK.busy hp r)
  | _, _, .ins n c h r => .ins (no_add n h hp) c h (RepF.busy hp r)
  | _, _, .ptr h => .ptr h
theorem RepL.busy (hp : H p = none) : ∀ {v : List V} {d : List D}, RepL W A H v d → RepL W (A.add p) H v d
  | _, _, .nil => .nil
  | _, _, .cons r t => .cons (Rep.busy hp r) (RepL.busy hp t)
theorem RepK.busy (hp : H p = none) : ∀ {v : List (Key × V)} {d : List (D × D)}, RepK W A H v d → RepK W (A.add p) H v d
  | _, _, .nil => .nil
  | _, _, .cons k r t => .cons k (Rep.busy hp r) (RepK.busy hp t)
theorem RepF.busy (hp : H p = none) : ∀ {v : List (Str × V)} {d : List (Nat × D)}, RepF W A H v d → RepF W (A.add p) H v d
  | _, _, .nil => .nil
  | _, _, .cons r t => .cons (Rep.busy hp r) (RepF.busy hp t)
end
theorem CellOk.busy (hp : H p = none) {a : Addr} : ∀ {c : Cell}, CellOk W A H a c → CellOk W (A.add p) H a c
  | .lst _, ⟨vs, q, r⟩ => ⟨vs, q, r.busy hp⟩
  | .dct _, ⟨vs, q, r⟩ => ⟨vs, q, r.busy hp⟩
  | .ins _ _, ⟨C, dx, vs, c, q, r⟩ => ⟨C, dx, vs, c, q, r.busy hp⟩
/-- the address sets differ: from A to A' -/
structure Shift (A A' : Ad) : Prop where
  no : ∀ a, A.no a → A'.no a
  at_ : ∀ (i : Nat) (a : Addr), A.r[i]? = some a → A'.r[i]? = some a
mutual
theorem Rep.shift (s : Shift A A') : ∀ {v : V} {d : D}, Rep W A H v d → Rep W A' H v d
  | _, _, .non => .non
  | _, _, .bl b => .bl b
  | _, _, .int i => .int i
  | _, _, .str t h => .str t h
  | _, _, .tup n h r => .tup (s.no _ n) h (RepL.shift s r)
  | _, _, .tupK h r => .tupK h (RepL.shift s r)
  | _, _, .lst n h r => .lst (s.no _ n) h (RepL.shift s r)
  | _, _, .frz n h r => .frz (s.no _ n) h (RepL.shift s r)
  | _, _, .frzK h r => .frzK h (RepL.shift s r)
  | _, _, .dct n h r => .dct (s.no _ n) h (RepK.shift s r)
  | _, _, .ins n c h r => .ins (s.no _ n) c h (RepF.shift s r)
  | _, _, .ptr h => .ptr (s.at_ _ _ h)
theorem RepL.shift (s : Shift A A') : ∀ {v : List V} {d : List D}, RepL W A H v d → RepL W A' H v d
  | _, _, .nil => .nil
  | _, _, .cons r t => .cons (Rep.shift s r) (RepL.shift s t)
theorem RepK.shift (s : Shift A A') : ∀ {v : List (Key × V)} {d : List (D × D)}, RepK W A H v d → RepK W A' H v d
  | _, _, .nil => .nil
  | _, _, .cons k r t => .cons k (Rep.shift s r) (RepK.shift s t)
theorem RepF.shift (s : Shift A A') : ∀ {v : List (Str × V)} {d : List (Nat × D)}, RepF W A H v d → RepF W A' H v d
  | _, _, .nil => .nil
  | _, _, .cons r t => .cons (Rep.shift s r) (RepF.shift s t)
end
theorem CellOk.shift (s : Shift A A') {a : Addr} : ∀ {c : Cell}, CellOk W A H a c → CellOk W A' H a c
  | .lst _, ⟨vs, q, r⟩ => ⟨vs, q, r.shift s⟩
  | .dct _, ⟨vs, q, r⟩ => ⟨vs, q, r.shift s⟩
  | .ins _ _, ⟨C, dx, vs, c, q, r⟩ => ⟨C, dx, vs, c, q, r.shift s⟩
theorem REnv.shift (s : Shift A A') {σ : L2.St} {env : DH.Env} (r : REnv W A H σ env) : REnv W A' H σ env := ⟨r.len, fun i d h => by
  obtain ⟨v, q, z⟩ := r.at_ i d h
  exact ⟨v, q, z.shift s⟩⟩
theorem REnv.busy (hp : H p = none) {σ : L2.St} {env : DH.Env} (r : REnv W A H σ env) : REnv W (A.add p) H σ env := ⟨r.len, fun i d h => by
  obtain ⟨v, q, z⟩ := r.at_ i d h
  exact ⟨v, q, z.busy hp⟩⟩
theorem shift_un : Shift (A.add p) A := ⟨fun a n => ⟨n.1, fun z => n.2 (List.mem_cons_of_mem _ z)⟩, fun _ _ h => h⟩
theorem shift_push : Shift (A.add p) (A.push p) := ⟨fun a n => ⟨fun z => (List.mem_append.mp z).elim n.1 fun e => n.2 (by rw [List.mem_singleton.mp e]; exact List.mem_cons_self), fun z => n.2 (List.mem_cons_of_mem _ z)⟩, fun i a h => by
  have h' : A.r[i]? = some a := h
  show (A.r ++ [p])[i]? = some a
  rw [List.getElem?_append_left (List.getElem?_eq_some_iff.mp h').1]; exact h'⟩
/-- a place is taken for what is being made -/
theorem Sta.busied {o : HO} (S : Sta W A H cs) (hp : H p = none) : Sta W (A.add p) (upd H p o) cs := by
  have e : Ext (A.add p) H (A.add p) (upd H p o) := .new hp
  refine ⟨S.nd, S.len, fun i a c h1 h2 => ?_, fun a ha => ?_⟩
  · have ok := S.cell i a c h1 h2
    obtain ⟨u, q⟩ := ok.there
    exact (ok.busy hp).mono e (upd_ne (ne_of_none q hp))
  · rcases List.mem_cons.mp ha with z | z
    · rw [z]; exact ⟨(S.free hp).1, _, upd_same⟩
    · obtain ⟨n, u, q⟩ := S.busy a z
      exact ⟨n, u, by rw [upd_ne (ne_of_none q hp)]; exact q⟩
theorem Sta.unbusy (S : Sta W (A.add p) H cs) : Sta W A H cs :=
  ⟨S.nd, S.len, fun i a c h1 h2 => (S.cell i a c h1 h2).shift shift_un, fun a ha => S.busy a (List.mem_cons_of_mem _ ha)⟩
/-- what was made becomes a cell -/
theorem Sta.toCell {c : Cell} (S : Sta W (A.add p) H cs) (hb : p ∉ A.b) (ok : CellOk W (A.add p) H p c) : Sta W (A.push p) H (cs ++ [c]) := by
  have hp := (S.busy p List.mem_cons_self).1
  have len : A.r.length = cs.length := S.len
  refine ⟨?_, by show (A.r ++ [p]).length = _; simp [len], fun i a c' h1 h2 => ?_, fun a ha => ?_⟩
  · show (A.r ++ [p]).Nodup
    rw [List.nodup_append]
    refine ⟨S.nd, by simp, fun a ha b hb' => ?_⟩
    rw [List.mem_singleton.mp hb']
    intro z; subst z; exact hp ha
  · have h1' : (A.r ++ [p])[i]? = some a := h1
    by_cases hi : i < A.r.length
    · rw [List.getElem?_append_left hi] at h1'
      rw [List.getElem?_append_left (by rw [← len]; exact hi)] at h2
      exact (S.cell i a c' h1' h2).shift shift_push
    · rw [List.getElem?_append_right (by omega)] at h1'
      rw [List.getElem?_append_right (by rw [← len]; omega), ← len] at h2
      have hz : i - A.r.length = 0 := by
        have := (List.getElem?_eq_some_iff.mp h1').1
        simp at this; omega
      rw [hz] at h1' h2
      simp at h1' h2
      subst h1' h2
      exact ok.shift shift_push
  · obtain ⟨q1, q2⟩ := S.busy a (List.mem_cons_of_mem _ ha)
    refine ⟨fun z => ?_, q2⟩
    rcases List.mem_append.mp z with z | z
    · exact q1 z
    · rw [List.mem_singleton.mp z] at ha
      exact hb ha

/-! ### a new list -/
/-- the end of what makes a new list at p -/
def FinF (W : Wd) (WX : L2.WX) (A : Ad) (σ : L2.St) (H : Hp) (Q : V → Hp → Prop) (p : Addr) : Res (List D) → Prop
  | .ok ds cs' => ∀ A' H' vs, Ext (A.add p) H A' H' → Sta W A' H' cs' → RepL W A' H' vs ds → H' p = some (.lst vs) → Q (.ref p) H'
  | .exc c fs cs' => ExcW W WX A σ H c fs cs'
  | .bad => False
def FinL (W : Wd) (WX : L2.WX) (A : Ad) (σ : L2.St) (H : Hp) (Q : V → Hp → Prop) (r : Res (List D)) : Prop := match r with
  | .ok ds cs' => ∀ p, H p = none → FinF W WX A σ H Q p (.ok ds cs')
  | .exc c fs cs' => ExcW W WX A σ H c fs cs'
  | .bad => False
def tL (W : Wd) (WX : L2.WX) (m : DH.Env → Cs → Res (List D)) : TE := fun σ H Q => ∃ A env cs, REnv W A H σ env ∧ Sta W A H cs ∧ FinL W WX A σ H Q (m env cs)
end
end DH
end
section
set_option Elab.async false
set_option linter.all false
set_option maxRecDepth 100000
set_option maxHeartbeats 2000000
/-! DH9: what is walked; a comprehension's turns. -/
namespace DH
open PySem L2

section
variable {X : Cx} {W : Wd} {WX : L2.WX} {S : Sc} {k : Nat} {A A' A1 : Ad} {H H' H1 : Hp} {cs cs' : Cs} {p : Addr}
def Ad.adds (A : Ad) (B : List Addr) : Ad := ⟨A.r, B ++ A.b⟩
theorem Rep.busyB {v : V} {d : D} (r : Rep W A H v d) : ∀ {B : List Addr}, (∀ b ∈ B, H b = none) → Rep W (A.adds B) H v d
  | [], _ => r
  | b :: B, h => (Rep.busyB r fun c hc => h c (List.mem_cons_of_mem _ hc)).busy (h b List.mem_cons_self)
theorem RepL.busyB {v : List V} {d : List D} (r : RepL W A H v d) : ∀ {B : List Addr}, (∀ b ∈ B, H b = none) → RepL W (A.adds B) H v d
  | [], _ => r
  | b :: B, h => (RepL.busyB r fun c hc => h c (List.mem_cons_of_mem _ hc)).busy (h b List.mem_cons_self)
theorem no_adds {a : Addr} {o : HO} (n : A.no a) (h : H a = some o) {B : List Addr} (hB : ∀ b ∈ B, H b = none) : (A.adds B).no a :=
  ⟨n.1, fun z => (List.mem_append.mp z).elim (fun e => by rw [hB a e] at h; cases h) n.2⟩
/-- the iterator J walks s from (A, H) on -/
def ItOk (W : Wd) (A : Ad) (H : Hp) (J : It) (s : Src) : Prop := ∀ B A' H' cs', (∀ b ∈ B, H b = none) → Ext (A.adds B) H A' H' → Sta W A' H' cs' → s.same cs' →
  J.stop s.items.length H' ∧ ∀ i, i < s.items.length → J.go i H' ∧ ∀ x H'', J.yld i H' x H'' → Ext A' H' A' H'' ∧ Sta W A' H'' cs' ∧ ∃ d, s.items[i]? = some d ∧ Rep W A' H'' x d
def FinI (W : Wd) (WX : L2.WX) (A : Ad) (σ : L2.St) (H : Hp) (R : It → Hp → Prop) : Res Src → Prop
  | .ok s cs' => ∀ A' H' J, Ext A H A' H' → Sta W A' H' cs' → ItOk W A' H' J s → R J H'
  | .exc c fs cs' => ExcW W WX A σ H c fs cs'
  | .bad => False
def tI (W : Wd) (WX : L2.WX) (m : DH.Env → Cs → Res Src) : TI := fun σ H R => ∃ A env cs, REnv W A H σ env ∧ Sta W A H cs ∧ FinI W WX A σ H R (m env cs)
theorem ItOk.lst (hK : X.K = W.K) {a : Addr} {vs : List V} {ds : List D} (n : A.no a) (h : H a = some (.lst vs)) (r : RepL W A H vs ds) : ItOk W A H (Itl X.K a) ⟨none, ds⟩ := by
  intro B A' H' cs' hB e S _
  have hs : H' a = some (.lst vs) := e.keep a _ (no_adds n h hB).1 h
  have r' : RepL W A' H' vs ds := (r.busyB hB).mono e
  refine ⟨⟨vs, SqL.of hs, Nat.le_of_eq r'.length⟩, fun i hi => ?_⟩
  obtain ⟨v, hv, rv⟩ := r'.get (List.getElem?_eq_getElem hi)
  refine ⟨⟨vs, v, SqL.of hs, hv⟩, fun x H'' hy => ?_⟩
  obtain ⟨e1, e2⟩ := hy
  subst e1
  have := e2 vs (SqL.of hs)
  rw [hv] at this; cases this
  exact ⟨.refl, S, _, List.getElem?_eq_getElem hi, rv⟩
theorem ItOk.cell (hK : X.K = W.K) {a : Addr} {i : Nat} {ds : List D} (h : A.r[i]? = some a) : ItOk W A H (Itl X.K a) ⟨some i, ds⟩ := by
  intro B A' H' cs' hB e S sm
  have ha : A'.r[i]? = some a := e.ptr h
  obtain ⟨vs, hs, r'⟩ := S.cell i a _ ha (show cs'[i]? = some (.lst ds) from sm)
  refine ⟨⟨vs, SqL.of hs, Nat.le_of_eq r'.length⟩, fun i hi => ?_⟩
  obtain ⟨v, hv, rv⟩ := r'.get (List.getElem?_eq_getElem hi)
  refine ⟨⟨vs, v, SqL.of hs, hv⟩, fun x H'' hy => ?_⟩
  obtain ⟨e1, e2⟩ := hy
  subst e1
  have := e2 vs (SqL.of hs)
  rw [hv] at this; cases this
  exact ⟨.refl, S, _, List.getElem?_eq_getElem hi, rv⟩
theorem ItOk.frz (hK : X.K = W.K) {a : Addr} {ds : List D} (q : Rep W A H (.ref a) (.frz ds)) : ItOk W A H (Itl X.K a) ⟨none, ds⟩ := by
  intro B A' H' cs' hB e S _
  have q' : Rep W A' H' (.ref a) (.frz ds) := (q.busyB hB).mono e
  obtain ⟨a', vs, ea, s1, r'⟩ := q'.val
  cases ea
  rw [← hK] at s1
  refine ⟨⟨vs, s1, Nat.le_of_eq r'.length⟩, fun i hi => ?_⟩
  obtain ⟨v, hv, rv⟩ := r'.get (List.getElem?_eq_getElem hi)
  refine ⟨⟨vs, v, s1, hv⟩, fun x H'' hy => ?_⟩
  obtain ⟨e1, e2⟩ := hy
  subst e1
  have := e2 vs s1
  rw [hv] at this; cases this
  exact ⟨.refl, S, _, List.getElem?_eq_getElem hi, rv⟩
theorem ItOk.tup (hK : X.K = W.K) {a : Addr} {ds : List D} (q : Rep W A H (.ref a) (.tup ds)) : ItOk W A H (Itt X.K a) ⟨none, ds⟩ := by
  intro B A' H' cs' hB e S _
  have q' : Rep W A' H' (.ref a) (.tup ds) := (q.busyB hB).mono e
  obtain ⟨a', vs, ea, s1, r', _⟩ := q'.val
  cases ea
  rw [← hK] at s1
  refine ⟨⟨vs, s1, Nat.le_of_eq r'.length⟩, fun i hi => ?_⟩
  obtain ⟨v, hv, rv⟩ := r'.get (List.getElem?_eq_getElem hi)
  refine ⟨⟨vs, v, s1, hv⟩, fun x H'' hy => ?_⟩
  obtain ⟨e1, e2⟩ := hy
  subst e1
  have := e2 vs s1
  rw [hv] at this; cases this
  exact ⟨.refl, S, _, List.getElem?_eq_getElem hi, rv⟩
theorem ItOk.str (s : List Nat) : ItOk W A H (Its ⟨s.toArray⟩) ⟨none, s.map fun c => .str [c]⟩ := by
  intro B A' H' cs' hB e S _
  refine ⟨by show s.toArray.size ≤ _; simp, fun i hi => ?_⟩
  have hi' : i < s.length := by simpa using hi
  refine ⟨by show i < s.toArray.size; simpa using hi', fun x H'' hy => ?_⟩
  obtain ⟨e1, c, hc, ex⟩ := hy
  subst e1 ex
  have hc' : s[i]? = some c := by simpa using hc
  exact ⟨.refl, S, .str [c], by simp [hc'], .str [c] (by show 1 ≤ line; decide)⟩
theorem rng_len : ∀ (n : Nat) (lo : Int), (rngD lo n).length = n
  | 0, _ => rfl
  | n + 1, lo => by simp [rngD, rng_len n]
theorem rng_get : ∀ (n : Nat) (lo : Int) (i : Nat), i < n → (rngD lo n)[i]? = some (.int (lo + i))
  | 0, _, _, h => absurd h (Nat.not_lt_zero _)
  | n + 1, lo, 0, _ => by simp [rngD]
  | n + 1, lo, i + 1, h => by
    show (rngD (lo + 1) n)[i]? = _
    rw [rng_get n (lo + 1) i (by omega)]
    congr 2
    omega
theorem rng3_len : ∀ (n : Nat) (lo st : Int), (rng3D lo st n).length = n
  | 0, _, _ => rfl
  | n + 1, lo, st => by simp [rng3D, rng3_len n]
theorem rng3_get : ∀ (n : Nat) (lo st : Int) (i : Nat), i < n → (rng3D lo st n)[i]? = some (.int (lo + i * st))
  | 0, _, _, _, h => absurd h (Nat.not_lt_zero _)
  | n + 1, lo, st, 0, _ => by simp [rng3D]
  | n + 1, lo, st, i + 1, h => by
    show (rng3D (lo + st) st n)[i]? = _
    rw [rng3_get n (lo + st) st i (by omega)]
    congr 2
    rw [Int.natCast_succ, Int.add_mul]
    omega
theorem ItOk.rng (lo : Int) (n : Nat) : ItOk W A H (Itr lo n) ⟨none, rngD lo n⟩ := by
  intro B A' H' cs' hB e S _
  refine ⟨by show n ≤ _; rw [rng_len]; exact Nat.le_refl _, fun i hi => ?_⟩
  have hi' : i < n := by rw [rng_len] at hi; exact hi
  refine ⟨hi', fun x H'' hy => ?_⟩
  obtain ⟨e1, e2⟩ := hy
  subst e1 e2
  exact ⟨.refl, S, _, rng_get n lo i hi', .int _⟩
theorem ItOk.rng3 (lo st : Int) (n : Nat) : ItOk W A H (Itc lo st n) ⟨none, rng3D lo st n⟩ := by
  intro B A' H' cs' hB e S _
  refine ⟨by show n ≤ _; rw [rng3_len]; exact Nat.le_refl _, fun i hi => ?_⟩
  have hi' : i < n := by rw [rng3_len] at hi; exact hi
  refine ⟨hi', fun x H'' hy => ?_⟩
  obtain ⟨e1, e2⟩ := hy
  subst e1 e2
  exact ⟨.refl, S, _, rng3_get n lo st i hi', .int _⟩

theorem RepL.zip {vs ws : List V} {ds es : List D} : RepL W A H vs ds → RepL W A H ws es → ∀ i, i < (List.zipWith (fun a b => D.tup [a, b]) ds es).length → ∃ v w d e, vs[i]? = some v ∧ ws[i]? = some w ∧ Rep W A H v d ∧ Rep W A H w e ∧ (List.zipWith (fun a b => D.tup [a, b]) ds es)[i]? = some (.tup [d, e]) := by
  intro h1 h2 i hi
  rw [List.length_zipWith] at hi
  have q1 : ds[i]? = some ds[i] := List.getElem?_eq_getElem (by omega)
  have q2 : es[i]? = some es[i] := List.getElem?_eq_getElem (by omega)
  obtain ⟨v, hv, rv⟩ := h1.get q1
  obtain ⟨w, hw, rw_⟩ := h2.get q2
  exact ⟨v, w, _, _, hv, hw, rv, rw_, by rw [List.getElem?_zipWith, q1, q2]⟩
theorem pair_new {v w : V} {d e : D} {T : Addr} (S : Sta W A H cs) (h : H T = none) (r1 : Rep W A H v d) (r2 : Rep W A H w e) : Rep W A (upd H T (.tup [v, w])) (.ref T) (.tup [d, e]) :=
  .tup (S.free h) (.inl upd_same) (.cons (r1.mono (.new h)) (.cons (r2.mono (.new h)) .nil))
theorem ItOk.zipT (hK : X.K = W.K) {a b : Addr} {ds es : List D} (q1 : Rep W A H (.ref a) (.tup ds)) (q2 : Rep W A H (.ref b) (.tup es)) : ItOk W A H (RZ.ItzT X.K a b) ⟨none, List.zipWith (fun a b => .tup [a, b]) ds es⟩ := by
  intro B A' H' cs' hB e S _
  obtain ⟨a', vs, ea, s1, r1, _⟩ := ((q1.busyB hB).mono e).val
  obtain ⟨b', ws, eb, s2, r2, _⟩ := ((q2.busyB hB).mono e).val
  cases ea
  cases eb
  rw [← hK] at s1 s2
  have l1 := r1.length
  have l2 := r2.length
  refine ⟨⟨vs, ws, s1, s2, by simp only [List.length_zipWith]; omega⟩, fun i hi => ?_⟩
  obtain ⟨v, w, d, e', hv, hw, rv, rw_, hz⟩ := r1.zip r2 i hi
  refine ⟨⟨vs, ws, v, w, s1, s2, hv, hw⟩, fun x H'' hy => ?_⟩
  obtain ⟨T, v', w', ex, hT, eH, hx, hy⟩ := hy
  have := hx vs s1
  rw [hv] at this; cases this
  have := hy ws s2
  rw [hw] at this; cases this
  subst ex eH
  exact ⟨.new hT, S.new hT, _, hz, pair_new S hT rv rw_⟩
def IsLs : D → List D → Prop
  | .lst xs, ys => xs = ys
  | .frz xs, ys => xs = ys
  | _, _ => False
theorem rep_ls (hK : X.K = W.K) {v : V} {d : D} {xs : List D} (h : IsLs d xs) (r : Rep W A H v d) : ∃ a vs, v = .ref a ∧ SqL X.K H a vs ∧ RepL W A H vs xs := by
  cases d with
  | lst ys =>
    cases h
    obtain ⟨a, vs, ev, h2, r2⟩ := r.val
    exact ⟨a, vs, ev, SqL.of h2, r2⟩
  | frz ys =>
    cases h
    obtain ⟨a, vs, ev, h2, r2⟩ := r.val
    exact ⟨a, vs, ev, by rw [hK]; exact h2, r2⟩
  | _ => exact h.elim
theorem ItOk.zipL (hK : X.K = W.K) {a b : Addr} {d1 d2 : D} {ds es : List D} (i1 : IsLs d1 ds) (i2 : IsLs d2 es) (q1 : Rep W A H (.ref a) d1) (q2 : Rep W A H (.ref b) d2) : ItOk W A H (Itz X.K a b) ⟨none, List.zipWith (fun a b => .tup [a, b]) ds es⟩ := by
  intro B A' H' cs' hB e S _
  obtain ⟨a', vs, ea, s1, r1⟩ := rep_ls hK i1 ((q1.busyB hB).mono e)
  obtain ⟨b', ws, eb, s2, r2⟩ := rep_ls hK i2 ((q2.busyB hB).mono e)
  cases ea
  cases eb
  have l1 := r1.length
  have l2 := r2.length
  refine ⟨⟨vs, ws, s1, s2, by simp only [List.length_zipWith]; omega⟩, fun i hi => ?_⟩
  obtain ⟨v, w, d, e', hv, hw, rv, rw_, hz⟩ := r1.zip r2 i hi
  refine ⟨⟨vs, ws, v, w, s1, s2, hv, hw⟩, fun x H'' hy => ?_⟩
  obtain ⟨T, v', w', ex, hT, eH, hx, hy⟩ := hy
  have := hx vs s1
  rw [hv] at this; cases this
  have := hy ws s2
  rw [hw] at this; cases this
  subst ex eH
  exact ⟨.new hT, S.new hT, _, hz, pair_new S hT rv rw_⟩
/-- the walk over a value: its kind is known from the plain meaning -/
theorem pi_seq (hK : X.K = W.K) {x tg : Expr} {m : DH.Env → Cs → Res D} (he : PE X x (tG W WX (Rep W) m)) : PI X tg x (tI W WX fun env cs => (m env cs).bind fun d cs1 => optR (walkD cs1 d) cs1) := by
  refine ⟨fun pins s σ H R I h => ?_⟩
  obtain ⟨A, env, cs, hE, hS, hF⟩ := h
  have hF : FinI W WX A σ H R ((m env cs).bind fun d cs1 => optR (walkD cs1 d) cs1) := hF
  cases hm : m env cs with
  | bad => rw [hm] at hF; exact hF.elim
  | exc c fs cs1 =>
    rw [hm] at hF
    exact (pi_list he).run pins s σ H R I ⟨A, env, cs, hE, hS, by rw [hm]; exact hF⟩
  | ok d cs1 =>
    rw [hm] at hF
    have hF : FinI W WX A σ H R (optR (walkD cs1 d) cs1) := hF
    cases d with
    | ptr i =>
      cases hc : cs1[i]? with
      | none => rw [show walkD cs1 (.ptr i) = none by simp [walkD, hc]] at hF; exact hF.elim
      | some c =>
        cases c with
        | lst xs =>
          rw [show walkD cs1 (.ptr i) = some ⟨some i, xs⟩ by simp [walkD, hc]] at hF
          refine (pi_list he).run pins s σ H R I ⟨A, env, cs, hE, hS, ?_⟩
          rw [hm]
          intro A1 H1 v e1 s1 r1
          obtain ⟨a, vs, ev, e2, h2, r2⟩ := cell_lst s1 r1 hc
          exact ⟨a, ev, ⟨vs, SqL.of h2⟩, hF A1 H1 _ e1 s1 (.cell hK e2)⟩
        | dct xs => rw [show walkD cs1 (.ptr i) = none by simp [walkD, hc]] at hF; exact hF.elim
        | ins c xs => rw [show walkD cs1 (.ptr i) = none by simp [walkD, hc]] at hF; exact hF.elim
    | lst xs =>
      refine (pi_list he).run pins s σ H R I ⟨A, env, cs, hE, hS, ?_⟩
      rw [hm]
      intro A1 H1 v e1 s1 r1
      cases r1 with
      | lst n h r => exact ⟨_, rfl, ⟨_, SqL.of h⟩, hF A1 H1 _ e1 s1 (.lst hK n h r)⟩
    | frz xs =>
      refine (pi_list he).run pins s σ H R I ⟨A, env, cs, hE, hS, ?_⟩
      rw [hm]
      intro A1 H1 v e1 s1 r1
      obtain ⟨a, vs, ev, h2, r2⟩ := r1.val
      subst ev
      exact ⟨_, rfl, ⟨vs, by rw [hK]; exact h2⟩, hF A1 H1 _ e1 s1 (.frz hK r1)⟩
    | tup xs =>
      refine (pi_tup he).run pins s σ H R I ⟨A, env, cs, hE, hS, ?_⟩
      rw [hm]
      intro A1 H1 v e1 s1 r1
      obtain ⟨a, vs, ev, h2, r2, _⟩ := r1.val
      subst ev
      exact ⟨_, rfl, ⟨vs, by rw [hK]; exact h2⟩, hF A1 H1 _ e1 s1 (.tup hK r1)⟩
    | str xs =>
      refine (pi_str he).run pins s σ H R I ⟨A, env, cs, hE, hS, ?_⟩
      rw [hm]
      intro A1 H1 v e1 s1 r1
      obtain ⟨ev, _⟩ := r1.val
      subst ev
      exact ⟨_, rfl, hF A1 H1 _ e1 s1 (.str xs)⟩
    | _ => exact hF.elim
theorem PI_imp {tg e : Expr} {t t' : TI} (h : PI X tg e t) (f : ∀ σ H Q, t' σ H Q → t σ H Q) : PI X tg e t' := ⟨fun pins s σ H Q I q => h.run pins s σ H Q I (f σ H Q q)⟩
end
end DH
end
section
set_option Elab.async false
set_option linter.all false
set_option maxRecDepth 100000
set_option maxHeartbeats 2000000
/-! DH10: a comprehension, a display. -/
namespace DH
open PySem L2

section
variable {X : Cx} {W : Wd} {WX : L2.WX} {S : Sc} {k : Nat} {A A' A1 : Ad} {H H' H1 : Hp} {cs cs' cs1 : Cs} {p : Addr}
mutual
theorem Rep.agree (f : ∀ a o, A.no a → H a = some o → H' a = some o) : ∀ {v : V} {d : D}, Rep W A H v d → Rep W A H' v d
  | _, _, .non => .non
  | _, _, .bl b => .bl b
  | _, _, .int i => .int i
  | _, _, .str s h => .str s h
  | _, _, .tup n h r => .tup n (h.elim (fun h => .inl (f _ _ n h)) fun ⟨o, h⟩ => .inr ⟨o, f _ _ n h⟩) (RepL.agree f r)
  | _, _, .tupK h r => .tupK h (RepL.agree f r)
  | _, _, .lst n h r => .lst n (f _ _ n h) (RepL.agree f r)
  | _, _, .frz n h r => .frz n (h.elim (fun h => .inl (f _ _ n h)) fun ⟨o, h⟩ => .inr ⟨o, f _ _ n h⟩) (RepL.agree f r)
  | _, _, .frzK h r => .frzK h (RepL.agree f r)
  | _, _, .dct n h r => .dct n (f _ _ n h) (RepK.agree f r)
  | _, _, .ins n c h r => .ins n c (f _ _ n h) (RepF.agree f r)
  | _, _, .ptr h => .ptr h
theorem RepL.agree (f : ∀ a o, A.no a → H a = some o → H' a = some o) : ∀ {v : List V} {d : List D}, RepL W A H v d → RepL W A H' v d
  | _, _, .nil => .nil
  | _, _, .cons r t => .cons (Rep.agree f r) (RepL.agree f t)
theorem RepK.agree (f : ∀ a o, A.no a → H a = some o → H' a = some o) : ∀ {v : List (Key × V)} {d : List (D × D)}, RepK W A H v d → RepK W A H' v d
  | _, _, .nil => .nil
  | _, _, .cons k r t => .cons k (Rep.agree f r) (RepK.agree f t)
theorem RepF.agree (f : ∀ a o, A.no a → H a = some o → H' a = some o) : ∀ {v : List (Str × V)} {d : List (Nat × D)}, RepF W A H v d → RepF W A H' v d
  | _, _, .nil => .nil
  | _, _, .cons r t => .cons (Rep.agree f r) (RepF.agree f t)
end
theorem CellOk.agree (f : ∀ a o, A.no a → H a = some o → H' a = some o) {a : Addr} (h : H' a = H a) : ∀ {c : Cell}, CellOk W A H a c → CellOk W A H' a c
  | .lst _, ⟨vs, q, r⟩ => ⟨vs, h.trans q, r.agree f⟩
  | .dct _, ⟨vs, q, r⟩ => ⟨vs, h.trans q, r.agree f⟩
  | .ins _ _, ⟨C, dx, vs, c, q, r⟩ => ⟨C, dx, vs, c, h.trans q, r.agree f⟩
theorem agree_upd {o : HO} (hb : p ∈ A.b) : ∀ a u, A.no a → H a = some u → upd H p o a = some u := fun a u n h => by
  rw [upd_ne (fun z => n.2 (by rw [z]; exact hb))]; exact h
/-- what is being made changes -/
theorem Sta.making {o : HO} (S : Sta W A H cs) (hb : p ∈ A.b) : Sta W A (upd H p o) cs := by
  refine ⟨S.nd, S.len, fun i a c h1 h2 => ?_, fun a ha => ?_⟩
  · have hne : a ≠ p := fun z => (S.busy p hb).1 (by rw [← z]; exact List.mem_of_getElem? h1)
    exact (S.cell i a c h1 h2).agree (agree_upd hb) (upd_ne hne)
  · obtain ⟨n, u, q⟩ := S.busy a ha
    refine ⟨n, ?_⟩
    by_cases z : a = p
    · rw [z]; exact ⟨_, upd_same⟩
    · exact ⟨u, by rw [upd_ne z]; exact q⟩
theorem Ext.add (e : Ext A H A' H') : Ext (A.add p) H (A'.add p) H' := ⟨e.pre, by show p :: A'.b = p :: A.b; rw [e.bus], e.keep⟩
theorem Ext.none (e : Ext A H A' H') (S : Sta W A' H' cs) (h : H' p = .none) : H p = .none := by
  cases q : H p with
  | none => rfl
  | some o =>
    by_cases hp : p ∈ A.r
    · obtain ⟨nu, e1, _⟩ := e.pre
      exact absurd (by rw [e1]; exact List.mem_append_left _ hp) (S.free h).1
    · rw [e.keep p o hp q] at h; cases h
/-- a store into a target: the slots that change are among the own ones -/
def TgOk (W : Wd) (tg : Tg) (own : List Nat) (g : TG) : Prop := ∀ A H x d σ env env' Q, REnv W A H σ env → Rep W A H x d → asgD tg d env = some env' → (∀ σ', REnv W A H σ' env' → L2.wipe σ' own = L2.wipe σ own → Q σ' H) → g x σ H Q
theorem wipe_set {σ : L2.St} {i : Nat} {v : Option V} : ∀ {vs : List Nat}, i ∈ vs → L2.wipe (σ.set i v) vs = L2.wipe σ vs
  | [], h => by cases h
  | w :: vs, h => by
    show (L2.wipe (σ.set i v) vs).set w none = (L2.wipe σ vs).set w none
    by_cases hv : i ∈ vs
    · rw [wipe_set hv]
    · have hw : i = w := (List.mem_cons.mp h).elim id fun z => absurd z hv
      subst hw
      have : ∀ (us : List Nat), i ∉ us → L2.wipe (σ.set i v) us = (L2.wipe σ us).set i v := by
        intro us
        induction us with
        | nil => intro _; rfl
        | cons u us ih =>
          intro hu
          show (L2.wipe (σ.set i v) us).set u none = ((L2.wipe σ us).set u none).set i v
          rw [ih fun z => hu (List.mem_cons_of_mem _ z), List.set_comm]
          exact fun z => hu (by rw [z]; exact List.mem_cons_self)
      rw [this vs hv, List.set_set]
theorem wipe_wipe {σ : L2.St} (vs : List Nat) : L2.wipe (L2.wipe σ vs) vs = L2.wipe σ vs := by
  have : ∀ us : List Nat, (∀ u ∈ us, u ∈ vs) → L2.wipe (L2.wipe σ us) vs = L2.wipe σ vs := by
    intro us
    induction us with
    | nil => intro _; rfl
    | cons u us ih =>
      intro h
      show L2.wipe ((L2.wipe σ us).set u none) vs = _
      rw [wipe_set (h u List.mem_cons_self)]
      exact ih fun z hz => h z (List.mem_cons_of_mem _ hz)
  exact this vs fun _ h => h

abbrev WX0 : L2.WX := fun _ _ _ _ => False
/-- one turn's meaning -/
noncomputable def turnD (F : Ctx) (tg : Tg) (own : List Nat) (c : IO) (elt : IE) (env : DH.Env) (d : D) (cs2 : Cs) : Res (Option D) := match asgD tg d (wipeD env own) with
  | some env' => ((evC F c env' cs2).bind fun k cs3 => if k = true then (evE F elt env' cs3).bind fun y cs4 => .ok (some y) cs4 else .ok none cs3).noX
  | none => .bad
theorem comp_core {F : Ctx} {tg : Tg} {own : List Nat} {it : IT} {c : IO} {elt : IE} {g : TG} (hg : TgOk W tg own g) {σ : L2.St} {Q : VK}
    (h : tL W WX (evL F (.comp own tg it c elt)) σ H Q) :
    tLc (tI W WX (evT F it)) g (tG W WX0 EqB (evC F c)) (tG W WX0 (Rep W) (evE F elt)) own σ H Q := by
  obtain ⟨A, env, cs, hE, hS, hF⟩ := h
  refine ⟨A, env, cs, hE, hS, ?_⟩
  simp only [evL] at hF
  cases hm : evT F it env cs with
  | bad => rw [hm] at hF; exact hF.elim
  | exc c' fs cs1 => rw [hm] at hF; exact hF
  | ok s cs1 =>
    rw [hm] at hF
    intro A1 H1 J e1 s1 it1 Dp hDp
    have hD0 : H Dp = none := e1.none s1 hDp
    have hF1 : s.items.length ≤ line ∧ FinF W WX A σ H Q Dp (compD s.same (turnD F tg own c elt env) s.items cs1) := by
      by_cases hl : s.items.length ≤ line
      · refine ⟨hl, ?_⟩
        have hF' : FinL W WX A σ H Q (compD s.same (turnD F tg own c elt env) s.items cs1) := by
          have q := hF
          simp only [bind_ok] at q
          rw [if_pos hl] at q
          exact q
        revert hF'
        cases compD s.same (turnD F tg own c elt env) s.items cs1 with
        | ok ds cs' => exact fun q => q Dp hD0
        | exc c fs cs' => exact fun q => q
        | bad => exact fun q => q
      · have q := hF
        simp only [bind_ok] at q
        rw [if_neg hl] at q
        exact q.elim
    obtain ⟨hl, hF2⟩ := hF1
    have hline := line_eq
    have eA : Ext (A.add Dp) H (A1.add Dp) H1 := e1.add
    refine ⟨fun i m H' => m = s.items.length - i ∧ i ≤ s.items.length ∧ ∃ A' cs' acc done, Ext (A1.add Dp) H1 A' H' ∧ Sta W A' H' cs' ∧ H' Dp = some (.lst acc) ∧ RepL W A' H' acc done ∧ acc.length ≤ i ∧
      FinF W WX A σ H Q Dp ((compD s.same (turnD F tg own c elt env) (s.items.drop i) cs').bind fun r cs2 => .ok (done ++ r) cs2),
      ⟨s.items.length, by simp, Nat.zero_le _, A1.add Dp, cs1, [], [], .new hDp, s1.busied hDp, upd_same, .nil, Nat.zero_le _, ?_⟩, ?_⟩
    · rw [List.drop_zero]
      revert hF2
      cases compD s.same (turnD F tg own c elt env) s.items cs1 with
      | ok ds cs' => exact fun q => q
      | exc c fs cs' => exact fun q => q
      | bad => exact fun q => q
    · rintro i m H' ⟨rfl, hi, A', cs', acc, done, e2, s2, hacc, racc, lacc, hf⟩
      have hbA : Dp ∈ A'.b := by rw [e2.bus]; exact List.mem_cons_self
      have hsame : s.same cs' := by
        refine Classical.byContradiction fun hn => ?_
        cases hd : s.items.drop i with
        | nil => rw [hd] at hf; simp only [compD, if_neg hn] at hf; exact hf
        | cons d ds => rw [hd] at hf; simp only [compD, if_neg hn] at hf; exact hf
      obtain ⟨jst, jgo⟩ := it1 [Dp] A' H' cs' (fun b hb => by rw [List.mem_singleton.mp hb]; exact hDp) e2 s2 hsame
      rcases Nat.lt_or_eq_of_le hi with hlt | heq
      · right
        obtain ⟨jg, jy⟩ := jgo i hlt
        refine ⟨jg, _, fun H'' q => ⟨s.items.length - (i + 1), by omega, q⟩, fun x H'' hy => ?_⟩
        obtain ⟨e3, s3, d, hd, rd⟩ := jy x H'' hy
        have hdrop : s.items.drop i = d :: s.items.drop (i + 1) := by
          have := List.getElem?_eq_some_iff.mp hd
          obtain ⟨h1, h2⟩ := this
          rw [List.drop_eq_getElem_cons h1, h2]
        rw [hdrop] at hf
        simp only [compD, if_pos hsame] at hf
        have e4 : Ext (A1.add Dp) H1 A' H'' := e2.trans e3
        have e5 : Ext (A.add Dp) H A' H'' := eA.trans e4
        have hE' : REnv W A' H'' (L2.wipe σ own) (wipeD env own) := ((hE.busy hD0).mono e5).wipe own
        have hacc3 : H'' Dp = some (.lst acc) := e3.keep _ _ (s2.busy Dp hbA).1 hacc
        cases ha : asgD tg d (wipeD env own) with
        | none =>
          have : turnD F tg own c elt env d cs' = .bad := by unfold turnD; rw [ha]
          rw [this] at hf
          exact hf.elim
        | some env' =>
          have ht : turnD F tg own c elt env d cs' = ((evC F c env' cs').bind fun k cs3 => if k = true then (evE F elt env' cs3).bind fun y cs4 => .ok (some y) cs4 else .ok none cs3).noX := by unfold turnD; rw [ha]
          rw [ht] at hf
          refine hg A' H'' x d _ _ env' _ hE' rd ha fun σ2 hE2 hw => ⟨hw.trans (wipe_wipe own), A', env', cs', hE2, s3, ?_⟩
          cases hc : evC F c env' cs' with
          | bad => rw [hc] at hf; exact hf.elim
          | exc c' fs cs3 => rw [hc] at hf; exact hf.elim
          | ok kk cs3 =>
            rw [hc] at hf
            intro A3 H3 b e6 s6 hb
            have hb : b = kk := hb
            subst hb
            have hbA3 : Dp ∈ A3.b := by rw [e6.bus]; exact hbA
            have hacc4 : H3 Dp = some (.lst acc) := e6.keep _ _ (s3.busy Dp hbA).1 hacc3
            have racc4 : RepL W A3 H3 acc done := (racc.mono e3).mono e6
            cases b with
            | false =>
              rw [if_neg Bool.false_ne_true]
              refine ⟨rfl, hlt, A3, cs3, acc, done, e4.trans e6, s6, hacc4, racc4, Nat.le_succ_of_le lacc, ?_⟩
              have q : FinF W WX A σ H Q Dp (((compD s.same (turnD F tg own c elt env) (s.items.drop (i + 1)) cs3).bind fun r cs2 => .ok r cs2).bind fun r cs2 => .ok (done ++ r) cs2) := hf
              revert q
              cases compD s.same (turnD F tg own c elt env) (s.items.drop (i + 1)) cs3 with
              | ok ds cs' => exact fun q => q
              | exc c fs cs' => exact fun q => q
              | bad => exact fun q => q
            | true =>
              rw [if_pos rfl]
              refine ⟨A3, env', cs3, hE2.mono e6, s6, ?_⟩
              cases he : evE F elt env' cs3 with
              | bad => simp [he] at hf; exact hf.elim
              | exc c' fs cs4 => simp [he] at hf; exact hf.elim
              | ok y cs4 =>
                simp only [bind_ok, if_true, he, noX_ok] at hf
                intro A4 H4 v e7 s7 r7
                have hbA4 : Dp ∈ A4.b := by rw [e7.bus]; exact hbA3
                refine ⟨acc, e7.keep _ _ (s6.busy Dp hbA3).1 hacc4, by omega, rfl, hlt, A4, cs4, acc ++ [v], done ++ [y], ?_, s7.making hbA4, upd_same, ?_, by simp; omega, ?_⟩
                · have e8 : Ext (A1.add Dp) H1 A4 H4 := (e4.trans e6).trans e7
                  exact ⟨e8.pre, e8.bus, fun a o ha q => by rw [upd_ne (ne_of_none q hDp)]; exact e8.keep a o ha q⟩
                · exact ((racc4.mono e7).append (.cons r7 .nil)).agree (agree_upd hbA4)
                · have q : FinF W WX A σ H Q Dp (((compD s.same (turnD F tg own c elt env) (s.items.drop (i + 1)) cs4).bind fun r cs2 => .ok (y :: r) cs2).bind fun r cs2 => .ok (done ++ r) cs2) := hf
                  revert q
                  cases compD s.same (turnD F tg own c elt env) (s.items.drop (i + 1)) cs4 with
                  | ok ds cs' => simp only [bind_ok, List.append_assoc, List.singleton_append]; exact fun q => q
                  | exc c fs cs' => exact fun q => q
                  | bad => exact fun q => q
      · left
        subst heq
        rw [List.drop_length] at hf
        simp only [compD, if_pos hsame, bind_ok, List.append_nil] at hf
        exact ⟨jst, hf A' H' acc (eA.trans e2) s2 racc hacc⟩
end
end DH
end
section
set_option Elab.async false
set_option linter.all false
set_option maxRecDepth 100000
set_option maxHeartbeats 4000000
/-! DH11: the soundness of expressions. -/
namespace DH
open PySem L2

noncomputable abbrev Fc (S : Sc) (k : Nat) : Ctx := ctxD S.G (callD S.G k)
/-- what is shown of an expression -/
def SE (k : Nat) (W : Wd) (e : IE) : Prop := ∀ (S : Sc) (WX : L2.WX) (X : Cx), XOk S k W WX X → ∀ x, chkE S e x = true →
  PE X x (tG W WX (Rep W) (evE (Fc S k) e)) ∧ PT X x (tG W WX EqB fun env cs => tstR (evE (Fc S k) e env cs)) ∧
  ∀ op vs pos, x = .BoolOp op vs pos → PW X x (tG W WX EqB fun env cs => tstR (evE (Fc S k) e env cs))
def SEs (k : Nat) (W : Wd) (es : IEs) : Prop := ∀ (S : Sc) (WX : L2.WX) (X : Cx), XOk S k W WX X → ∀ xs, chkEs S es xs = true → PA X xs (tG W WX (RepL W) (evEs (Fc S k) es)) ∧ xs.all plainX = true
def SO (k : Nat) (W : Wd) (o : IO) : Prop := ∀ (S : Sc) (WX : L2.WX) (X : Cx), XOk S k W WX X → ∀ x, chkO S o x = true → PO X x (tG W WX (fun _ _ b a => b = a) (evO (Fc S k) o))
def SC (k : Nat) (W : Wd) (o : IO) : Prop := ∀ (S : Sc) (WX : L2.WX) (X : Cx), XOk S k W WX X → ∀ xs, chkC S o xs = true → PTs X xs (tG W WX EqB (evC (Fc S k) o))
/-- .. of what makes a list: as a value, and stored in a local name -/
def SL (k : Nat) (W : Wd) (l : IL) : Prop := ∀ (S : Sc) (WX : L2.WX) (X : Cx), XOk S k W WX X → ∀ x, chkL S l x = true →
  PE X x (tL W WX (evL (Fc S k) l)) ∧ plainT x = true ∧ (∀ op vs pos, x ≠ .BoolOp op vs pos) ∧
  ∀ (i : Nat) (y : Str) (py spos : Pos), X.N[i]? = some y → X.env.scope.names.lookup y = some .local → swapsWith x (some (.Name y py)) spos.line X.env = pure true →
    PS X (.Assign [.Name y py] x spos) (tAsg (tL W WX (evL (Fc S k) l)) (gName i))
def ST (k : Nat) (W : Wd) (it : IT) : Prop := ∀ (S : Sc) (WX : L2.WX) (X : Cx), XOk S k W WX X → ∀ x, chkT S it x = true → plainX x = true → ∀ tg, tgFor it tg = true → PI X tg x (tI W WX (evT (Fc S k) it))

section
variable {X : Cx} {W : Wd} {WX : L2.WX} {S : Sc} {k : Nat} {A A' A1 : Ad} {H H' H1 : Hp} {cs cs' cs1 : Cs} {p : Addr}
theorem XOk.hK (o : XOk S k W WX X) : X.K = W.K := o.g.hK
theorem XOk.un (o : XOk S k W WX X) : X.A.units + 64 < cLine := o.room.units
theorem XOk.none (o : XOk S k W WX X) {x : Str} (h : x ∈ bltNames) : X.mg x = .none := o.g.blt x h
/-- the rest of what is shown where the expression is no test of its own kind -/
theorem se_of (o : XOk S k W WX X) {x : Expr} {e : IE} (he : PE X x (tG W WX (Rep W) (evE (Fc S k) e))) (hp : plainT x = true) (hb : ∀ op vs pos, x ≠ .BoolOp op vs pos) :
    PE X x (tG W WX (Rep W) (evE (Fc S k) e)) ∧ PT X x (tG W WX EqB fun env cs => tstR (evE (Fc S k) e env cs)) ∧
      ∀ op vs pos, x = .BoolOp op vs pos → PW X x (tG W WX EqB fun env cs => tstR (evE (Fc S k) e env cs)) :=
  ⟨he, pt_of o.hK he hp, fun op vs pos e => absurd e (hb op vs pos)⟩
/-- the context within a comprehension -/
theorem XOk.blk (o : XOk S k W WX X) (scope : Scope) (s : Shared) (H : Hp) (C : Addr) (cl : List (Str × Addr)) (fp : List Addr) : XOk (S.inner scope) k W WX0 (X.blk s H scope (compEnvC scope cl C X.env) fp) where
  calm := o.calm
  hN := o.hN
  nd := o.nd
  hsc := by
    show relabel scope X.env = relS scope S.sc
    rw [← o.hsc]; rfl
  fb := fun x h => h
  room := o.room
  tk := takes0
  po := PassesOwn.never
  g := o.g
theorem tg_name (o : XOk S k W WX X) {i : Nat} {n : Str} {pos : Pos} (h1 : S.N[i]? = some n) (h2 : stoB S n = true) : PG X (.Name n pos) (gName i) := by
  obtain ⟨q1, q2⟩ := sto_of o h2
  exact pg_name o.nd (by rw [o.hN]; exact h1) q1 q2
def gOf (K : PySem.W.Frag) : Tg → TG
  | .var i => gName i
  | .tup is => gTup K is.length (is.foldr (fun i t => gCons (gName i) t) gNil)
theorem tgs_ok (o : XOk S k W WX X) : ∀ {is : List Nat} {es : List Expr}, tgB.tgsB S is es = true → PGs X es (is.foldr (fun i t => gCons (gName i) t) gNil) ∧ es.length = is.length ∧ (assignEach es X.env).length = is.length ∧ (assignEach es X.env).findIdx? (·.1) = .none
  | [], [], _ => ⟨pgs_nil, rfl, rfl, rfl⟩
  | i :: is, .Name n p :: es, h => by
    unfold tgB.tgsB at h
    simp only [Bool.and_eq_true, decide_eq_true_eq] at h
    obtain ⟨⟨h1, h2⟩, h3⟩ := h
    obtain ⟨q1, q2, q3, q4⟩ := tgs_ok o h3
    refine ⟨pgs_cons (tg_name o h1 h2) q1, by simp [q2], ?_, ?_⟩
    · show ((false, assign (.Name n p) X.env) :: assignEach es X.env).length = _
      simp [q3]
    · show ((false, assign (.Name n p) X.env) :: assignEach es X.env).findIdx? (·.1) = .none
      rw [List.findIdx?_cons]
      simp [q4]
  | [], _ :: _, h => by simp [tgB.tgsB] at h
  | _ :: _, [], h => by simp [tgB.tgsB] at h
theorem tg_ok (o : XOk S k W WX X) {tg : Tg} {x : Expr} (h : tgB S tg x = true) : PG X x (gOf X.K tg) := by
  cases tg with
  | var i =>
    cases x with
    | Name n p =>
      simp only [tgB, Bool.and_eq_true, decide_eq_true_eq] at h
      exact tg_name o h.1 h.2
    | _ => simp [tgB] at h
  | tup is =>
    cases x with
    | Tuple es kk p =>
      have h : tgB.tgsB S is es = true := h
      obtain ⟨q1, q2, q3, q4⟩ := tgs_ok o h
      exact pg_tup o.calm q1 q3 q4
    | _ => simp [tgB] at h
theorem asgs_ok (own : List Nat) : ∀ {is : List Nat} {ds : List D} {vs : List V} {σ : L2.St} {env env' : DH.Env} {Q : L2.St → Hp → Prop}, REnv W A H σ env → RepL W A H vs ds → asgs is ds env = some env' → (∀ i ∈ is, i ∈ own) →
    (∀ σ', REnv W A H σ' env' → L2.wipe σ' own = L2.wipe σ own → Q σ' H) → (is.foldr (fun i t => gCons (gName i) t) gNil) vs σ H Q
  | [], [], _, σ, env, env', Q, r, .nil, h, _, q => by
    have e : env = env' := by simpa [asgs] using h
    subst e
    exact ⟨rfl, q σ r rfl⟩
  | i :: is, d :: ds, _, σ, env, env', Q, r, @RepL.cons _ _ _ v vs _ _ r1 t, h, ho, q => by
    unfold asgs at h
    split at h
    · refine ⟨v, vs, rfl, ?_⟩
      exact asgs_ok own (r.set i r1) t h (fun j hj => ho j (List.mem_cons_of_mem _ hj)) fun σ' r' hw => q σ' r' (hw.trans (wipe_set (ho i List.mem_cons_self)))
    · cases h
  | [], _ :: _, _, _, _, _, _, _, _, h, _, _ => by simp [asgs] at h
  | _ :: _, [], _, _, _, _, _, _, _, h, _, _ => by simp [asgs] at h
theorem tgOk_of (hK : X.K = W.K) {tg : Tg} {own : List Nat} (h : ownTg own tg = true) : TgOk W tg own (gOf X.K tg) := by
  intro A H x d σ env env' Q hE r ha q
  cases tg with
  | var i =>
    have hi : i ∈ own := by simpa [ownTg] using h
    unfold asgD at ha
    simp only at ha
    split at ha
    · cases ha
      exact q _ (hE.set i r) (wipe_set hi)
    · cases ha
  | tup is =>
    have hi : ∀ i ∈ is, i ∈ own := by simpa [ownTg] using h
    unfold asgD at ha
    simp only at ha
    split at ha
    · rename_i xs
      obtain ⟨a, vs, ev, s1, r1, _⟩ := r.val
      have hlen : ∀ {is : List Nat} {ds : List D} {env env' : DH.Env}, asgs is ds env = some env' → is.length = ds.length := by
        intro is
        induction is with
        | nil => intro ds env env' h; cases ds <;> simp [asgs] at h ⊢
        | cons i is ih =>
          intro ds env env' h
          cases ds with
          | nil => simp [asgs] at h
          | cons d ds =>
            unfold asgs at h
            split at h
            · simp [ih h]
            · cases h
      exact ⟨a, vs, ev, by rw [hK]; exact s1, by rw [r1.length, hlen ha], asgs_ok own hE r1 ha hi q⟩
    · cases ha

/-- a display's new list -/
theorem disp_core {m : DH.Env → Cs → Res (List D)} {ta : TA} (h1 : ∀ σ H Q, tG W WX (RepL W) m σ H Q → ta σ H Q) {σ : L2.St} {Q : VK} (h : tL W WX (fun env cs => (m env cs).bind fun ds cs1 => if ds.length ≤ 1000 then .ok ds cs1 else .bad) σ H Q) : tLst ta σ H Q := by
  obtain ⟨A, env, cs, hE, hS, hF⟩ := h
  refine h1 σ H _ ⟨A, env, cs, hE, hS, ?_⟩
  have hF : FinL W WX A σ H Q ((m env cs).bind fun ds cs1 => if ds.length ≤ 1000 then .ok ds cs1 else .bad) := hF
  cases hm : m env cs with
  | bad => rw [hm] at hF; exact hF.elim
  | exc c fs cs1 => rw [hm] at hF; exact hF
  | ok ds cs1 =>
    rw [hm] at hF
    simp only [bind_ok] at hF
    intro A1 H1 vs e1 s1 r1
    by_cases hl : ds.length ≤ 1000
    · rw [if_pos hl] at hF
      refine ⟨by rw [r1.length, sizeLine_eq]; omega, fun p hp => ?_⟩
      have h0 : H p = .none := e1.none s1 hp
      exact hF p h0 (A1.add p) _ vs (e1.add.trans (.new hp)) (s1.busied hp) ((r1.busy hp).mono (.new hp)) upd_same
    · rw [if_neg hl] at hF; exact hF.elim
/-- a new list as a value -/
theorem new_val {mu : Bool} {m : DH.Env → Cs → Res (List D)} {σ : L2.St} {Q : VK} (h : tG W WX (Rep W) (fun env cs => (m env cs).bind fun ds cs1 => if mu = true then .ok (.ptr cs1.length) (cs1 ++ [.lst ds]) else .ok (.lst ds) cs1) σ H Q) : tL W WX m σ H Q := by
  obtain ⟨A, env, cs, hE, hS, hF⟩ := h
  refine ⟨A, env, cs, hE, hS, ?_⟩
  have hF : FinG W WX (Rep W) A σ H Q ((m env cs).bind fun ds cs1 => if mu = true then .ok (.ptr cs1.length) (cs1 ++ [.lst ds]) else .ok (.lst ds) cs1) := hF
  cases hm : m env cs with
  | bad => rw [hm] at hF; exact hF.elim
  | exc c fs cs1 => rw [hm] at hF; exact hF
  | ok ds cs1 =>
    rw [hm] at hF
    simp only [bind_ok] at hF
    intro p hp A' H' vs e s r hv
    have hb : p ∉ A.b := fun z => by
      obtain ⟨_, u, q⟩ := hS.busy p z
      rw [hp] at q; cases q
    have hpr : p ∉ A.r := (hS.free hp).1
    have hA' : A' = (⟨A'.r, A.b⟩ : Ad).add p := by
      have := e.bus
      cases A'
      simp only [Ad.add] at this ⊢
      rw [this]
    have hpr' : p ∉ A'.r := (s.busy p (by rw [e.bus]; exact List.mem_cons_self)).1
    rw [hA'] at s r
    obtain ⟨nu, e1, n1⟩ := e.pre
    cases mu with
    | false =>
      rw [if_neg Bool.false_ne_true] at hF
      have e0 : Ext A H ⟨A'.r, A.b⟩ H' := ⟨⟨nu, e1, n1⟩, rfl, e.keep⟩
      exact hF _ _ _ e0 s.unbusy (.lst ⟨hpr', hb⟩ hv (r.shift shift_un))
    | true =>
      rw [if_pos rfl] at hF
      have e0 : Ext A H ((⟨A'.r, A.b⟩ : Ad).push p) H' := ⟨⟨nu ++ [p], by show A'.r ++ [p] = _; rw [e1]; exact List.append_assoc _ _ _, fun q hq => by
        rcases List.mem_append.mp hq with z | z
        · exact n1 q z
        · rw [List.mem_singleton.mp z]; exact ⟨hpr, hp⟩⟩, rfl, e.keep⟩
      refine hF _ _ _ e0 (s.toCell hb ⟨vs, hv, r⟩) (.ptr ?_)
      show (A'.r ++ [p])[cs1.length]? = some p
      have len : A'.r.length = cs1.length := s.len
      rw [← len, List.getElem?_append_right (Nat.le_refl _)]
      simp
end
end DH
end
section
set_option Elab.async false
set_option linter.all false
set_option maxRecDepth 100000
set_option maxHeartbeats 4000000
/-! DH12: the soundness of expressions, the cases. -/
namespace DH
open PySem L2

section
variable {X : Cx} {W : Wd} {WX : L2.WX} {S : Sc} {k : Nat} {A A' A1 : Ad} {H H' H1 : Hp} {cs cs' cs1 : Cs} {p : Addr}
/-- two parts in a row -/
theorem tG_op {ma mb : DH.Env → Cs → Res D} {f : D → D → Option D} {g : Cs → D → D} {r : R2} {σ : L2.St} {Q : VK}
    (h : tG W WX (Rep W) (fun env cs => (ma env cs).bind fun x cs1 => (mb env cs1).bind fun y cs2 => optR (f (view cs2 x) (g cs2 y)) cs2) σ H Q) (hg : ∀ A H cs v d, Sta W A H cs → Rep W A H v d → RepV W A H v (g cs d)) (hr : ∀ x y H Q, dOp W f x y H Q → r x y H Q) :
    tOp r (tG W WX (Rep W) ma) (tG W WX (Rep W) mb) σ H Q := by
  obtain ⟨A, env, cs, hE, hS, hF⟩ := h
  refine ⟨A, env, cs, hE, hS, FinG.bind (R2 := Rep W) (Q := Q) hF fun d cs1 _ A1 H1 x e1 s1 r1 f1 => ⟨A1, env, cs1, hE.mono e1, s1, FinG.bind (R2 := Rep W) (Q := Q) f1 fun d2 cs2 _ A2 H2 y e2 s2 r2 f2 => ?_⟩⟩
  obtain ⟨z, hz, q⟩ := f2.opt
  exact hr _ _ _ _ ⟨A2, cs2, _, _, z, s2, (r1.mono e2).view s2, hg _ _ _ _ _ s2 r2, hz, q⟩
theorem tG_cmp {ma mb : DH.Env → Cs → Res D} {f : D → D → Option Bool} {σ : L2.St} {Q : VK}
    (h : tG W WX (Rep W) (fun env cs => (ma env cs).bind fun x cs1 => (mb env cs1).bind fun y cs2 => (optR (f (view cs2 x) (view cs2 y)) cs2).bind fun k cs3 => .ok (.bl k) cs3) σ H Q) :
    tOp (dCmp W f) (tG W WX (Rep W) ma) (tG W WX (Rep W) mb) σ H Q := by
  obtain ⟨A, env, cs, hE, hS, hF⟩ := h
  refine ⟨A, env, cs, hE, hS, FinG.bind (R2 := Rep W) (Q := Q) hF fun d cs1 _ A1 H1 x e1 s1 r1 f1 => ⟨A1, env, cs1, hE.mono e1, s1, FinG.bind (R2 := Rep W) (Q := Q) f1 fun d2 cs2 _ A2 H2 y e2 s2 r2 f2 => ?_⟩⟩
  obtain ⟨b, hb, f3⟩ := f2.opt2
  exact ⟨A2, cs2, _, _, b, s2, (r1.mono e2).view s2, r2.view s2, hb, f3 A2 H2 _ .refl s2 (.bl b)⟩
theorem bind_eq_ok {α β : Type} {r : Res α} {f : α → Cs → Res β} {b : β} {c : Cs} (h : r.bind f = .ok b c) : ∃ a c', r = .ok a c' ∧ f a c' = .ok b c := by
  cases r with
  | ok a c' => exact ⟨a, c', rfl, h⟩
  | exc _ _ _ => cases h
  | bad => cases h
theorem optR_eq_ok {α : Type} {r : Option α} {cs c : Cs} {b : α} (h : optR r cs = .ok b c) : r = some b ∧ c = cs := by
  cases r with
  | none => cases h
  | some a => cases h; exact ⟨rfl, rfl⟩
theorem cmp_bl {F : Ctx} {op : Cop} {a b : IE} (env : DH.Env) (cs : Cs) (d : D) (cs' : Cs) (h : evE F (.cmp op a b) env cs = .ok d cs') : ∃ k, d = .bl k := by
  simp only [evE] at h
  obtain ⟨x, c1, _, h⟩ := bind_eq_ok h
  obtain ⟨y, c2, _, h⟩ := bind_eq_ok h
  obtain ⟨k, c3, _, h⟩ := bind_eq_ok h
  cases h
  exact ⟨_, rfl⟩
theorem chn_bl {F : Ctx} {o1 o2 : Cop} {a b c : IE} (env : DH.Env) (cs : Cs) (d : D) (cs' : Cs) (h : evE F (.chn o1 o2 a b c) env cs = .ok d cs') : ∃ k, d = .bl k := by
  simp only [evE] at h
  obtain ⟨x, c1, _, h⟩ := bind_eq_ok h
  obtain ⟨y, c2, _, h⟩ := bind_eq_ok h
  obtain ⟨k, c3, _, h⟩ := bind_eq_ok h
  split at h
  · obtain ⟨z, c4, _, h⟩ := bind_eq_ok h
    obtain ⟨k2, c5, _, h⟩ := bind_eq_ok h
    cases h
    exact ⟨_, rfl⟩
  · cases h
    exact ⟨_, rfl⟩
theorem tG_chn {ma mb mc : DH.Env → Cs → Res D} {f f' : D → D → Option Bool} {σ : L2.St} {Q : VK}
    (h : tG W WX (Rep W) (fun env cs => (ma env cs).bind fun x cs1 => (mb env cs1).bind fun y cs2 => (optR (f (view cs2 x) (view cs2 y)) cs2).bind fun k cs3 =>
      if k = true then (mc env cs3).bind fun z cs4 => (optR (f' (view cs4 y) (view cs4 z)) cs4).bind fun k2 cs5 => .ok (.bl k2) cs5 else .ok (.bl false) cs3) σ H Q) :
    tChain (dCmp W f) (dCmp W f') (tG W WX (Rep W) ma) (tG W WX (Rep W) mb) (tG W WX (Rep W) mc) σ H Q := by
  obtain ⟨A, env, cs, hE, hS, hF⟩ := h
  refine ⟨A, env, cs, hE, hS, FinG.bind (R2 := Rep W) (Q := Q) hF fun d cs1 _ A1 H1 x e1 s1 r1 f1 => ⟨A1, env, cs1, hE.mono e1, s1, FinG.bind (R2 := Rep W) (Q := Q) f1 fun d2 cs2 _ A2 H2 y e2 s2 r2 f2 => ?_⟩⟩
  obtain ⟨b, hb, f3⟩ := f2.opt2
  refine ⟨A2, cs2, _, _, b, s2, (r1.mono e2).view s2, r2.view s2, hb, b, rfl, ?_⟩
  cases b with
  | false =>
    rw [if_neg Bool.false_ne_true] at f3 ⊢
    exact f3 A2 H2 _ .refl s2 (.bl false)
  | true =>
    rw [if_pos rfl] at f3 ⊢
    refine ⟨A2, env, cs2, (hE.mono e1).mono e2, s2, FinG.bind (R2 := Rep W) (Q := Q) f3 fun d3 cs3 _ A3 H3 z e3 s3 r3 f4 => ?_⟩
    obtain ⟨b2, hb2, f5⟩ := f4.opt2
    exact ⟨A3, cs3, _, _, b2, s3, (r2.mono e3).view s3, r3.view s3, hb2, f5 A3 H3 _ .refl s3 (.bl b2)⟩
theorem tstR_eq {r : Res D} (h : ∀ d cs, r = .ok d cs → ∃ k, d = .bl k) : tstR r = r.bind fun d cs => match d with
    | .bl k => .ok k cs
    | _ => .bad := by
  cases r with
  | bad => rfl
  | exc _ _ _ => rfl
  | ok d cs => obtain ⟨k, rfl⟩ := h d cs rfl; rfl
/-- a value that is a bool, tested -/
theorem tG_tst {m : DH.Env → Cs → Res D} (hb : ∀ env cs d cs', m env cs = .ok d cs' → ∃ k, d = .bl k) {σ : L2.St} {Q : Bool → Hp → Prop} (h : tG W WX EqB (fun env cs => tstR (m env cs)) σ H Q) :
    tG W WX (Rep W) m σ H fun x H' => ∃ k, x = .bl k ∧ Q k H' := by
  obtain ⟨A, env, cs, hE, hS, hF⟩ := h
  refine ⟨A, env, cs, hE, hS, FinG.bind (R2 := EqB) (Q := Q) hF fun d cs1 e A1 H1 x e1 s1 r1 f1 => ?_⟩
  obtain ⟨kk, rfl⟩ := hb _ _ _ _ e
  obtain ⟨b, hb, q⟩ := f1.opt
  have : kk = b := by simpa [view, truV] using hb
  subst this
  exact ⟨kk, r1.val, q A1 H1 kk .refl s1 rfl⟩

theorem few_of {es : List Expr} {env : PySem.Env} {pos : Pos} (h : es.all plainX = true) : (backTo pos (starEach es env)).all (fun x => !x.1) = true := by
  induction es with
  | nil => rfl
  | cons e r ih =>
    rw [List.all_cons, Bool.and_eq_true] at h
    rw [star_of r env h.1]
    show (!false && (backTo pos (starEach r env)).all (fun x => !x.1)) = true
    rw [ih h.2]; rfl
theorem boot_bi (b : Bi) : bootBuiltins (biPy b) = some (biVal b) := by
  cases b <;> decide +kernel
theorem bi_mem (b : Bi) : biPy b ∈ bltNames := by
  cases b <;> decide +kernel
theorem boot_ty {t : Ty} {T : String} (h : tyS t = some T) : bootBuiltins (tyNmS t) = some (.type T) ∧ tyNmS t ∈ bltNames := by
  cases t <;> cases h <;> decide +kernel
theorem pe_type (o : XOk S k W WX X) {t : Ty} {T : String} {pos : Pos} (h : tyS t = some T) (hg : glB S.sc (tyNmS t) = true) : PE X (.Name (tyNmS t) pos) (tC (.ty T)) := by
  obtain ⟨g, d⟩ := gl_of (X := X) hg o.hsc
  obtain ⟨d1, d2, d3⟩ := dunder_ne d
  obtain ⟨b1, b2⟩ := boot_ty h
  exact pe_bltn g (o.none b2) b1 rfl d3 d1
theorem tys_pa (o : XOk S k W WX X) : ∀ {tys : List Ty} {es : List Expr}, tysB S tys es = true → ∃ Ts : List String, PA X es (fun _ H Q => Q (Ts.map V.ty) H) ∧ es.all plainX = true ∧ tys.map tyS = Ts.map some ∧ es.length = tys.length
  | [], [], _ => ⟨[], pa_nil, rfl, rfl, rfl⟩
  | t :: ts, .Name n p :: es, h => by
    simp only [tysB, Bool.and_eq_true, decide_eq_true_eq] at h
    obtain ⟨⟨⟨h1, h2⟩, h3⟩, h4⟩ := h
    obtain ⟨T, hT⟩ := Option.isSome_iff_exists.mp h1
    obtain ⟨Ts, q1, q2, q3, q4⟩ := tys_pa o h4
    subst h2
    exact ⟨T :: Ts, pa_cons (pe_type o hT h3) q1 (star_of es _ rfl), by simp [q2, plainX], by simp [hT, q3], by simp [q4]⟩
  | [], _ :: _, h => by simp [tysB] at h
  | _ :: _, [], h => by simp [tysB] at h
theorem tyNm_of {t : Ty} {d : D} {b : Bool} (h : tyIs t d = some b) : ∃ T, tyNm d = some T := by
  cases t <;> cases d <;> first | (cases h; done) | exact ⟨_, rfl⟩
theorem kitAny_of {K : PySem.W.Frag} {d : D} {T : String} (hT : tyNm d = some T) : ∀ {tys : List Ty} {Ts : List String} {b : Bool}, tys.map tyS = Ts.map some → tyAny tys d = some b → PySem.W.kitAny K (.type T) (Ts.map Value.type) = some b
  | [], [], b, _, h => by cases h; rfl
  | t :: ts, U :: Us, b, e, h => by
    simp only [List.map_cons, List.cons.injEq] at e
    obtain ⟨e1, e2⟩ := e
    unfold tyAny at h
    split at h
    · rename_i q
      cases h
      exact kitAny_cons (kit_ty (kit_all q hT e1)) (fun z => by cases z) fun _ => rfl
    · rename_i q
      exact kitAny_cons (kit_ty (kit_all q hT e1)) (fun _ => kitAny_of hT e2 h) fun z => by cases z
    · cases h
  | [], _ :: _, _, e, _ => by cases e
  | _ :: _, [], _, e, _ => by cases e
theorem clsV_all : ∀ Ts : List String, Paired ClsV (Ts.map V.ty) (Ts.map Value.type)
  | [] => .nil
  | T :: Ts => .cons (.ty T) (clsV_all Ts)
theorem isi_mem : ("isinstance" : Str) ∈ bltNames := by decide +kernel
theorem rng_mem : ("range" : Str) ∈ bltNames := by decide +kernel
theorem lst_mem : ("list" : Str) ∈ bltNames := by decide +kernel
theorem boot_isi : bootBuiltins ("isinstance" : Str) = some (.builtin "isinstance") := by decide +kernel
theorem boot_lst : bootBuiltins ("list" : Str) = some (.type "list") := by decide +kernel
end
end DH
end
section
set_option Elab.async false
set_option linter.all false
set_option maxRecDepth 100000
set_option maxHeartbeats 4000000
/-! DH13: the soundness of expressions, joined. -/
namespace DH
open PySem L2

section
variable {k : Nat} {W : Wd}
theorem s_var (i : Nat) : SE k W (.var i) := by
  intro S WX X o x h
  cases x with
  | Name n p =>
    simp only [chkE, Bool.and_eq_true, decide_eq_true_eq] at h
    obtain ⟨v, d⟩ := vis_of h.2
    obtain ⟨d1, d2, d3⟩ := dunder_ne d
    refine se_of o (PE_imp (pe_var (by rw [o.hN]; exact h.1) (by rw [o.hsc]; exact v) d1 d2) fun σ H Q hq => ?_) rfl (by intros; simp)
    obtain ⟨A, env, cs, hE, hS, hF⟩ := hq
    simp only [evE] at hF
    split at hF
    · rename_i d' he
      obtain ⟨v, hv, r⟩ := hE.at_ i d' he
      exact ⟨v, hv, hF A H v .refl hS r⟩
    · exact hF.elim
  | _ => simp [chkE] at h
theorem s_lit (d : D) : SE k W (.lit d) := by
  intro S WX X o x h
  cases x with
  | Constant c j p =>
    have h : litB d c = true := h
    have go : ∀ {v : V}, PE X (.Constant c j p) (tC v) → (∀ A H, Rep W A H v d) → PE X (.Constant c j p) (tG W WX (Rep W) (evE (Fc S k) (.lit d))) := fun {v} q r =>
      PE_imp q fun σ H Q hq => by
        obtain ⟨A, env, cs, hE, hS, hF⟩ := hq
        exact hF A H v .refl hS (r A H)
    refine se_of o ?_ rfl (by intros; simp)
    unfold litB at h
    split at h
    · exact go pe_non fun A H => .non
    · have e := eq_of_beq h
      subst e
      exact go pe_bl fun A H => .bl _
    · have e := of_decide_eq_true h
      subst e
      exact go pe_int fun A H => .int _
    · simp only [Bool.and_eq_true, decide_eq_true_eq] at h
      obtain ⟨h1, h2⟩ := h
      subst h1
      exact go pe_str fun A H => .str _ h2
    · cases h
  | _ => simp [chkE] at h
theorem s_glb (j : Nat) : SE k W (.glb j) := by
  intro S WX X o x h
  cases x with
  | Name n p =>
    simp only [chkE, Bool.and_eq_true, decide_eq_true_eq] at h
    obtain ⟨h1, h2⟩ := h
    obtain ⟨g, d⟩ := gl_of (X := X) h2 o.hsc
    obtain ⟨d1, d2, d3⟩ := dunder_ne d
    obtain ⟨⟨n', c⟩, e1, e2⟩ := Option.map_eq_some_iff.mp h1
    have e2 : n' = n := e2
    subst e2
    obtain ⟨v, u, q1, q2, q3⟩ := o.g.cst j _ c e1
    refine se_of o (PE_imp (pe_glob g q1 q2 d1) fun σ H Q hq => ?_) rfl (by intros; simp)
    obtain ⟨A, env, cs, hE, hS, hF⟩ := hq
    have e3 : evE (Fc S k) (.glb j) env cs = .ok c cs := by
      simp only [evE, ctxD, e1, Option.map_some, optR_some]
    rw [e3] at hF
    exact hF A H v .refl hS (q3 A H)
  | _ => simp [chkE] at h
theorem s_bin {op : Op2} {a b : IE} (ha : SE k W a) (hb : SE k W b) : SE k W (.bin op a b) := by
  intro S WX X o x h
  cases x with
  | BinOp y op' z p =>
    simp only [chkE, Bool.and_eq_true, decide_eq_true_eq] at h
    obtain ⟨⟨h1, h2⟩, h3⟩ := h
    subst h1
    exact se_of o (PE_imp (pe_op (op_bin o.hK op) (ha S WX X o _ h2).1 (hb S WX X o _ h3).1) fun σ H Q hq => tG_op (g := view) hq (fun A H cs v d s r => r.view s) fun _ _ _ _ q => q) rfl (by intros; simp)
  | _ => simp [chkE] at h
theorem s_neg {a : IE} (ha : SE k W a) : SE k W (.neg a) := by
  intro S WX X o x h
  cases x with
  | UnaryOp op y p =>
    simp only [chkE, Bool.and_eq_true, decide_eq_true_eq] at h
    obtain ⟨h1, h2⟩ := h
    subst h1
    refine se_of o (PE_imp (pe_un un_neg (ha S WX X o _ h2).1) fun σ H Q hq => ?_) rfl (by intros; simp)
    obtain ⟨A, env, cs, hE, hS, hF⟩ := hq
    refine ⟨A, env, cs, hE, hS, FinG.bind (R2 := Rep W) (Q := Q) hF fun d cs1 _ A1 H1 x e1 s1 r1 f1 => ?_⟩
    cases d with
    | int i => exact ⟨i, r1.val, f1 A1 H1 _ .refl s1 (.int _)⟩
    | _ => exact f1.elim
  | _ => simp [chkE] at h
theorem s_not {a : IE} (ha : SE k W a) : SE k W (.not a) := by
  intro S WX X o x h
  cases x with
  | UnaryOp op y p =>
    simp only [chkE, Bool.and_eq_true, decide_eq_true_eq] at h
    obtain ⟨h1, h2⟩ := h
    subst h1
    obtain ⟨q1, q2, _⟩ := ha S WX X o _ h2
    refine ⟨PE_imp (pe_notT q1) fun σ H Q hq => ?_, PT_imp (pt_not q2) fun σ H Q hq => ?_, by intros _ _ _ e; cases e⟩
    · obtain ⟨A, env, cs, hE, hS, hF⟩ := hq
      refine ⟨A, env, cs, hE, hS, ?_⟩
      simp only [evE] at hF
      cases hm : evE (Fc S k) a env cs with
      | bad => rw [hm] at hF; exact hF.elim
      | exc c fs cs1 => rw [hm] at hF; exact hF
      | ok d cs1 =>
        rw [hm] at hF
        intro A1 H1 v e1 s1 r1
        have hF : FinG W WX (Rep W) A σ H Q ((optR (truV (view cs1 d)) cs1).bind fun b cs1 => .ok (.bl (!b)) cs1) := hF
        obtain ⟨b, hb, f1⟩ := hF.opt2
        exact ⟨b, truV_ok o.hK (r1.view s1) hb, f1 A1 H1 _ e1 s1 (.bl _)⟩
    · obtain ⟨A, env, cs, hE, hS, hF⟩ := hq
      refine ⟨A, env, cs, hE, hS, ?_⟩
      simp only [tst_not] at hF
      exact FinG.bind hF fun b cs1 _ A1 H1 c e1 s1 r1 f1 => by
        have r1 : c = b := r1
        subst r1
        exact f1 A1 H1 _ .refl s1 rfl
  | _ => simp [chkE] at h
theorem s_and {a b : IE} (ha : SE k W a) (hb : SE k W b) : SE k W (.and a b) := by
  intro S WX X o x h
  cases x with
  | BoolOp op vs p =>
    match vs, h with
    | x :: y :: r, h =>
      simp only [chkE, Bool.and_eq_true, decide_eq_true_eq] at h
      obtain ⟨⟨h1, h2⟩, h3⟩ := h
      subst h1
      obtain ⟨q1, q2, _⟩ := ha S WX X o _ h2
      have hv : PE X (.BoolOp .And (y :: r) p) (tG W WX (Rep W) (evE (Fc S k) b)) := by
        cases r with
        | nil => exact pe_one (hb S WX X o _ h3).1
        | cons z r => exact (hb S WX X o _ h3).1
      have hw : PW X (.BoolOp .And (y :: r) p) (tG W WX EqB fun env cs => tstR (evE (Fc S k) b env cs)) := by
        cases r with
        | nil => exact pw_and1 (hb S WX X o _ h3).2.1
        | cons z r => exact (hb S WX X o _ h3).2.2 _ _ _ rfl
      have hPW : PW X (.BoolOp .And (x :: y :: r) p) (tG W WX EqB fun env cs => tstR (evE (Fc S k) (.and a b) env cs)) := PW_imp (pw_and q2 hw) fun σ H Q hq => by
        obtain ⟨A, env, cs, hE, hS, hF⟩ := hq
        refine ⟨A, env, cs, hE, hS, ?_⟩
        simp only [tst_and] at hF
        refine FinG.bind hF fun kk cs1 _ A1 H1 c e1 s1 r1 f1 => ?_
        have r1 : c = kk := r1
        subst r1
        cases c with
        | true => exact ⟨A1, env, cs1, hE.mono e1, s1, f1⟩
        | false => exact f1 A1 H1 _ .refl s1 rfl
      refine ⟨PE_imp (pe_andT q1 hv) fun σ H Q hq => ?_, hPW.pt, fun op' vs' pos' e => by cases e; exact hPW⟩
      obtain ⟨A, env, cs, hE, hS, hF⟩ := hq
      simp only [evE] at hF
      refine ⟨A, env, cs, hE, hS, FinG.bind hF fun d cs1 _ A1 H1 v e1 s1 r1 f1 => ?_⟩
      obtain ⟨c, hc, f2⟩ := f1.opt2
      refine ⟨c, truV_ok o.hK (r1.view s1) hc, ?_⟩
      cases c with
      | true => exact ⟨A1, env, cs1, hE.mono e1, s1, f2⟩
      | false => exact f2 A1 H1 _ .refl s1 r1
    | [], h => simp [chkE] at h
    | [_], h => simp [chkE] at h
  | _ => simp [chkE] at h
theorem s_or {a b : IE} (ha : SE k W a) (hb : SE k W b) : SE k W (.or a b) := by
  intro S WX X o x h
  cases x with
  | BoolOp op vs p =>
    match vs, h with
    | x :: y :: r, h =>
      simp only [chkE, Bool.and_eq_true, decide_eq_true_eq] at h
      obtain ⟨⟨h1, h2⟩, h3⟩ := h
      subst h1
      obtain ⟨q1, q2, _⟩ := ha S WX X o _ h2
      have hv : PE X (.BoolOp .Or (y :: r) p) (tG W WX (Rep W) (evE (Fc S k) b)) := by
        cases r with
        | nil => exact pe_one (hb S WX X o _ h3).1
        | cons z r => exact (hb S WX X o _ h3).1
      have hw : PW X (.BoolOp .Or (y :: r) p) (tG W WX EqB fun env cs => tstR (evE (Fc S k) b env cs)) := by
        cases r with
        | nil => exact pw_or1 (hb S WX X o _ h3).2.1
        | cons z r => exact (hb S WX X o _ h3).2.2 _ _ _ rfl
      have hPW : PW X (.BoolOp .Or (x :: y :: r) p) (tG W WX EqB fun env cs => tstR (evE (Fc S k) (.or a b) env cs)) := PW_imp (pw_or q2 hw) fun σ H Q hq => by
        obtain ⟨A, env, cs, hE, hS, hF⟩ := hq
        refine ⟨A, env, cs, hE, hS, ?_⟩
        simp only [tst_or] at hF
        refine FinG.bind hF fun kk cs1 _ A1 H1 c e1 s1 r1 f1 => ?_
        have r1 : c = kk := r1
        subst r1
        cases c with
        | false => exact ⟨A1, env, cs1, hE.mono e1, s1, f1⟩
        | true => exact f1 A1 H1 _ .refl s1 rfl
      refine ⟨PE_imp (pe_orT q1 hv) fun σ H Q hq => ?_, hPW.pt, fun op' vs' pos' e => by cases e; exact hPW⟩
      obtain ⟨A, env, cs, hE, hS, hF⟩ := hq
      simp only [evE] at hF
      refine ⟨A, env, cs, hE, hS, FinG.bind hF fun d cs1 _ A1 H1 v e1 s1 r1 f1 => ?_⟩
      obtain ⟨c, hc, f2⟩ := f1.opt2
      refine ⟨c, truV_ok o.hK (r1.view s1) hc, ?_⟩
      cases c with
      | false => exact ⟨A1, env, cs1, hE.mono e1, s1, f2⟩
      | true => exact f2 A1 H1 _ .refl s1 r1
    | [], h => simp [chkE] at h
    | [_], h => simp [chkE] at h
  | _ => simp [chkE] at h
theorem s_ite {c a b : IE} (hc : SE k W c) (ha : SE k W a) (hb : SE k W b) : SE k W (.ite c a b) := by
  intro S WX X o x h
  cases x with
  | IfExp t y z p =>
    simp only [chkE, Bool.and_eq_true] at h
    obtain ⟨⟨h1, h2⟩, h3⟩ := h
    obtain ⟨_, q1, _⟩ := hc S WX X o _ h1
    have hPE : PE X (.IfExp t y z p) (tG W WX (Rep W) (evE (Fc S k) (.ite c a b))) := by
      refine PE_imp (pe_ifExp q1 (ha S WX X o _ h2).1 (hb S WX X o _ h3).1) fun σ H Q hq => ?_
      obtain ⟨A, env, cs, hE, hS, hF⟩ := hq
      simp only [evE] at hF
      refine ⟨A, env, cs, hE, hS, FinG.bind hF fun d cs1 _ A1 H1 v e1 s1 r1 f1 => ?_⟩
      have r1 : v = d := r1
      subst r1
      cases v with
      | true => exact ⟨A1, env, cs1, hE.mono e1, s1, f1⟩
      | false => exact ⟨A1, env, cs1, hE.mono e1, s1, f1⟩
    refine ⟨hPE, ⟨fun pins s σ H Q I hq => ?_⟩, by intros _ _ _ e; cases e⟩
    obtain ⟨A, env, cs, hE, hS, hF⟩ := hq
    simp only [tst_ite] at hF
    rw [arm_isTrue_IfExp]
    refine wpAny_bind (thn (q1.run pins s σ H (fun v H1 => if v = true then tG W WX EqB (fun env cs => tstR (evE (Fc S k) a env cs)) σ H1 Q else tG W WX EqB (fun env cs => tstR (evE (Fc S k) b env cs)) σ H1 Q) I
      ⟨A, env, cs, hE, hS, FinG.bind hF fun d cs1 _ A1 H1 v e1 s1 r1 f1 => ?_⟩) fun c s1 ⟨H1, I1, q⟩ => ?_)
    · have r1 : v = d := r1
      subst r1
      cases v with
      | true => exact ⟨A1, env, cs1, hE.mono e1, s1, f1⟩
      | false => exact ⟨A1, env, cs1, hE.mono e1, s1, f1⟩
    · cases c with
      | true => exact (ha S WX X o _ h2).2.1.run pins s1 σ H1 Q I1 q
      | false => exact (hb S WX X o _ h3).2.1.run pins s1 σ H1 Q I1 q
  | _ => simp [chkE] at h
theorem s_cmp {op : Cop} {a b : IE} (ha : SE k W a) (hb : SE k W b) : SE k W (.cmp op a b) := by
  intro S WX X o x h
  cases x with
  | Compare y ops zs p =>
    match ops, zs, h with
    | [op'], [z], h =>
      simp only [chkE, Bool.and_eq_true, decide_eq_true_eq] at h
      obtain ⟨⟨⟨h1, h2⟩, h3⟩, h4⟩ := h
      subst h1
      have q1 := (ha S WX X o _ h3).1
      have q2 := (hb S WX X o _ h4).1
      have hop := op_cmp (X := X) o.hK o.un op
      have bl := @cmp_bl (Fc S k) op a b
      refine ⟨PE_imp (pe_cmpR hop q1 q2 (nomark_of h2)) fun σ H Q hq => tG_cmp hq, PT_imp (pt_cmpR hop q1 q2 (nomark_of h2)) fun σ H Q hq => ?_, by intros _ _ _ e; cases e⟩
      exact tG_cmp (tG_tst bl hq)
    | [], _, h => simp [chkE] at h
    | [_], [], h => simp [chkE] at h
    | [_], _ :: _ :: _, h => simp [chkE] at h
    | _ :: _ :: _, _, h => simp [chkE] at h
  | _ => simp [chkE] at h
theorem s_chn {o1 o2 : Cop} {a b c : IE} (ha : SE k W a) (hb : SE k W b) (hc : SE k W c) : SE k W (.chn o1 o2 a b c) := by
  intro S WX X o x h
  cases x with
  | Compare y ops zs p =>
    match ops, zs, h with
    | [p1, p2], [z, z2], h =>
      simp only [chkE, Bool.and_eq_true, decide_eq_true_eq] at h
      obtain ⟨⟨⟨⟨⟨h1, h2⟩, h3⟩, h4⟩, h5⟩, h6⟩ := h
      subst h1 h2
      have q1 := (ha S WX X o _ h4).1
      have q2 := (hb S WX X o _ h5).1
      have q3 := (hc S WX X o _ h6).1
      have hm : lastMarks [copPy o1, copPy o2] [z, z2] = false := by
        show behindInMarks (copPy o2) z2 = false
        exact nomark_of h3
      have bl := @chn_bl (Fc S k) o1 o2 a b c
      refine ⟨PE_imp (pe_chain (op_cmp o.hK o.un o1) (op_cmp o.hK o.un o2) q1 q2 q3 hm) fun σ H Q hq => tG_chn hq, PT_imp (pt_chain (op_cmp o.hK o.un o1) (op_cmp o.hK o.un o2) q1 q2 q3 hm) fun σ H Q hq => ?_, by intros _ _ _ e; cases e⟩
      exact tG_chn (tG_tst bl hq)
    | [], _, h => simp [chkE] at h
    | [_], [], h => simp [chkE] at h
    | [_], [_], h => simp [chkE] at h
    | [_], _ :: _ :: _, h => simp [chkE] at h
    | [_, _], [], h => simp [chkE] at h
    | [_, _], [_], h => simp [chkE] at h
    | [_, _], _ :: _ :: _ :: _, h => simp [chkE] at h
    | _ :: _ :: _ :: _, _, h => simp [chkE] at h
  | _ => simp [chkE] at h
theorem s_tup {es : IEs} (hs : SEs k W es) : SE k W (.tup es) := by
  intro S WX X o x h
  cases x with
  | Tuple xs j p =>
    have h : chkEs S es xs = true := h
    obtain ⟨q1, q2⟩ := hs S WX X o _ h
    refine se_of o (PE_imp (pe_tup q1) fun σ H Q hq => ?_) rfl (by intros; simp)
    obtain ⟨A, env, cs, hE, hS, hF⟩ := hq
    simp only [evE] at hF
    refine ⟨A, env, cs, hE, hS, FinG.bind hF fun ds cs1 _ A1 H1 vs e1 s1 r1 f1 => ?_⟩
    by_cases hl : ds.length ≤ 1000
    · rw [if_pos hl] at f1
      exact ⟨by rw [r1.length, sizeLine_eq]; omega, fun p hp => new_tup s1 hp r1 f1⟩
    · rw [if_neg hl] at f1
      exact f1.elim
  | _ => simp [chkE] at h
theorem s_call {f : Nat} {es : IEs} (hs : SEs k W es) : SE k W (.call f es) := by
  intro S WX X o x h
  cases x with
  | Call fn as ks p =>
    match fn, as, ks, h with
    | .Name n p2, x :: xs, [], h =>
      simp only [chkE, Bool.and_eq_true, decide_eq_true_eq] at h
      obtain ⟨⟨h1, h2⟩, h3⟩ := h
      obtain ⟨q1, q2⟩ := hs S WX X o _ h3
      rw [List.all_cons, Bool.and_eq_true] at q2
      obtain ⟨g, d⟩ := gl_of (X := X) h2 o.hsc
      obtain ⟨d1, d2, d3⟩ := dunder_ne d
      obtain ⟨r, e1, e2⟩ := Option.map_eq_some_iff.mp h1
      subst e2
      obtain ⟨fa, fd, m1, m2, m3, m4, _⟩ := o.g.fns f r e1
      refine se_of o (PE_imp (pe_callS m4 o.room g m1 m2 m3 (fun σ => passAt o.tk σ) q1 d1 (star_of _ _ q2.1) (star_none q2.2)) fun σ H Q hq => ?_) rfl (by intros; simp)
      obtain ⟨A, env, cs, hE, hS, hF⟩ := hq
      simp only [evE] at hF
      exact ⟨A, env, cs, hE, hS, FinG.bind hF fun ds cs1 _ A1 H1 vs e1 s1 r1 f1 => ⟨A1, ds, cs1, r1, s1, f1⟩⟩
    | .Name _ _, [], _, h => simp [chkE] at h
    | .Name _ _, _ :: _, _ :: _, h => simp [chkE] at h
    | .BoolOp .., _, _, h => simp [chkE] at h
    | .NamedExpr .., _, _, h => simp [chkE] at h
    | .BinOp .., _, _, h => simp [chkE] at h
    | .UnaryOp .., _, _, h => simp [chkE] at h
    | .Lambda .., _, _, h => simp [chkE] at h
    | .IfExp .., _, _, h => simp [chkE] at h
    | .Dict .., _, _, h => simp [chkE] at h
    | .Set .., _, _, h => simp [chkE] at h
    | .ListComp .., _, _, h => simp [chkE] at h
    | .SetComp .., _, _, h => simp [chkE] at h
    | .DictComp .., _, _, h => simp [chkE] at h
    | .GeneratorExp .., _, _, h => simp [chkE] at h
    | .Await .., _, _, h => simp [chkE] at h
    | .Yield .., _, _, h => simp [chkE] at h
    | .YieldFrom .., _, _, h => simp [chkE] at h
    | .Compare .., _, _, h => simp [chkE] at h
    | .Call .., _, _, h => simp [chkE] at h
    | .FormattedValue .., _, _, h => simp [chkE] at h
    | .JoinedStr .., _, _, h => simp [chkE] at h
    | .Constant .., _, _, h => simp [chkE] at h
    | .Attribute .., _, _, h => simp [chkE] at h
    | .Subscript .., _, _, h => simp [chkE] at h
    | .Starred .., _, _, h => simp [chkE] at h
    | .List .., _, _, h => simp [chkE] at h
    | .Tuple .., _, _, h => simp [chkE] at h
    | .Slice .., _, _, h => simp [chkE] at h
  | _ => simp [chkE] at h
end
end DH
end
section
set_option Elab.async false
set_option linter.all false
set_option maxRecDepth 100000
set_option maxHeartbeats 4000000
/-! DH14: the soundness of expressions, further. -/
namespace DH
open PySem L2

section
variable {k : Nat} {W : Wd}
theorem s_bi {b : Bi} {es : IEs} (hs : SEs k W es) : SE k W (.bi b es) := by
  intro S WX X o x h
  cases x with
  | Call fn as ks p =>
    match fn, as, ks, h with
    | .Name n p2, x :: xs, [], h =>
      simp only [chkE, Bool.and_eq_true, decide_eq_true_eq] at h
      obtain ⟨⟨h1, h2⟩, h3⟩ := h
      subst h1
      obtain ⟨q1, q2⟩ := hs S WX X o _ h3
      rw [List.all_cons, Bool.and_eq_true] at q2
      obtain ⟨g, d⟩ := gl_of (X := X) h2 o.hsc
      obtain ⟨d1, d2, d3⟩ := dunder_ne d
      have hc := call_bi (X := X) (W := W) o.hK o.calm b
      have hm := o.none (bi_mem b)
      have hv := boot_bi b
      have hr := star_of xs X.env q2.1
      have hp := star_none (env := X.env) (pos := p) q2.2
      have key : PE X (.Call (.Name (biPy b) p2) (x :: xs) [] p) (tCB (dCall W (biD b)) (tG W WX (RepL W) (evEs (Fc S k) es))) := by
        cases b
        · exact pe_callB hc g hm hv q1 d3 d1 hr hp
        · exact pe_callTy hc g hm hv q1 d3 d1 hr hp
        · exact pe_callTy hc g hm hv q1 d3 d1 hr hp
        · exact pe_callB hc g hm hv q1 d3 d1 hr hp
        · exact pe_callB hc g hm hv q1 d3 d1 hr hp
        · exact pe_callB hc g hm hv q1 d3 d1 hr hp
        · exact pe_callB hc g hm hv q1 d3 d1 hr hp
        · exact pe_callB hc g hm hv q1 d3 d1 hr hp
        · exact pe_callB hc g hm hv q1 d3 d1 hr hp
        · exact pe_callB hc g hm hv q1 d3 d1 hr hp
      refine se_of o (PE_imp key fun σ H Q hq => ?_) rfl (by intros; simp)
      obtain ⟨A, env, cs, hE, hS, hF⟩ := hq
      simp only [evE] at hF
      refine ⟨A, env, cs, hE, hS, FinG.bind hF fun ds cs1 _ A1 H1 vs e1 s1 r1 f1 => ?_⟩
      obtain ⟨z, hz, q⟩ := f1.opt
      exact ⟨A1, cs1, _, z, s1, r1.views s1, hz, q⟩
    | .Name _ _, [], _, h => simp [chkE] at h
    | .Name _ _, _ :: _, _ :: _, h => simp [chkE] at h
    | .BoolOp .., _, _, h => simp [chkE] at h
    | .NamedExpr .., _, _, h => simp [chkE] at h
    | .BinOp .., _, _, h => simp [chkE] at h
    | .UnaryOp .., _, _, h => simp [chkE] at h
    | .Lambda .., _, _, h => simp [chkE] at h
    | .IfExp .., _, _, h => simp [chkE] at h
    | .Dict .., _, _, h => simp [chkE] at h
    | .Set .., _, _, h => simp [chkE] at h
    | .ListComp .., _, _, h => simp [chkE] at h
    | .SetComp .., _, _, h => simp [chkE] at h
    | .DictComp .., _, _, h => simp [chkE] at h
    | .GeneratorExp .., _, _, h => simp [chkE] at h
    | .Await .., _, _, h => simp [chkE] at h
    | .Yield .., _, _, h => simp [chkE] at h
    | .YieldFrom .., _, _, h => simp [chkE] at h
    | .Compare .., _, _, h => simp [chkE] at h
    | .Call .., _, _, h => simp [chkE] at h
    | .FormattedValue .., _, _, h => simp [chkE] at h
    | .JoinedStr .., _, _, h => simp [chkE] at h
    | .Constant .., _, _, h => simp [chkE] at h
    | .Attribute .., _, _, h => simp [chkE] at h
    | .Subscript .., _, _, h => simp [chkE] at h
    | .Starred .., _, _, h => simp [chkE] at h
    | .List .., _, _, h => simp [chkE] at h
    | .Tuple .., _, _, h => simp [chkE] at h
    | .Slice .., _, _, h => simp [chkE] at h
  | _ => simp [chkE] at h
theorem s_meth {m : Mt} {oe : IE} {es : IEs} (ho : SE k W oe) (hs : SEs k W es) : SE k W (.meth m oe es) := by
  intro S WX X o x h
  cases x with
  | Call fn as ks p =>
    match fn, as, ks, h with
    | .Attribute ox n ap, xs, [], h =>
      simp only [chkE, Bool.and_eq_true, decide_eq_true_eq] at h
      obtain ⟨⟨⟨⟨⟨⟨h1, h2⟩, h3⟩, h4⟩, h5⟩, h6⟩, h7⟩ := h
      subst h1
      obtain ⟨q1, q2⟩ := hs S WX X o _ h7
      have q3 := (ho S WX X o _ h6).1
      have hline : (ap.endLine == p.line) = true := by rw [h4]; exact beq_self_eq_true _
      have hm := mt_all (X := X) (W := W) o.un m h2
      have fin : ∀ σ H Q, tG W WX (Rep W) (evE (Fc S k) (.meth m oe es)) σ H Q → tBM X.K (mtT m) (dMeth W m) (tG W WX (Rep W) (evE (Fc S k) oe)) (tG W WX (RepL W) (evEs (Fc S k) es)) σ H Q := fun σ H Q hq => by
        obtain ⟨A, env, cs, hE, hS, hF⟩ := hq
        simp only [evE] at hF
        refine ⟨A, env, cs, hE, hS, FinG.bind hF fun d cs1 _ A1 H1 x e1 s1 r1 f1 => ?_⟩
        by_cases ht : mtTy m (view cs1 d) = true
        · rw [if_pos ht] at f1
          refine ⟨mt_ty o.hK (r1.view s1) ht, A1, env, cs1, hE.mono e1, s1, FinG.bind f1 fun ds cs2 _ A2 H2 vs e2 s2 r2 f2 => ?_⟩
          have f2 : FinG W WX (Rep W) A2 σ H2 Q (methC m d ds cs2) := f2
          cases hmc : methC m d ds cs2 with
          | bad => rw [hmc] at f2; exact f2.elim
          | exc c fs cs3 =>
            exfalso
            revert hmc
            unfold methC
            repeat' split
            all_goals (intro z; cases z)
          | ok z cs3 =>
            rw [hmc] at f2
            exact ⟨A2, cs2, d, ds, z, cs3, s2, r1.mono e2, r2, hmc, f2⟩
        · rw [if_neg ht] at f1
          exact f1.elim
      cases xs with
      | nil =>
        refine se_of o (PE_imp (pe_bm0 (mt_attrs m) (mt_slot m h2) (mt_type m h2) hm q3 (base_of h3) hline) fun σ H Q hq => ?_) rfl (by intros; simp)
        have es0 : es = .nil := by cases es with
          | nil => rfl
          | cons _ _ => simp [chkEs] at h7
        subst es0
        obtain ⟨A, env, cs, hE, hS, hF⟩ := fin σ H Q hq
        refine ⟨A, env, cs, hE, hS, ?_⟩
        have hF : FinG W WX (Rep W) A σ H (fun x H1 => tyV X.K (mtT m) x H1 ∧ tG W WX (RepL W) (evEs (Fc S k) .nil) σ H1 fun xs H2 => dMeth W m x xs H2 Q) (evE (Fc S k) oe env cs) := hF
        revert hF
        cases evE (Fc S k) oe env cs with
        | bad => exact fun q => q
        | exc _ _ _ => exact fun q => q
        | ok d cs1 =>
          intro hF A1 H1 v e1 s1 r1
          obtain ⟨t1, A2, env2, cs2, hE2, hS2, hF2⟩ := hF A1 H1 v e1 s1 r1
          exact ⟨t1, hF2 A2 H1 [] .refl hS2 .nil⟩
      | cons y ys =>
        rw [List.all_cons, Bool.and_eq_true] at q2
        refine se_of o (PE_imp (pe_bm (mt_attrs m) (mt_slot m h2) (mt_type m h2) hm q3 q1 (base_of h3) ?_ hline (star_of _ _ q2.1) (star_none q2.2)) fin) rfl (by intros; simp)
        have a1 := few_of (es := y :: ys) (env := X.env) (pos := p) (by rw [List.all_cons, q2.1, q2.2]; rfl)
        rw [a1]
        show (true && true && decide ((y :: ys).length + 0 + 0 < 30)) = true
        rw [decide_eq_true (by omega : (y :: ys).length + 0 + 0 < 30)]
        rfl
    | .Attribute _ _ _, _, _ :: _, h => simp [chkE] at h
    | .BoolOp .., _, _, h => simp [chkE] at h
    | .NamedExpr .., _, _, h => simp [chkE] at h
    | .BinOp .., _, _, h => simp [chkE] at h
    | .UnaryOp .., _, _, h => simp [chkE] at h
    | .Lambda .., _, _, h => simp [chkE] at h
    | .IfExp .., _, _, h => simp [chkE] at h
    | .Dict .., _, _, h => simp [chkE] at h
    | .Set .., _, _, h => simp [chkE] at h
    | .ListComp .., _, _, h => simp [chkE] at h
    | .SetComp .., _, _, h => simp [chkE] at h
    | .DictComp .., _, _, h => simp [chkE] at h
    | .GeneratorExp .., _, _, h => simp [chkE] at h
    | .Await .., _, _, h => simp [chkE] at h
    | .Yield .., _, _, h => simp [chkE] at h
    | .YieldFrom .., _, _, h => simp [chkE] at h
    | .Compare .., _, _, h => simp [chkE] at h
    | .Call .., _, _, h => simp [chkE] at h
    | .FormattedValue .., _, _, h => simp [chkE] at h
    | .JoinedStr .., _, _, h => simp [chkE] at h
    | .Constant .., _, _, h => simp [chkE] at h
    | .Subscript .., _, _, h => simp [chkE] at h
    | .Starred .., _, _, h => simp [chkE] at h
    | .Name .., _, _, h => simp [chkE] at h
    | .List .., _, _, h => simp [chkE] at h
    | .Tuple .., _, _, h => simp [chkE] at h
    | .Slice .., _, _, h => simp [chkE] at h
  | _ => simp [chkE] at h
theorem s_idx {a i : IE} (ha : SE k W a) (hi : SE k W i) : SE k W (.idx a i) := by
  intro S WX X o x h
  cases x with
  | Subscript y z p =>
    simp only [chkE, Bool.and_eq_true] at h
    obtain ⟨⟨h1, h2⟩, h3⟩ := h
    exact se_of o (PE_imp (pe_ix (ix_all (W := W) o.hK o.un) (ha S WX X o _ h2).1 (hi S WX X o _ h3).1 (plainIx_of h1)) fun σ H Q hq => tG_op (g := fun _ d => d) hq (fun A H cs v d s r => r.val) fun _ _ _ _ q => q) rfl (by intros; simp)
  | _ => simp [chkE] at h
theorem s_cut {a : IE} {lo hi : IO} (ha : SE k W a) (hl : SO k W lo) (hh : SO k W hi) : SE k W (.cut a lo hi) := by
  intro S WX X o x h
  cases x with
  | Subscript y z p =>
    match z, h with
    | .Slice l u none p2, h =>
      simp only [chkE, Bool.and_eq_true] at h
      obtain ⟨⟨h1, h2⟩, h3⟩ := h
      refine se_of o (PE_imp (pe_slice (sl_all (W := W) o.hK) (ha S WX X o _ h1).1 (hl S WX X o _ h2) (hh S WX X o _ h3)) fun σ H Q hq => ?_) rfl (by intros; simp)
      obtain ⟨A, env, cs, hE, hS, hF⟩ := hq
      simp only [evE] at hF
      refine ⟨A, env, cs, hE, hS, FinG.bind hF fun d cs1 _ A1 H1 x e1 s1 r1 f1 => ⟨A1, env, cs1, hE.mono e1, s1, FinG.bind f1 fun l' cs2 _ A2 H2 l2 e2 s2 r2 f2 => ⟨A2, env, cs2, (hE.mono e1).mono e2, s2, FinG.bind f2 fun h' cs3 _ A3 H3 l3 e3 s3 r3 f3 => ?_⟩⟩⟩
      have r2 : l2 = l' := r2
      have r3 : l3 = h' := r3
      subst r2 r3
      obtain ⟨z, hz, q⟩ := f3.opt
      exact ⟨A3, cs3, _, z, s3, ((r1.mono e2).mono e3).view s3, hz, q⟩
    | .Slice _ _ (some _) _, h => simp [chkE] at h
    | .BoolOp .., h => simp [chkE] at h
    | .NamedExpr .., h => simp [chkE] at h
    | .BinOp .., h => simp [chkE] at h
    | .UnaryOp .., h => simp [chkE] at h
    | .Lambda .., h => simp [chkE] at h
    | .IfExp .., h => simp [chkE] at h
    | .Dict .., h => simp [chkE] at h
    | .Set .., h => simp [chkE] at h
    | .ListComp .., h => simp [chkE] at h
    | .SetComp .., h => simp [chkE] at h
    | .DictComp .., h => simp [chkE] at h
    | .GeneratorExp .., h => simp [chkE] at h
    | .Await .., h => simp [chkE] at h
    | .Yield .., h => simp [chkE] at h
    | .YieldFrom .., h => simp [chkE] at h
    | .Compare .., h => simp [chkE] at h
    | .Call .., h => simp [chkE] at h
    | .FormattedValue .., h => simp [chkE] at h
    | .JoinedStr .., h => simp [chkE] at h
    | .Constant .., h => simp [chkE] at h
    | .Attribute .., h => simp [chkE] at h
    | .Subscript .., h => simp [chkE] at h
    | .Starred .., h => simp [chkE] at h
    | .Name .., h => simp [chkE] at h
    | .List .., h => simp [chkE] at h
    | .Tuple .., h => simp [chkE] at h
  | _ => simp [chkE] at h
theorem s_attr {a : IE} {f : Nat} (ha : SE k W a) : SE k W (.attr a f) := by
  intro S WX X o x h
  cases x with
  | Attribute y n p =>
    simp only [chkE, Bool.and_eq_true, decide_eq_true_eq] at h
    obtain ⟨⟨h1, h2⟩, h3⟩ := h
    refine se_of o (PE_imp (pe_fld (ha S WX X o _ h3).1 (base_of h2)) fun σ H Q hq => ?_) rfl (by intros; simp)
    obtain ⟨A, env, cs, hE, hS, hF⟩ := hq
    simp only [evE] at hF
    refine ⟨A, env, cs, hE, hS, FinG.bind hF fun d cs1 _ A1 H1 v e1 s1 r1 f1 => ?_⟩
    obtain ⟨z, hz, q⟩ := f1.opt
    have r2 := r1.view s1
    generalize view cs1 d = d' at hz r2
    cases d' with
    | ins c fs =>
      obtain ⟨a1, C, dx, vs, ev, hc, h4, h5⟩ := r2
      obtain ⟨c1, c2⟩ := o.g.cls c C hc
      have hn := o.g.fld f n h1
      have look : ∀ {vs : List (Str × V)} {fs : List (Nat × D)} {z : D}, RepF W A1 H1 vs fs → fldD f fs = some z → ∃ v, vs.lookup n = some v ∧ Rep W A1 H1 v z := by
        intro vs
        induction vs with
        | nil => intro fs z r hz; cases r; cases hz
        | cons p vs ih =>
          intro fs z r hz
          cases r with
          | @cons g v _ d ds r1 r2 =>
            by_cases hg : g = f
            · subst hg
              have hz : (if g = g then some d else fldD g ds) = some z := hz
              rw [if_pos rfl] at hz
              cases hz
              exact ⟨v, by rw [List.lookup_cons, hn]; simp, r1⟩
            · have hz : (if g = f then some d else fldD f ds) = some z := hz
              rw [if_neg hg] at hz
              obtain ⟨v', h6, h7⟩ := ih r2 hz
              refine ⟨v', ?_, h7⟩
              have hne : (n == W.fname g) = false := by
                rw [beq_eq_false_iff_ne]
                intro e
                exact hg (o.g.finj g f (e.symm.trans hn.symm))
              rw [List.lookup_cons, hne]
              exact h6
      obtain ⟨v', h6, h7⟩ := look h5 hz
      exact ⟨a1, C, dx, vs, v', ev, h4, c1, c2 f n h1, h6, q A1 H1 v' .refl s1 h7⟩
    | _ => cases hz
  | _ => simp [chkE] at h
end
end DH
end
section
set_option Elab.async false
set_option linter.all false
set_option maxRecDepth 100000
set_option maxHeartbeats 4000000
/-! DH15: the soundness of expressions: isinstance, lists, what is walked; all joined. -/
namespace DH
open PySem L2

section
variable {k : Nat} {W : Wd}
theorem s_isin {a : IE} {tys : List Ty} (ha : SE k W a) : SE k W (.isin a tys) := by
  intro S WX X o x h
  cases x with
  | Call fn as ks p =>
    match fn, as, ks, h with
    | .Name n p2, [y, t], [], h =>
      simp only [chkE, Bool.and_eq_true, decide_eq_true_eq] at h
      obtain ⟨⟨⟨⟨h1, h2⟩, h3⟩, h4⟩, h5⟩ := h
      subst h1
      obtain ⟨g, d⟩ := gl_of (X := X) h2 o.hsc
      obtain ⟨d1, d2, d3⟩ := dunder_ne d
      have q1 := (ha S WX X o _ h4).1
      have hm := o.none isi_mem
      have core : ∀ {ty : TE} {r : List V → Hp → VK → Prop}, PE X t ty → plainX t = true → CallR X (.builtin "isinstance") r → (∀ σ H Q, tG W WX (Rep W) (evE (Fc S k) (.isin a tys)) σ H Q → tCB r (tCons (tG W WX (Rep W) (evE (Fc S k) a)) (tCons ty tNil)) σ H Q) →
          PE X (.Call (.Name "isinstance" p2) [y, t] [] p) (tG W WX (Rep W) (evE (Fc S k) (.isin a tys))) := fun {ty r} pt pl hc f =>
        PE_imp (pe_callB hc g hm boot_isi (pa_cons q1 (pa_cons pt pa_nil (star_of [] X.env pl)) (star_of [t] X.env h3)) d3 d1 (star_of [t] X.env h3) (star_none (es := [t]) (by rw [List.all_cons, pl]; rfl))) f
      refine se_of o ?_ rfl (by intros; simp)
      cases t with
      | Name m p3 =>
        match tys, h5 with
        | [ty], h5 =>
          simp only [tysB, Bool.and_eq_true, decide_eq_true_eq] at h5
          obtain ⟨⟨⟨h6, h7⟩, h8⟩, _⟩ := h5
          obtain ⟨T, hT⟩ := Option.isSome_iff_exists.mp h6
          subst h7
          refine core (pe_type o hT h8) rfl call_isi fun σ H Q hq => ?_
          obtain ⟨A, env, cs, hE, hS, hF⟩ := hq
          simp only [evE] at hF
          refine ⟨A, env, cs, hE, hS, FinG.bind hF fun d cs1 _ A1 H1 v e1 s1 r1 f1 => ?_⟩
          obtain ⟨b, hb, f2⟩ := f1.opt2
          have hb1 : tyIs ty (view cs1 d) = some b := by
            simp only [tyAny] at hb
            split at hb
            · rename_i q; cases hb; exact q
            · rename_i q; cases hb; exact q
            · cases hb
          obtain ⟨U, hU⟩ := tyNm_of hb1
          exact ⟨v, .ty T, _, _, b, rfl, .ty T, by rw [o.hK]; exact tyX_of (r1.view s1) hU, kit_ty (kit_all hb1 hU hT), f2 A1 H1 _ .refl s1 (.bl b)⟩
        | [], h5 => simp [tysB] at h5
        | _ :: _ :: _, h5 => simp [tysB] at h5
      | Tuple es j p3 =>
        simp only [Bool.and_eq_true, decide_eq_true_eq] at h5
        obtain ⟨⟨h5, h6⟩, h7⟩ := h5
        obtain ⟨Ts, z1, z2, z3, z4⟩ := tys_pa o h5
        refine core (pe_tup z1) rfl call_isiT fun σ H Q hq => ?_
        obtain ⟨A, env, cs, hE, hS, hF⟩ := hq
        simp only [evE] at hF
        refine ⟨A, env, cs, hE, hS, FinG.bind hF fun d cs1 _ A1 H1 v e1 s1 r1 f1 => ?_⟩
        obtain ⟨b, hb, f2⟩ := f1.opt2
        have hlen : Ts.length = tys.length := by
          have := congrArg List.length z3
          simpa using this.symm
        refine ⟨by rw [List.length_map, hlen, sizeLine_eq]; omega, fun p hp => ?_⟩
        have e2 : Ext A1 H1 A1 (upd H1 p (.tup (Ts.map V.ty))) := .new hp
        have s2 : Sta W A1 (upd H1 p (.tup (Ts.map V.ty))) cs1 := s1.new hp
        obtain ⟨U, hU⟩ : ∃ U, tyNm (view cs1 d) = some U := by
          cases tys with
          | nil => cases h7
          | cons t ts =>
            simp only [tyAny] at hb
            split at hb
            · rename_i q; exact tyNm_of q
            · rename_i q; exact tyNm_of q
            · cases hb
        exact ⟨v, p, _, _, _, b, rfl, upd_same, clsV_all Ts, by rw [o.hK]; exact tyX_of ((r1.mono e2).view s2) hU, kitAny_of hU z3 hb, f2 A1 _ _ e2 s2 (.bl b)⟩
      | _ => simp at h5
    | .Name _ _, [], _, h => simp [chkE] at h
    | .Name _ _, [_], _, h => simp [chkE] at h
    | .Name _ _, _ :: _ :: _ :: _, _, h => simp [chkE] at h
    | .Name _ _, [_, _], _ :: _, h => simp [chkE] at h
    | .BoolOp .., _, _, h => simp [chkE] at h
    | .NamedExpr .., _, _, h => simp [chkE] at h
    | .BinOp .., _, _, h => simp [chkE] at h
    | .UnaryOp .., _, _, h => simp [chkE] at h
    | .Lambda .., _, _, h => simp [chkE] at h
    | .IfExp .., _, _, h => simp [chkE] at h
    | .Dict .., _, _, h => simp [chkE] at h
    | .Set .., _, _, h => simp [chkE] at h
    | .ListComp .., _, _, h => simp [chkE] at h
    | .SetComp .., _, _, h => simp [chkE] at h
    | .DictComp .., _, _, h => simp [chkE] at h
    | .GeneratorExp .., _, _, h => simp [chkE] at h
    | .Await .., _, _, h => simp [chkE] at h
    | .Yield .., _, _, h => simp [chkE] at h
    | .YieldFrom .., _, _, h => simp [chkE] at h
    | .Compare .., _, _, h => simp [chkE] at h
    | .Call .., _, _, h => simp [chkE] at h
    | .FormattedValue .., _, _, h => simp [chkE] at h
    | .JoinedStr .., _, _, h => simp [chkE] at h
    | .Constant .., _, _, h => simp [chkE] at h
    | .Attribute .., _, _, h => simp [chkE] at h
    | .Subscript .., _, _, h => simp [chkE] at h
    | .Starred .., _, _, h => simp [chkE] at h
    | .List .., _, _, h => simp [chkE] at h
    | .Tuple .., _, _, h => simp [chkE] at h
    | .Slice .., _, _, h => simp [chkE] at h
  | _ => simp [chkE] at h
theorem s_new {mu : Bool} {l : IL} (hl : SL k W l) : SE k W (.new mu l) := by
  intro S WX X o x h
  have h : chkL S l x = true := by
    cases x <;> first | exact h | (simp [chkE] at h; exact h)
  obtain ⟨q1, q2, q3, _⟩ := hl S WX X o x h
  refine se_of o (PE_imp q1 fun σ H Q hq => new_val (mu := mu) ?_) q2 q3
  obtain ⟨A, env, cs, hE, hS, hF⟩ := hq
  simp only [evE] at hF
  exact ⟨A, env, cs, hE, hS, hF⟩

/-! ### argument lists, parts -/
theorem s_nil : SEs k W .nil := by
  intro S WX X o xs h
  cases xs with
  | nil =>
    refine ⟨PA_imp pa_nil fun σ H Q hq => ?_, rfl⟩
    obtain ⟨A, env, cs, hE, hS, hF⟩ := hq
    exact hF A H [] .refl hS .nil
  | cons _ _ => simp [chkEs] at h
theorem s_cons {e : IE} {es : IEs} (he : SE k W e) (hs : SEs k W es) : SEs k W (.cons e es) := by
  intro S WX X o xs h
  cases xs with
  | nil => simp [chkEs] at h
  | cons x xs =>
    simp only [chkEs, Bool.and_eq_true] at h
    obtain ⟨⟨h1, h2⟩, h3⟩ := h
    obtain ⟨q1, q2⟩ := hs S WX X o _ h3
    refine ⟨PA_imp (pa_cons (he S WX X o _ h2).1 q1 (star_of xs X.env h1)) fun σ H Q hq => ?_, by rw [List.all_cons, h1, q2]; rfl⟩
    obtain ⟨A, env, cs, hE, hS, hF⟩ := hq
    simp only [evEs] at hF
    refine ⟨A, env, cs, hE, hS, FinG.bind hF fun d cs1 _ A1 H1 v e1 s1 r1 f1 => ⟨A1, env, cs1, hE.mono e1, s1, FinG.bind f1 fun ds cs2 _ A2 H2 vs e2 s2 r2 f2 => ?_⟩⟩
    exact f2 A2 H2 (v :: vs) .refl s2 (.cons (r1.mono e2) r2)
theorem s_no : SO k W .no ∧ SC k W .no := by
  refine ⟨fun S WX X o x h => ?_, fun S WX X o x h => ?_⟩
  · cases x with
    | none =>
      have q := po_none (X := X)
      refine ⟨fun pins s σ H Q I hq => q.run pins s σ H Q I ?_⟩
      obtain ⟨A, env, cs, hE, hS, hF⟩ := hq
      exact hF A H none .refl hS rfl
    | some _ => simp [chkO] at h
  · cases x with
    | nil =>
      have q := pts_nil (X := X)
      refine ⟨fun pins s σ H Q I hq => q.run pins s σ H Q I ?_⟩
      obtain ⟨A, env, cs, hE, hS, hF⟩ := hq
      exact hF A H true .refl hS rfl
    | cons _ _ => simp [chkC] at h
theorem s_yes {e : IE} (he : SE k W e) : SO k W (.yes e) ∧ SC k W (.yes e) := by
  refine ⟨fun S WX X o x h => ?_, fun S WX X o x h => ?_⟩
  · cases x with
    | none => simp [chkO] at h
    | some y =>
      have q := po_some (he S WX X o _ h).1
      refine ⟨fun pins s σ H Q I hq => q.run pins s σ H Q I ?_⟩
      obtain ⟨A, env, cs, hE, hS, hF⟩ := hq
      simp only [evO] at hF
      refine ⟨A, env, cs, hE, hS, FinG.bind hF fun d cs1 _ A1 H1 v e1 s1 r1 f1 => ?_⟩
      cases d with
      | int i => exact ⟨i, r1.val, f1 A1 H1 _ .refl s1 rfl⟩
      | _ => exact f1.elim
  · match x, h with
    | [], h => simp [chkC] at h
    | [y], h =>
      have q := pts_one (he S WX X o _ h).2.1
      refine ⟨fun pins s σ H Q I hq => q.run pins s σ H Q I ?_⟩
      obtain ⟨A, env, cs, hE, hS, hF⟩ := hq
      exact ⟨A, env, cs, hE, hS, hF⟩
    | _ :: _ :: _, h => simp [chkC] at h

/-! ### new lists -/
theorem sl_plain {X : Cx} {S : Sc} {WX : L2.WX} {x : Expr} {l : IL} (o : XOk S k W WX X) (h : PE X x (tL W WX (evL (Fc S k) l))) (hs : ∀ (t : Option Expr) (n : Nat), swapsWith x t n X.env = pure false) (i : Nat) (y : Str) (py spos : Pos) (h1 : X.N[i]? = some y)
    (h2 : X.env.scope.names.lookup y = some .local) : PS X (.Assign [.Name y py] x spos) (tAsg (tL W WX (evL (Fc S k) l)) (gName i)) := ps_set o.nd h1 (.inl h2) h (hs _ _) (.inr h2)
theorem s_disp {es : IEs} (hs : SEs k W es) : SL k W (.disp es) := by
  intro S WX X o x h
  cases x with
  | List xs p =>
    have h : chkEs S es xs = true := h
    obtain ⟨q1, q2⟩ := hs S WX X o _ h
    have key : PE X (.List xs p) (tL W WX (evL (Fc S k) (.disp es))) := PE_imp (pe_lst q1) fun σ H Q hq => disp_core (fun _ _ _ q => q) (by
      obtain ⟨A, env, cs, hE, hS, hF⟩ := hq
      simp only [evL] at hF
      exact ⟨A, env, cs, hE, hS, hF⟩)
    exact ⟨key, rfl, by intros; simp, fun i y py spos h1 h2 _ => sl_plain o key (fun _ _ => rfl) i y py spos h1 h2⟩
  | _ => simp [chkL] at h
/-- a new list out of two values -/
theorem s_two {X : Cx} {S : Sc} {WX : L2.WX} {x y : Expr} {a b : IE} {op : Operator} {p : Pos} {r : R2} {f : Cs → D → D → Res (List D)} (o : XOk S k W WX X) (hop : OpR X (binaryOp op) r) (ha : PE X x (tG W WX (Rep W) (evE (Fc S k) a))) (hb : PE X y (tG W WX (Rep W) (evE (Fc S k) b)))
    (hr : ∀ A H cs (v u : V) (d e : D) (Q : VK), Sta W A H cs → Rep W A H v d → Rep W A H u e → FinL W WX A [] H Q (f cs d e) → r v u H Q) (hx : ∀ cs d e c fs cs', f cs d e ≠ .exc c fs cs') :
    PE X (.BinOp x op y p) (tL W WX fun env cs => (evE (Fc S k) a env cs).bind fun d cs1 => (evE (Fc S k) b env cs1).bind fun e cs2 => f cs2 d e) := by
  refine PE_imp (pe_op hop ha hb) fun σ H Q hq => ?_
  obtain ⟨A, env, cs, hE, hS, hF⟩ := hq
  have hF : FinL W WX A σ H Q ((evE (Fc S k) a env cs).bind fun d cs1 => (evE (Fc S k) b env cs1).bind fun e cs2 => f cs2 d e) := hF
  refine ⟨A, env, cs, hE, hS, ?_⟩
  cases h1 : evE (Fc S k) a env cs with
  | bad => rw [h1] at hF; exact hF.elim
  | exc c fs cs1 => rw [h1] at hF; exact hF
  | ok d cs1 =>
    rw [h1] at hF
    have hF : FinL W WX A σ H Q ((evE (Fc S k) b env cs1).bind fun e cs2 => f cs2 d e) := hF
    intro A1 H1 v e1 s1 r1
    refine ⟨A1, env, cs1, hE.mono e1, s1, ?_⟩
    cases h2 : evE (Fc S k) b env cs1 with
    | bad => rw [h2] at hF; exact hF.elim
    | exc c fs cs2 => rw [h2] at hF; exact ExcW.mono e1 hF
    | ok e cs2 =>
      rw [h2] at hF
      have hF : FinL W WX A σ H Q (f cs2 d e) := hF
      intro A2 H2 u e2 s2 r2
      refine hr A2 H2 cs2 v u d e Q s2 (r1.mono e2) r2 ?_
      cases h3 : f cs2 d e with
      | bad => rw [h3] at hF; exact hF
      | exc c fs cs3 => exact absurd h3 (hx _ _ _ _ _ _)
      | ok ds cs3 =>
        rw [h3] at hF
        intro p hp A' H' vs e3 s3 r3 hv
        have e0 := e1.trans e2
        exact hF p (e0.none s2 hp) A' H' vs (e0.add.trans e3) s3 r3 hv
/-- the new list stands -/
theorem finL_new {A : Ad} {H : Hp} {cs : Cs} {Q : VK} {WX : L2.WX} {ds : List D} {vs : List V} {p : Addr} (S : Sta W A H cs) (r : RepL W A H vs ds) (h : FinL W WX A [] H Q (.ok ds cs)) (hp : H p = none) : Q (.ref p) (upd H p (.lst vs)) :=
  h p hp (A.add p) _ vs (.new hp) (S.busied hp) ((r.busy hp).mono (.new hp)) upd_same
theorem s_cat {a b : IE} (ha : SE k W a) (hb : SE k W b) : SL k W (.cat a b) := by
  intro S WX X o x h
  cases x with
  | BinOp y op z p =>
    simp only [chkL, Bool.and_eq_true, decide_eq_true_eq] at h
    obtain ⟨⟨h1, h2⟩, h3⟩ := h
    subst h1
    have hline := line_eq
    have key : PE X (.BinOp y .Add z p) (tL W WX (evL (Fc S k) (.cat a b))) := by
      refine PE_imp (s_two o op_cat (ha S WX X o _ h2).1 (hb S WX X o _ h3).1 (f := fun cs2 x y => match view cs2 x, view cs2 y with
        | .lst xs, .lst ys => if xs.length + ys.length ≤ line then .ok (xs ++ ys) cs2 else .bad
        | _, _ => .bad) ?_ ?_) fun σ H Q hq => by
          obtain ⟨A, env, cs, hE, hS, hF⟩ := hq
          simp only [evL] at hF
          exact ⟨A, env, cs, hE, hS, hF⟩
      · intro A H cs v u d e Q S r1 r2 hf
        split at hf
        · rename_i xs ys hx hy
          split at hf
          · rename_i hl
            have r1 := r1.view S
            have r2 := r2.view S
            rw [hx] at r1
            rw [hy] at r2
            obtain ⟨a1, vs, e1, s1, q1⟩ := r1
            obtain ⟨a2, ws, e2, s2, q2⟩ := r2
            exact ⟨a1, a2, vs, ws, e1, e2, s1, s2, by rw [q1.length, q2.length, ← hline]; exact hl, fun p hp => finL_new S (q1.append q2) hf hp⟩
          · exact hf.elim
        · exact hf.elim
      · intro cs d e c fs cs' hh
        split at hh
        · split at hh <;> cases hh
        · cases hh
    exact ⟨key, rfl, by intros; simp, fun i y py spos h1 h2 _ => sl_plain o key (fun _ _ => rfl) i y py spos h1 h2⟩
  | _ => simp [chkL] at h
theorem s_rep {a b : IE} (ha : SE k W a) (hb : SE k W b) : SL k W (.rep a b) := by
  intro S WX X o x h
  cases x with
  | BinOp y op z p =>
    simp only [chkL, Bool.and_eq_true, decide_eq_true_eq] at h
    obtain ⟨⟨h1, h2⟩, h3⟩ := h
    subst h1
    have hline := line_eq
    have key : PE X (.BinOp y .Mult z p) (tL W WX (evL (Fc S k) (.rep a b))) := by
      refine PE_imp (s_two o op_rep (ha S WX X o _ h2).1 (hb S WX X o _ h3).1 (f := fun cs2 x y => match view cs2 x, y with
        | .lst xs, .int k => if inR k ∧ xs.length * k.toNat ≤ line then .ok (List.replicate k.toNat xs).flatten cs2 else .bad
        | _, _ => .bad) ?_ ?_) fun σ H Q hq => by
          obtain ⟨A, env, cs, hE, hS, hF⟩ := hq
          simp only [evL] at hF
          exact ⟨A, env, cs, hE, hS, hF⟩
      · intro A H cs v u d e Q S r1 r2 hf
        split at hf
        · rename_i xs j hx
          split at hf
          · rename_i hl
            have r1 := r1.view S
            rw [hx] at r1
            obtain ⟨a1, vs, e1, s1, q1⟩ := r1
            obtain ⟨l1, l2⟩ := hl
            exact ⟨a1, j, vs, e1, r2.val, s1, by unfold inR at l1; omega, by unfold inR at l1; omega, by rw [q1.length, ← hline]; exact l2, fun p hp => finL_new S (q1.rep _) hf hp⟩
          · exact hf.elim
        · exact hf.elim
      · intro cs d e c fs cs' hh
        split at hh
        · split at hh <;> cases hh
        · cases hh
    exact ⟨key, rfl, by intros; simp, fun i y py spos h1 h2 _ => sl_plain o key (fun _ _ => rfl) i y py spos h1 h2⟩
  | _ => simp [chkL] at h
theorem s_of {e : IE} (he : SE k W e) : SL k W (.of e) := by
  intro S WX X o x h
  cases x with
  | Call fn as ks p =>
    match fn, as, ks, h with
    | .Name n p2, [y], [], h =>
      simp only [chkL, Bool.and_eq_true, decide_eq_true_eq] at h
      obtain ⟨⟨⟨h1, h2⟩, h3⟩, h4⟩ := h
      subst h1
      obtain ⟨g, d⟩ := gl_of (X := X) h2 o.hsc
      obtain ⟨d1, d2, d3⟩ := dunder_ne d
      have q1 := (he S WX X o _ h4).1
      have key : PE X (.Call (.Name "list" p2) [y] [] p) (tL W WX (evL (Fc S k) (.of e))) := by
        refine PE_imp (pe_callTy call_list_of g (o.none lst_mem) boot_lst (pa_cons q1 pa_nil (star_of [] X.env h3)) d3 d1 (star_of [] X.env h3) rfl) fun σ H Q hq => ?_
        obtain ⟨A, env, cs, hE, hS, hF⟩ := hq
        simp only [evL] at hF
        refine ⟨A, env, cs, hE, hS, ?_⟩
        cases h1 : evE (Fc S k) e env cs with
        | bad => rw [h1] at hF; exact hF.elim
        | exc c fs cs1 => rw [h1] at hF; exact hF
        | ok d cs1 =>
          rw [h1] at hF
          have hF : FinL W WX A σ H Q (optR (seqV (view cs1 d)) cs1) := hF
          intro A1 H1 v e1 s1 r1
          cases h2 : seqV (view cs1 d) with
          | none => rw [h2] at hF; exact hF.elim
          | some ds =>
            rw [h2] at hF
            have r2 := r1.view s1
            have go : ∀ {a : Addr} {vs : List V}, RepL W A1 H1 vs ds → ∀ l, H1 l = none → Q (.ref l) (upd H1 l (.lst vs)) := fun {a vs} r l hl =>
              hF l (e1.none s1 hl) (A1.add l) _ vs (e1.add.trans (.new hl)) (s1.busied hl) ((r.busy hl).mono (.new hl)) upd_same
            unfold seqV at h2
            split at h2
            · cases h2
              rename_i hv
              rw [hv] at r2
              obtain ⟨a, vs, ev, s2, r3⟩ := r2
              exact ⟨a, vs, by rw [ev], .inl (SqL.of s2), go (a := a) r3⟩
            · cases h2
              rename_i hv
              rw [hv] at r2
              obtain ⟨a, vs, ev, s2, r3⟩ := r2
              exact ⟨a, vs, by rw [ev], .inl (by rw [o.hK]; exact s2), go (a := a) r3⟩
            · cases h2
              rename_i hv
              rw [hv] at r2
              obtain ⟨a, vs, ev, s2, r3, _⟩ := r2
              exact ⟨a, vs, by rw [ev], .inr (by rw [o.hK]; exact s2), go (a := a) r3⟩
            · cases h2
      exact ⟨key, rfl, by intros; simp, fun i y py spos h1 h2 _ => sl_plain o key (fun _ _ => rfl) i y py spos h1 h2⟩
    | .Name _ _, [], _, h => simp [chkL] at h
    | .Name _ _, _ :: _ :: _, _, h => simp [chkL] at h
    | .Name _ _, [_], _ :: _, h => simp [chkL] at h
    | .BoolOp .., _, _, h => simp [chkL] at h
    | .NamedExpr .., _, _, h => simp [chkL] at h
    | .BinOp .., _, _, h => simp [chkL] at h
    | .UnaryOp .., _, _, h => simp [chkL] at h
    | .Lambda .., _, _, h => simp [chkL] at h
    | .IfExp .., _, _, h => simp [chkL] at h
    | .Dict .., _, _, h => simp [chkL] at h
    | .Set .., _, _, h => simp [chkL] at h
    | .ListComp .., _, _, h => simp [chkL] at h
    | .SetComp .., _, _, h => simp [chkL] at h
    | .DictComp .., _, _, h => simp [chkL] at h
    | .GeneratorExp .., _, _, h => simp [chkL] at h
    | .Await .., _, _, h => simp [chkL] at h
    | .Yield .., _, _, h => simp [chkL] at h
    | .YieldFrom .., _, _, h => simp [chkL] at h
    | .Compare .., _, _, h => simp [chkL] at h
    | .Call .., _, _, h => simp [chkL] at h
    | .FormattedValue .., _, _, h => simp [chkL] at h
    | .JoinedStr .., _, _, h => simp [chkL] at h
    | .Constant .., _, _, h => simp [chkL] at h
    | .Attribute .., _, _, h => simp [chkL] at h
    | .Subscript .., _, _, h => simp [chkL] at h
    | .Starred .., _, _, h => simp [chkL] at h
    | .List .., _, _, h => simp [chkL] at h
    | .Tuple .., _, _, h => simp [chkL] at h
    | .Slice .., _, _, h => simp [chkL] at h
  | _ => simp [chkL] at h
theorem s_comp {own : List Nat} {tg : Tg} {it : IT} {c : IO} {elt : IE} (hi : ST k W it) (hc : SC k W c) (he : SE k W elt) : SL k W (.comp own tg it c elt) := by
  intro S WX X o x h
  cases x with
  | ListComp el gs scope p =>
    match gs, h with
    | [⟨t, i, ifs, z⟩], h =>
      simp only [chkL, Bool.and_eq_true, decide_eq_true_eq] at h
      obtain ⟨⟨⟨⟨⟨⟨⟨⟨h1, h2⟩, h3⟩, h4⟩, h5⟩, h6⟩, h7⟩, h8⟩, htg⟩ := h
      subst h1
      have ok : BlkOk X.N X.env.scope scope (ownP S.N own) := by
        rw [o.hN, o.hsc]
        exact blkOk_by h2
      have hown : (ownP S.N own).map (·.2) = own := by
        unfold ownP
        rw [List.map_map]
        exact List.map_id' own
      have qi := hi S WX X o _ h4 h3 t htg
      have qg : ∀ (s : Shared) (H : Hp) (C : Addr) (cl : List (Str × Addr)) (fp : List Addr), PG (X.blk s H scope (compEnvC scope cl C X.env) fp) t (gOf X.K tg) := fun s H C cl fp => tg_ok (o.blk scope s H C cl fp) h5
      have qc : ∀ (s : Shared) (H : Hp) (C : Addr) (cl : List (Str × Addr)) (fp : List Addr), PTs (X.blk s H scope (compEnvC scope cl C X.env) fp) ifs (tG W WX0 EqB (evC (Fc S k) c)) := fun s H C cl fp => hc _ _ _ (o.blk scope s H C cl fp) _ h6
      have qe : ∀ (s : Shared) (H : Hp) (C : Addr) (cl : List (Str × Addr)) (fp : List Addr), PE (X.blk s H scope (compEnvC scope cl C X.env) fp) el (tG W WX0 (Rep W) (evE (Fc S k) elt)) := fun s H C cl fp => (he _ _ _ (o.blk scope s H C cl fp) _ h7).1
      have core := fun σ H Q (hq : tL W WX (evL (Fc S k) (.comp own tg it c elt)) σ H Q) => comp_core (tgOk_of o.hK h8) hq
      refine ⟨PE_imp (pe_lc o.calm o.nd qi ok qg qc qe (noset_of h3)) fun σ H Q hq => by rw [hown]; exact core σ H Q hq, rfl, by intros; simp, fun j y py spos h9 h10 hsw => ?_⟩
      refine PS_imp (ps_setLc o.calm o.nd h9 h10 hsw qi ok qg qc qe (noset_of h3)) fun D σ H hq => ?_
      have hq : tL W WX (evL (Fc S k) (.comp own tg it c elt)) σ H (fun x H1 => gName j x σ H1 D.nx) := hq
      show tLc _ _ _ _ _ σ H _
      rw [hown]
      exact core σ H _ hq
    | [], h => exact Bool.noConfusion (show false = true from h)
    | ⟨_, _, _, _⟩ :: _ :: _, h => exact Bool.noConfusion (show false = true from h)
  | _ => simp [chkL] at h
/-! ### keywords -/
theorem kw_names {pos : Pos} {env : PySem.Env} : ∀ kws : List Keyword, (backToKw pos (keywordEach kws env)).map (·.1) = kws.map (·.arg)
  | [] => rfl
  | ⟨nm, v, p⟩ :: r => by
    have ih := kw_names (pos := pos) (env := env) r
    unfold backToKw at ih ⊢
    simp only [keywordEach, List.map_cons, ih]
theorem kw_facts {pos : Pos} {env : PySem.Env} {kws : List Keyword} {ks : List Str} (h : kws.map (·.arg) = ks.map some) :
    (backToKw pos (keywordEach kws env)).all (·.1.isSome) = true ∧ (backToKw pos (keywordEach kws env)).filterMap (·.1) = ks ∧ (backToKw pos (keywordEach kws env)).any (·.1.isNone) = false := by
  have e := (kw_names (pos := pos) (env := env) kws).trans h
  generalize backToKw pos (keywordEach kws env) = l at e
  clear h
  induction ks generalizing l with
  | nil => cases l with
    | nil => exact ⟨rfl, rfl, rfl⟩
    | cons _ _ => cases e
  | cons x ks ih => cases l with
    | nil => cases e
    | cons y l =>
      simp only [List.map_cons, List.cons.injEq] at e
      obtain ⟨i1, i2, i3⟩ := ih l e.2
      obtain ⟨y1, y2⟩ := y
      have e1 : y1 = some x := e.1
      subst e1
      exact ⟨by simp only [List.all_cons, i1, Option.isSome_some, Bool.and_self], by simp only [List.filterMap_cons, i2], by simp only [List.any_cons, i3, Option.isNone_some, Bool.or_self]⟩
section
variable {X : Cx} {CX : CXT} {kk : Nat} {f : Addr} {fd : FuncData} {ps ks : List Str} {sp : Sp} {E : L2.St → XK} {x : Str} {p pos : Pos} {e : Expr} {es : List Expr} {kws : List Keyword} {t tk : TA} {g : List Value → List Value → List Value} {gV : List V → List V → List V}
theorem run_kw {pins : List (Addr × Obj)} {σ : L2.St} {H : Hp} {s : Shared} {Q : VK} {us ws : List Value} {vs zs : List V} (F : FnOk X.prog X.w X.K X.mg X.base CX kk f fd ps sp) (hr : Room kk X.A) (hb : KBinds X.K fd ps ks g gV) (hx : PassesAt CX X σ (E σ))
    (I : Inv X pins σ H s) (r1 : Vals vs us) (r2 : Vals zs ws) (h : sp (gV vs zs) H Q (E σ)) : wpAny (model X.prog X.w) X.A (call (.ref f) us (ks.zip ws)) (EP X pins σ Q) X.xe s := by
  have rr := hb.rel r1 r2
  refine wpAny_call (codeAny_mono (F.run X.A X.stack s H ⟨us, ks.zip ws⟩ (g us ws) (gV vs zs) Q (E σ) hr I.env0 (hb.to s us ws I.kIn (by rw [← rr.length]; exact F.len _ _ _ _ h)) rr h) fun res s' hq => ?_)
  match res, hq with
  | .error er, hq => exact hx pins H s er s' I hq
  | .ok (.ret u), hq => exact I.after hq
  | .ok .next, hq => exact hq.elim
  | .ok .brk, hq => exact hq.elim
  | .ok .cont, hq => exact hq.elim
theorem pe_kw1 (F : FnOk X.prog X.w X.K X.mg X.base CX kk f fd ps sp) (hr : Room kk X.A) (hg : Gl X x) (hm : X.mg x = some (.ref f)) (hk : PySem.W.keepIn X.K (.ref f) = true) (hb : KBinds X.K fd ps ks g gV) (hx : ∀ σ, PassesAt CX X σ (E σ))
    (ha : PA X (e :: es) t) (hkw : PK X kws tk) (hn : kws.map (·.arg) = ks.map some) (hdb : (x == ("__debug__" : Str)) = false) (he : starEach (e :: es) X.env = (false, eval e X.env) :: starEach es X.env) (hpl : (backTo pos (starEach (e :: es) X.env)).any (·.1) = false) :
    PE X (.Call (.Name x p) (e :: es) kws pos) (fun σ H Q => t σ H fun vs H1 => tk σ H1 fun zs H2 => sp (gV vs zs) H2 Q (E σ)) := by
  refine ⟨fun pins s σ H Q I h => wpAny_Call_Name_kw (ld_glob I hg hm ?_ hdb)⟩
  obtain ⟨k1, k2, k3⟩ := kw_facts (pos := pos) (env := X.env) hn
  refine PySem.W.callWith_KW (h₀ := X.base) I.ok.mod.kin hk k1 (thn (ha.run pos pins s σ H _ I h) fun us s1 ⟨vs, H1, I1, r1, q1⟩ => ?_) (by rw [hpl, k3]; rfl) he
  exact thn (hkw.run pos pins s1 σ H1 _ I1 q1) fun ws s2 ⟨zs, H2, I2, r2, q2⟩ => ⟨I2.kIn, by rw [k2]; exact run_kw F hr hb (hx σ) I2 r1 r2 q2⟩
theorem pe_kw0 (F : FnOk X.prog X.w X.K X.mg X.base CX kk f fd ps sp) (hr : Room kk X.A) (hg : Gl X x) (hm : X.mg x = some (.ref f)) (hk : PySem.W.keepIn X.K (.ref f) = true) (hb : KBinds X.K fd ps ks g gV) (hx : ∀ σ, PassesAt CX X σ (E σ))
    (hkw : PK X kws tk) (hn : kws.map (·.arg) = ks.map some) (hdb : (x == ("__debug__" : Str)) = false) :
    PE X (.Call (.Name x p) [] kws pos) (fun σ H Q => tk σ H fun zs H2 => sp (gV [] zs) H2 Q (E σ)) := by
  refine ⟨fun pins s σ H Q I h => wpAny_Call_Name_kw (ld_glob I hg hm ?_ hdb)⟩
  obtain ⟨k1, k2, k3⟩ := kw_facts (pos := pos) (env := X.env) hn
  refine PySem.W.callWith_KW0 (h₀ := X.base) I.ok.mod.kin hk k1 ?_ (by rw [k3]; rfl)
  exact thn (hkw.run pos pins s σ H _ I h) fun ws s2 ⟨zs, H2, I2, r2, q2⟩ => ⟨I2.kIn, by rw [k2]; exact run_kw (us := []) F hr hb (hx σ) I2 .nil r2 q2⟩
end
def SKs (k : Nat) (W : Wd) (es : IEs) : Prop := ∀ (S : Sc) (WX : L2.WX) (X : Cx), XOk S k W WX X → ∀ kws : List Keyword, chkEs S es (kws.map (·.value)) = true → PK X kws (tG W WX (RepL W) (evEs (Fc S k) es))
theorem s_knil : SKs k W .nil := by
  intro S WX X o kws h
  cases kws with
  | nil =>
    refine ⟨fun pos pins s σ H Q I hq => pk_nil.run pos pins s σ H Q I ?_⟩
    obtain ⟨A, env, cs, hE, hS, hF⟩ := hq
    exact hF A H [] .refl hS .nil
  | cons _ _ => simp [chkEs] at h
theorem s_kcons {e : IE} {es : IEs} (he : SE k W e) (hs : SKs k W es) : SKs k W (.cons e es) := by
  intro S WX X o kws h
  cases kws with
  | nil => simp [chkEs] at h
  | cons x kws =>
    obtain ⟨nm, y, kp⟩ := x
    simp only [List.map_cons, chkEs, Bool.and_eq_true] at h
    obtain ⟨⟨h1, h2⟩, h3⟩ := h
    have q := pk_cons (nm := nm) (kpos := kp) (he S WX X o _ h2).1 (hs S WX X o _ h3)
    refine ⟨fun pos pins s σ H Q I hq => q.run pos pins s σ H Q I ?_⟩
    obtain ⟨A, env, cs, hE, hS, hF⟩ := hq
    simp only [evEs] at hF
    refine ⟨A, env, cs, hE, hS, FinG.bind hF fun d cs1 _ A1 H1 v e1 s1 r1 f1 => ⟨A1, env, cs1, hE.mono e1, s1, FinG.bind f1 fun ds cs2 _ A2 H2 vs e2 s2 r2 f2 => ?_⟩⟩
    exact f2 A2 H2 (v :: vs) .refl s2 (.cons (r1.mono e2) r2)
theorem RepL.pick {A : Ad} {H : Hp} {vs : List V} {ds : List D} (r : RepL W A H vs ds) : ∀ {ord : List Nat} {as : List D}, pickD ds ord = some as → RepL W A H (ord.map fun i => vs.getD i .non) as
  | [], _, h => by cases h; exact .nil
  | i :: ord, as, h => by
    unfold pickD at h
    split at h
    · rename_i x xs h1 h2
      cases h
      obtain ⟨v, hv, rv⟩ := r.get h1
      refine .cons ?_ (r.pick h2)
      show Rep W A H (vs.getD i .non) x
      rw [List.getD_eq_getElem?_getD, hv]
      exact rv
    · cases h
theorem pick_end {S : Sc} {WX : L2.WX} {f n m : Nat} {ord : List Nat} {A : Ad} {σ : L2.St} {H : Hp} {Q : VK} {cs : Cs} {vs zs : List V} {ds es : List D} (hS : Sta W A H cs) (r1 : RepL W A H vs ds) (r2 : RepL W A H zs es)
    (hF : FinG W WX (Rep W) A σ H Q (if ds.length = n ∧ es.length = m then (match pickD (ds ++ es) ord with
      | some as => (Fc S k).fn f as cs
      | none => .bad) else .bad)) : spD W (callD S.G k f) (gK n m ord V.non vs zs) H Q (WE WX σ) := by
  by_cases hl : ds.length = n ∧ es.length = m
  · rw [if_pos hl] at hF
    cases hp : pickD (ds ++ es) ord with
    | none => rw [hp] at hF; exact hF.elim
    | some as =>
      rw [hp] at hF
      refine ⟨A, as, cs, ?_, hS, hF⟩
      unfold gK
      rw [if_pos (by rw [r1.length, r2.length]; exact hl)]
      exact (r1.append r2).pick hp
  · rw [if_neg hl] at hF
    exact hF.elim
theorem s_callK {f n m : Nat} {ord : List Nat} {es kw : IEs} (hs : SEs k W es) (hk : SKs k W kw) : SE k W (.callK f n m ord es kw) := by
  intro S WX X o x h
  cases x with
  | Call fn as ks p =>
    cases fn with
    | Name n2 p2 =>
      simp only [chkE, Bool.and_eq_true] at h
      obtain ⟨⟨⟨⟨h1, h2⟩, h3⟩, h4⟩, h5⟩ := h
      obtain ⟨g, d⟩ := gl_of (X := X) h2 o.hsc
      obtain ⟨d1, d2, d3⟩ := dunder_ne d
      cases hr : S.G.fns[f]? with
      | none => rw [hr] at h1; cases h1
      | some r =>
        rw [hr] at h1
        simp only [Bool.and_eq_true, decide_eq_true_eq, List.any_eq_true] at h1
        obtain ⟨e1, q, hq, ⟨⟨e2, e3⟩, e4⟩, e5⟩ := h1
        subst e1 e2 e4 e5
        obtain ⟨fa, fd, m1, m2, m3, m4, m5⟩ := o.g.fns f r hr
        have kb := m5 q hq
        have pk := hk S WX X o ks h4
        obtain ⟨q1, q2⟩ := hs S WX X o as h3
        cases as with
        | nil =>
          cases es with
          | cons _ _ => simp [chkEs] at h3
          | nil =>
            refine se_of o (PE_imp (pe_kw0 m4 o.room g m1 m2 kb (fun σ => passAt o.tk σ) pk e3 d1) fun σ H Q hq => ?_) rfl (by intros; simp)
            obtain ⟨A, env, cs, hE, hS, hF⟩ := hq
            simp only [evE, evEs, bind_ok] at hF
            exact ⟨A, env, cs, hE, hS, FinG.bind hF fun zs cs1 _ A1 H1 vs e1 s1 r1 f1 => pick_end (ds := []) s1 .nil r1 f1⟩
        | cons y ys =>
          rw [List.all_cons, Bool.and_eq_true] at q2
          have st := star_of (env := X.env) ys q2.1
          have hp : (backTo p (starEach (y :: ys) X.env)).any (·.1) = false := star_none (by rw [List.all_cons, q2.1, q2.2]; rfl)
          refine se_of o (PE_imp (pe_kw1 m4 o.room g m1 m2 kb (fun σ => passAt o.tk σ) q1 pk e3 d1 st hp) fun σ H Q hq => ?_) rfl (by intros; simp)
          obtain ⟨A, env, cs, hE, hS, hF⟩ := hq
          simp only [evE] at hF
          exact ⟨A, env, cs, hE, hS, FinG.bind hF fun ds cs1 _ A1 H1 vs e1 s1 r1 f1 => ⟨A1, env, cs1, hE.mono e1, s1, FinG.bind f1 fun zs cs2 _ A2 H2 ws e2 s2 r2 f2 => pick_end s2 (r1.mono e2) r2 f2⟩⟩
    | _ => simp [chkE] at h
  | _ => simp [chkE] at h
/-! ### what is walked -/
theorem s_seq {e : IE} (he : SE k W e) : ST k W (.seq e) := by
  intro S WX X o x h hp tg htg
  have h : chkE S e x = true := by
    cases x <;> first | exact h | (simp [chkT] at h; exact h)
  refine PI_imp (pi_seq o.hK (he S WX X o _ h).1) fun σ H Q hq => ?_
  obtain ⟨A, env, cs, hE, hS, hF⟩ := hq
  simp only [evT] at hF
  exact ⟨A, env, cs, hE, hS, hF⟩
theorem s_rng1 {a : IE} (ha : SE k W a) : ST k W (.rng1 a) := by
  intro S WX X o x h hp tg htg
  cases x with
  | Call fn as ks p =>
    match fn, as, ks, h with
    | .Name n p2, [y], [], h =>
      simp only [chkT, Bool.and_eq_true, decide_eq_true_eq] at h
      obtain ⟨⟨⟨h1, h2⟩, h3⟩, h4⟩ := h
      subst h1
      obtain ⟨g, d⟩ := gl_of (X := X) h2 o.hsc
      have q1 := (ha S WX X o _ h4).1
      refine PI_imp (pi_range1 g (o.none rng_mem) (pa_cons q1 pa_nil (star_of [] X.env h3)) (star_of [] X.env h3)) fun σ H R hq => ?_
      obtain ⟨A, env, cs, hE, hS, hF⟩ := hq
      simp only [evT] at hF
      refine ⟨A, env, cs, hE, hS, ?_⟩
      cases h1 : evE (Fc S k) a env cs with
      | bad => rw [h1] at hF; exact hF.elim
      | exc c fs cs1 => rw [h1] at hF; exact hF
      | ok d cs1 =>
        rw [h1] at hF
        intro A1 H1 v e1 s1 r1
        cases d with
        | int i =>
          simp only [bind_ok] at hF
          by_cases hi : inR i
          · rw [if_pos hi] at hF
            exact ⟨i, by rw [show v = _ from r1.val], hi.1, hi.2, hF A1 H1 _ e1 s1 (.rng 0 _)⟩
          · rw [if_neg hi] at hF; exact hF.elim
        | _ => exact hF.elim
    | .Name _ _, [], _, h => exact Bool.noConfusion (show false = true from h)
    | .Name _ _, _ :: _ :: _, _, h => exact Bool.noConfusion (show false = true from h)
    | .Name _ _, [_], _ :: _, h => exact Bool.noConfusion (show false = true from h)
    | .BoolOp .., _, _, h => exact Bool.noConfusion (show false = true from h)
    | .NamedExpr .., _, _, h => exact Bool.noConfusion (show false = true from h)
    | .BinOp .., _, _, h => exact Bool.noConfusion (show false = true from h)
    | .UnaryOp .., _, _, h => exact Bool.noConfusion (show false = true from h)
    | .Lambda .., _, _, h => exact Bool.noConfusion (show false = true from h)
    | .IfExp .., _, _, h => exact Bool.noConfusion (show false = true from h)
    | .Dict .., _, _, h => exact Bool.noConfusion (show false = true from h)
    | .Set .., _, _, h => exact Bool.noConfusion (show false = true from h)
    | .ListComp .., _, _, h => exact Bool.noConfusion (show false = true from h)
    | .SetComp .., _, _, h => exact Bool.noConfusion (show false = true from h)
    | .DictComp .., _, _, h => exact Bool.noConfusion (show false = true from h)
    | .GeneratorExp .., _, _, h => exact Bool.noConfusion (show false = true from h)
    | .Await .., _, _, h => exact Bool.noConfusion (show false = true from h)
    | .Yield .., _, _, h => exact Bool.noConfusion (show false = true from h)
    | .YieldFrom .., _, _, h => exact Bool.noConfusion (show false = true from h)
    | .Compare .., _, _, h => exact Bool.noConfusion (show false = true from h)
    | .Call .., _, _, h => exact Bool.noConfusion (show false = true from h)
    | .FormattedValue .., _, _, h => exact Bool.noConfusion (show false = true from h)
    | .JoinedStr .., _, _, h => exact Bool.noConfusion (show false = true from h)
    | .Constant .., _, _, h => exact Bool.noConfusion (show false = true from h)
    | .Attribute .., _, _, h => exact Bool.noConfusion (show false = true from h)
    | .Subscript .., _, _, h => exact Bool.noConfusion (show false = true from h)
    | .Starred .., _, _, h => exact Bool.noConfusion (show false = true from h)
    | .List .., _, _, h => exact Bool.noConfusion (show false = true from h)
    | .Tuple .., _, _, h => exact Bool.noConfusion (show false = true from h)
    | .Slice .., _, _, h => exact Bool.noConfusion (show false = true from h)
  | _ => exact Bool.noConfusion (show false = true from h)
theorem s_rng2 {a b : IE} (ha : SE k W a) (hb : SE k W b) : ST k W (.rng2 a b) := by
  intro S WX X o x h hp tg htg
  cases x with
  | Call fn as ks p =>
    match fn, as, ks, h with
    | .Name n p2, [y, z], [], h =>
      simp only [chkT, Bool.and_eq_true, decide_eq_true_eq] at h
      obtain ⟨⟨⟨⟨⟨h1, h2⟩, h3⟩, h4⟩, h5⟩, h6⟩ := h
      subst h1
      obtain ⟨g, d⟩ := gl_of (X := X) h2 o.hsc
      have q1 := (ha S WX X o _ h5).1
      have q2 := (hb S WX X o _ h6).1
      have st2 := star_of [] X.env h4
      have st1 : starEach [y, z] X.env = [(false, eval y X.env), (false, eval z X.env)] := by rw [star_of [z] X.env h3, st2]; rfl
      refine PI_imp (pi_range2 g (o.none rng_mem) (pa_cons q1 (pa_cons q2 pa_nil st2) (star_of [z] X.env h3)) st1 st2) fun σ H R hq => ?_
      obtain ⟨A, env, cs, hE, hS, hF⟩ := hq
      simp only [evT] at hF
      refine ⟨A, env, cs, hE, hS, ?_⟩
      cases h1 : evE (Fc S k) a env cs with
      | bad => rw [h1] at hF; exact hF.elim
      | exc c fs cs1 => rw [h1] at hF; exact hF
      | ok d cs1 =>
        rw [h1] at hF
        intro A1 H1 v e1 s1 r1
        refine ⟨A1, env, cs1, hE.mono e1, s1, ?_⟩
        cases h2 : evE (Fc S k) b env cs1 with
        | bad => simp only [bind_ok, h2] at hF; exact hF.elim
        | exc c fs cs2 => simp only [bind_ok, h2] at hF; exact ExcW.mono e1 hF
        | ok d2 cs2 =>
          simp only [bind_ok, h2] at hF
          intro A2 H2 u e2 s2 r2
          cases d with
          | int i =>
            cases d2 with
            | int j =>
              by_cases hi : inR i ∧ inR j
              · simp only [if_pos hi] at hF
                exact ⟨i, j, by rw [show v = _ from r1.val, show u = _ from r2.val], ⟨hi.1.1, hi.1.2, hi.2.1, hi.2.2⟩, hF A2 H2 _ (e1.trans e2) s2 (.rng i _)⟩
              · simp only [if_neg hi] at hF; exact hF.elim
            | _ => exact hF.elim
          | _ => exact hF.elim
    | .Name _ _, [], _, h => exact Bool.noConfusion (show false = true from h)
    | .Name _ _, [_], _, h => exact Bool.noConfusion (show false = true from h)
    | .Name _ _, _ :: _ :: _ :: _, _, h => exact Bool.noConfusion (show false = true from h)
    | .Name _ _, [_, _], _ :: _, h => exact Bool.noConfusion (show false = true from h)
    | .BoolOp .., _, _, h => exact Bool.noConfusion (show false = true from h)
    | .NamedExpr .., _, _, h => exact Bool.noConfusion (show false = true from h)
    | .BinOp .., _, _, h => exact Bool.noConfusion (show false = true from h)
    | .UnaryOp .., _, _, h => exact Bool.noConfusion (show false = true from h)
    | .Lambda .., _, _, h => exact Bool.noConfusion (show false = true from h)
    | .IfExp .., _, _, h => exact Bool.noConfusion (show false = true from h)
    | .Dict .., _, _, h => exact Bool.noConfusion (show false = true from h)
    | .Set .., _, _, h => exact Bool.noConfusion (show false = true from h)
    | .ListComp .., _, _, h => exact Bool.noConfusion (show false = true from h)
    | .SetComp .., _, _, h => exact Bool.noConfusion (show false = true from h)
    | .DictComp .., _, _, h => exact Bool.noConfusion (show false = true from h)
    | .GeneratorExp .., _, _, h => exact Bool.noConfusion (show false = true from h)
    | .Await .., _, _, h => exact Bool.noConfusion (show false = true from h)
    | .Yield .., _, _, h => exact Bool.noConfusion (show false = true from h)
    | .YieldFrom .., _, _, h => exact Bool.noConfusion (show false = true from h)
    | .Compare .., _, _, h => exact Bool.noConfusion (show false = true from h)
    | .Call .., _, _, h => exact Bool.noConfusion (show false = true from h)
    | .FormattedValue .., _, _, h => exact Bool.noConfusion (show false = true from h)
    | .JoinedStr .., _, _, h => exact Bool.noConfusion (show false = true from h)
    | .Constant .., _, _, h => exact Bool.noConfusion (show false = true from h)
    | .Attribute .., _, _, h => exact Bool.noConfusion (show false = true from h)
    | .Subscript .., _, _, h => exact Bool.noConfusion (show false = true from h)
    | .Starred .., _, _, h => exact Bool.noConfusion (show false = true from h)
    | .List .., _, _, h => exact Bool.noConfusion (show false = true from h)
    | .Tuple .., _, _, h => exact Bool.noConfusion (show false = true from h)
    | .Slice .., _, _, h => exact Bool.noConfusion (show false = true from h)
  | _ => exact Bool.noConfusion (show false = true from h)
theorem zip_mem : ("zip" : Str) ∈ bltNames := by decide +kernel
theorem s_zip {a b : IE} (ha : SE k W a) (hb : SE k W b) : ST k W (.zip a b) := by
  intro S WX X o x h hp tg htg
  cases x with
  | Call fn as ks p =>
    match fn, as, ks, h with
    | .Name n p2, [y, z], [], h =>
      simp only [chkT, Bool.and_eq_true, decide_eq_true_eq] at h
      obtain ⟨⟨⟨⟨⟨h1, h2⟩, h3⟩, h4⟩, h5⟩, h6⟩ := h
      subst h1
      obtain ⟨g, d⟩ := gl_of (X := X) h2 o.hsc
      have q1 := (ha S WX X o _ h5).1
      have q2 := (hb S WX X o _ h6).1
      have st2 := star_of [] X.env h4
      have st1 : starEach [y, z] X.env = (false, eval y X.env) :: starEach [z] X.env := star_of [z] X.env h3
      have st3 : (backTo p (starEach [z] X.env)).any (·.1) = false := by rw [st2]; rfl
      cases tg with
      | Tuple elts kk tpos =>
        refine PI_imp (RZ.pi_zipA g (o.none zip_mem) (pa_cons q1 (pa_cons q2 pa_nil st2) st1) st1 st3) fun σ H R hq => ?_
        obtain ⟨A, env, cs, hE, hS, hF⟩ := hq
        simp only [evT] at hF
        refine ⟨A, env, cs, hE, hS, ?_⟩
        cases h1 : evE (Fc S k) a env cs with
        | bad => rw [h1] at hF; exact hF.elim
        | exc c fs cs1 => rw [h1] at hF; exact hF
        | ok d cs1 =>
          rw [h1] at hF
          intro A1 H1 v e1 s1 r1
          refine ⟨A1, env, cs1, hE.mono e1, s1, ?_⟩
          cases h2 : evE (Fc S k) b env cs1 with
          | bad => simp only [bind_ok, h2] at hF; exact hF.elim
          | exc c fs cs2 => simp only [bind_ok, h2] at hF; exact ExcW.mono e1 hF
          | ok d2 cs2 =>
            simp only [bind_ok, h2] at hF
            intro A2 H2 u e2 s2 r2
            have r1 := r1.mono e2
            have lists : ∀ xs ys, IsLs d xs → IsLs d2 ys → zipD d d2 = some (List.zipWith (fun a b => .tup [a, b]) xs ys) → ∃ (a b : Addr) (vs ws : List V), [v, u] = [.ref a, .ref b] ∧ ((SqL X.K H2 a vs ∧ SqL X.K H2 b ws ∧ R (Itz X.K a b) H2) ∨ (SqT X.K H2 a vs ∧ SqT X.K H2 b ws ∧ R (RZ.ItzT X.K a b) H2)) := fun xs ys i1 i2 ez => by
              rw [ez] at hF
              obtain ⟨a1, vs, ev, sv, rv⟩ := rep_ls o.hK i1 r1
              obtain ⟨b1, ws, eu, su, ru⟩ := rep_ls o.hK i2 r2
              subst ev eu
              exact ⟨a1, b1, vs, ws, rfl, .inl ⟨sv, su, hF A2 H2 _ (e1.trans e2) s2 (.zipL o.hK i1 i2 r1 r2)⟩⟩
            cases d with
            | tup xs =>
              cases d2 with
              | tup ys =>
                obtain ⟨a1, vs, ev, sv, rv, _⟩ := r1.val
                obtain ⟨b1, ws, eu, su, ru, _⟩ := r2.val
                subst ev eu
                rw [← o.hK] at sv su
                exact ⟨a1, b1, vs, ws, rfl, .inr ⟨sv, su, hF A2 H2 _ (e1.trans e2) s2 (.zipT o.hK r1 r2)⟩⟩
              | _ => exact hF.elim
            | lst xs =>
              cases d2 with
              | lst ys => exact lists xs ys rfl rfl rfl
              | frz ys => exact lists xs ys rfl rfl rfl
              | _ => exact hF.elim
            | frz xs =>
              cases d2 with
              | lst ys => exact lists xs ys rfl rfl rfl
              | frz ys => exact lists xs ys rfl rfl rfl
              | _ => exact hF.elim
            | _ => exact hF.elim
      | _ => exact Bool.noConfusion (show false = true from htg)
    | .Name _ _, [], _, h => exact Bool.noConfusion (show false = true from h)
    | .Name _ _, [_], _, h => exact Bool.noConfusion (show false = true from h)
    | .Name _ _, _ :: _ :: _ :: _, _, h => exact Bool.noConfusion (show false = true from h)
    | .Name _ _, [_, _], _ :: _, h => exact Bool.noConfusion (show false = true from h)
    | .BoolOp .., _, _, h => exact Bool.noConfusion (show false = true from h)
    | .NamedExpr .., _, _, h => exact Bool.noConfusion (show false = true from h)
    | .BinOp .., _, _, h => exact Bool.noConfusion (show false = true from h)
    | .UnaryOp .., _, _, h => exact Bool.noConfusion (show false = true from h)
    | .Lambda .., _, _, h => exact Bool.noConfusion (show false = true from h)
    | .IfExp .., _, _, h => exact Bool.noConfusion (show false = true from h)
    | .Dict .., _, _, h => exact Bool.noConfusion (show false = true from h)
    | .Set .., _, _, h => exact Bool.noConfusion (show false = true from h)
    | .ListComp .., _, _, h => exact Bool.noConfusion (show false = true from h)
    | .SetComp .., _, _, h => exact Bool.noConfusion (show false = true from h)
    | .DictComp .., _, _, h => exact Bool.noConfusion (show false = true from h)
    | .GeneratorExp .., _, _, h => exact Bool.noConfusion (show false = true from h)
    | .Await .., _, _, h => exact Bool.noConfusion (show false = true from h)
    | .Yield .., _, _, h => exact Bool.noConfusion (show false = true from h)
    | .YieldFrom .., _, _, h => exact Bool.noConfusion (show false = true from h)
    | .Compare .., _, _, h => exact Bool.noConfusion (show false = true from h)
    | .Call .., _, _, h => exact Bool.noConfusion (show false = true from h)
    | .FormattedValue .., _, _, h => exact Bool.noConfusion (show false = true from h)
    | .JoinedStr .., _, _, h => exact Bool.noConfusion (show false = true from h)
    | .Constant .., _, _, h => exact Bool.noConfusion (show false = true from h)
    | .Attribute .., _, _, h => exact Bool.noConfusion (show false = true from h)
    | .Subscript .., _, _, h => exact Bool.noConfusion (show false = true from h)
    | .Starred .., _, _, h => exact Bool.noConfusion (show false = true from h)
    | .List .., _, _, h => exact Bool.noConfusion (show false = true from h)
    | .Tuple .., _, _, h => exact Bool.noConfusion (show false = true from h)
    | .Slice .., _, _, h => exact Bool.noConfusion (show false = true from h)
  | _ => exact Bool.noConfusion (show false = true from h)
theorem s_rng3 {a b c : IE} (ha : SE k W a) (hb : SE k W b) (hc : SE k W c) : ST k W (.rng3 a b c) := by
  intro S WX X o x h hp tg htg
  cases x with
  | Call fn as ks p =>
    match fn, as, ks, h with
    | .Name n p2, [y, z, z2], [], h =>
      simp only [chkT, Bool.and_eq_true, decide_eq_true_eq] at h
      obtain ⟨⟨⟨⟨⟨⟨⟨h1, h2⟩, h3⟩, h4⟩, h5⟩, h6⟩, h7⟩, h8⟩ := h
      subst h1
      obtain ⟨g, d⟩ := gl_of (X := X) h2 o.hsc
      have q1 := (ha S WX X o _ h6).1
      have q2 := (hb S WX X o _ h7).1
      have q3 := (hc S WX X o _ h8).1
      refine PI_imp (pi_range3 g (o.none rng_mem) (pa_cons q1 (pa_cons q2 (pa_cons q3 pa_nil (star_of [] X.env h5)) (star_of [z2] X.env h4)) (star_of [z, z2] X.env h3)) (star_of [z, z2] X.env h3) (star_none (es := [z, z2]) (by rw [List.all_cons, List.all_cons, h4, h5]; rfl))) fun σ H R hq => ?_
      obtain ⟨A, env, cs, hE, hS, hF⟩ := hq
      simp only [evT] at hF
      refine ⟨A, env, cs, hE, hS, ?_⟩
      cases h1 : evE (Fc S k) a env cs with
      | bad => rw [h1] at hF; exact hF.elim
      | exc c fs cs1 => rw [h1] at hF; exact hF
      | ok d cs1 =>
        rw [h1] at hF
        intro A1 H1 v e1 s1 r1
        refine ⟨A1, env, cs1, hE.mono e1, s1, ?_⟩
        cases h2 : evE (Fc S k) b env cs1 with
        | bad => simp only [bind_ok, h2] at hF; exact hF.elim
        | exc c fs cs2 => simp only [bind_ok, h2] at hF; exact ExcW.mono e1 hF
        | ok d2 cs2 =>
          intro A2 H2 u e2 s2 r2
          refine ⟨A2, env, cs2, (hE.mono e1).mono e2, s2, ?_⟩
          cases h3 : evE (Fc S k) c env cs2 with
          | bad => simp only [bind_ok, h2, h3] at hF; exact hF.elim
          | exc c fs cs2 => simp only [bind_ok, h2, h3] at hF; exact ExcW.mono (e1.trans e2) hF
          | ok d3 cs3 =>
            simp only [bind_ok, h2, h3] at hF
            intro A3 H3 t e3 s3 r3
            cases d with
            | int i =>
              cases d2 with
              | int j =>
                cases d3 with
                | int l =>
                  by_cases hi : l ≠ 0 ∧ l.natAbs < 1073741824 ∧ PySem.Builtin.Range.small i j l = true ∧ 0 ≤ PySem.Builtin.Range.rangeSize i j l
                  · simp only [if_pos hi] at hF
                    exact ⟨i, j, l, _, by rw [show v = _ from r1.val, show u = _ from r2.val, show t = _ from r3.val], ⟨hi.1, hi.2.1, hi.2.2.1, (Int.toNat_of_nonneg hi.2.2.2).symm⟩, hF A3 H3 _ ((e1.trans e2).trans e3) s3 (.rng3 i l _)⟩
                  · simp only [if_neg hi] at hF; exact hF.elim
                | _ => exact hF.elim
              | _ => exact hF.elim
            | _ => exact hF.elim
    | .Name _ _, [], _, h => exact Bool.noConfusion (show false = true from h)
    | .Name _ _, [_], _, h => exact Bool.noConfusion (show false = true from h)
    | .Name _ _, [_, _], _, h => exact Bool.noConfusion (show false = true from h)
    | .Name _ _, _ :: _ :: _ :: _ :: _, _, h => exact Bool.noConfusion (show false = true from h)
    | .Name _ _, [_, _, _], _ :: _, h => exact Bool.noConfusion (show false = true from h)
    | .BoolOp .., _, _, h => exact Bool.noConfusion (show false = true from h)
    | .NamedExpr .., _, _, h => exact Bool.noConfusion (show false = true from h)
    | .BinOp .., _, _, h => exact Bool.noConfusion (show false = true from h)
    | .UnaryOp .., _, _, h => exact Bool.noConfusion (show false = true from h)
    | .Lambda .., _, _, h => exact Bool.noConfusion (show false = true from h)
    | .IfExp .., _, _, h => exact Bool.noConfusion (show false = true from h)
    | .Dict .., _, _, h => exact Bool.noConfusion (show false = true from h)
    | .Set .., _, _, h => exact Bool.noConfusion (show false = true from h)
    | .ListComp .., _, _, h => exact Bool.noConfusion (show false = true from h)
    | .SetComp .., _, _, h => exact Bool.noConfusion (show false = true from h)
    | .DictComp .., _, _, h => exact Bool.noConfusion (show false = true from h)
    | .GeneratorExp .., _, _, h => exact Bool.noConfusion (show false = true from h)
    | .Await .., _, _, h => exact Bool.noConfusion (show false = true from h)
    | .Yield .., _, _, h => exact Bool.noConfusion (show false = true from h)
    | .YieldFrom .., _, _, h => exact Bool.noConfusion (show false = true from h)
    | .Compare .., _, _, h => exact Bool.noConfusion (show false = true from h)
    | .Call .., _, _, h => exact Bool.noConfusion (show false = true from h)
    | .FormattedValue .., _, _, h => exact Bool.noConfusion (show false = true from h)
    | .JoinedStr .., _, _, h => exact Bool.noConfusion (show false = true from h)
    | .Constant .., _, _, h => exact Bool.noConfusion (show false = true from h)
    | .Attribute .., _, _, h => exact Bool.noConfusion (show false = true from h)
    | .Subscript .., _, _, h => exact Bool.noConfusion (show false = true from h)
    | .Starred .., _, _, h => exact Bool.noConfusion (show false = true from h)
    | .List .., _, _, h => exact Bool.noConfusion (show false = true from h)
    | .Tuple .., _, _, h => exact Bool.noConfusion (show false = true from h)
    | .Slice .., _, _, h => exact Bool.noConfusion (show false = true from h)
  | _ => exact Bool.noConfusion (show false = true from h)
theorem s_ofr {it : IT} : SL k W (.ofr it) := by
  intro S WX X o x h
  cases x <;> exact Bool.noConfusion (show false = true from h)
mutual
theorem sE : ∀ e : IE, SE k W e
  | .var i => s_var i
  | .lit d => s_lit d
  | .glb n => s_glb n
  | .bin _ a b => s_bin (sE a) (sE b)
  | .neg a => s_neg (sE a)
  | .not a => s_not (sE a)
  | .and a b => s_and (sE a) (sE b)
  | .or a b => s_or (sE a) (sE b)
  | .ite c a b => s_ite (sE c) (sE a) (sE b)
  | .cmp _ a b => s_cmp (sE a) (sE b)
  | .chn _ _ a b c => s_chn (sE a) (sE b) (sE c)
  | .tup es => s_tup (sEs es)
  | .call _ es => s_call (sEs es)
  | .callK _ _ _ _ es kw => s_callK (sEs es) (sKs kw)
  | .bi _ es => s_bi (sEs es)
  | .meth _ o es => s_meth (sE o) (sEs es)
  | .idx a i => s_idx (sE a) (sE i)
  | .cut a lo hi => s_cut (sE a) (sO lo).1 (sO hi).1
  | .attr a _ => s_attr (sE a)
  | .isin a _ => s_isin (sE a)
  | .new _ l => s_new (sL l)
theorem sEs : ∀ es : IEs, SEs k W es
  | .nil => s_nil
  | .cons e es => s_cons (sE e) (sEs es)
theorem sKs : ∀ es : IEs, SKs k W es
  | .nil => s_knil
  | .cons e es => s_kcons (sE e) (sKs es)
theorem sO : ∀ o : IO, SO k W o ∧ SC k W o
  | .no => s_no
  | .yes e => s_yes (sE e)
theorem sL : ∀ l : IL, SL k W l
  | .disp es => s_disp (sEs es)
  | .comp _ _ it c elt => s_comp (sT it) (sO c).2 (sE elt)
  | .cat a b => s_cat (sE a) (sE b)
  | .rep a b => s_rep (sE a) (sE b)
  | .of e => s_of (sE e)
  | .ofr _ => s_ofr
theorem sT : ∀ it : IT, ST k W it
  | .seq e => s_seq (sE e)
  | .rng1 a => s_rng1 (sE a)
  | .rng2 a b => s_rng2 (sE a) (sE b)
  | .rng3 a b c => s_rng3 (sE a) (sE b) (sE c)
  | .zip a b => s_zip (sE a) (sE b)
end
end
end DH
end
section
set_option Elab.async false
set_option linter.all false
set_option maxRecDepth 100000
set_option maxHeartbeats 4000000
/-! DH16: statements: the check, the meaning. -/
namespace DH
open PySem L2

def swapX : Expr → Bool
  | .ListComp _ _ _ _ => false
  | .SetComp _ _ _ _ => false
  | .DictComp _ _ _ _ _ => false
  | _ => true
def noTup : Expr → Bool
  | .Tuple _ _ _ => false
  | .List _ _ => false
  | _ => true
/-- is a comprehension stored at once -/
def swB (sc scope : Scope) (y : Str) (py pos : Pos) : Bool := (match sc.kind with
  | .function => true
  | _ => false) && decide (sc.names.lookup y = some .local) && decide (py.line = pos.line) && !(scope.names.any fun (n, k) => n == y && (k == .local || k == .cell))
def asgB (S : Sc) (tg : Tg) (t x : Expr) : Bool := match tg with
  | .var _ => (match x, t with
    | .ListComp _ _ scope pos, .Name y py => swB S.sc scope y py pos || noSwB S.sc scope y py pos
    | x, _ => swapX x)
  | .tup _ => swapX x && noTup x
where noSwB (sc scope : Scope) (y : Str) (py pos : Pos) : Bool := (match sc.kind with
  | .function => true
  | _ => false) && !(decide (sc.names.lookup y = some .local) && decide (py.line = pos.line) && !(scope.names.any fun (n, k) => n == y && (k == .local || k == .cell)))
def augB : Op2 → Bool
  | .add => true
  | .sub => true
  | _ => false
mutual
def chkS (S : Sc) : IS → Stmt → Bool
  | .never, _ => true
  | .thru b, .Try body (_ :: _) [] [] _ => chkSs S b body
  | .ret e, .Return (some x) _ => chkE S e x
  | .retN, .Return none _ => true
  | .drop e, .Expr x _ => chkE S e x && swapX x
  | .asg tg e, .Assign [t] x _ => tgB S tg t && chkE S e x && asgB S tg t x
  | .setI o i e, .Assign [.Subscript ox ix _] x _ => plainX ix && swapX x && chkE S o ox && chkE S i ix && chkE S e x
  | .aug i op e, .AugAssign (.Name n _) o x _ => decide (S.N[i]? = some n) && stoB S n && decide (o = opPy op) && chkE S e x && augB op
  | .augI o i op e, .AugAssign (.Subscript ox ix _) o' x _ => plainX ix && decide (o' = opPy op) && augB op && chkE S o ox && chkE S i ix && chkE S e x
  | .ife c a b, .If t x y _ => chkE S c t && chkSs S a x && chkSs S b y
  | .forS tg it b, .For t i body [] _ => tgB S tg t && plainX i && chkT S it i && chkSs S b body && tgFor it t
  | .whileS c b, .While t body [] _ => chkE S c t && chkSs S b body
  | .pass, .Pass _ => true
  | .brk, .Break _ => true
  | .cnt, .Continue _ => true
  | _, _ => false
def chkSs (S : Sc) : ISs → List Stmt → Bool
  | .nil, [] => true
  | .cons s ss, x :: xs => chkS S s x && chkSs S ss xs
  | _, _ => false
end
end DH
end
section
set_option Elab.async false
set_option linter.all false
set_option maxRecDepth 100000
set_option maxHeartbeats 4000000
/-! DH17: the soundness of statements. -/
namespace DH
open PySem L2

section
variable (W : Wd) (WX : L2.WX)
def FinO (A : Ad) (H : Hp) (D : Ends) : Out → Prop
  | .nx env' cs' => ∀ A' σ' H', Ext A H A' H' → Sta W A' H' cs' → REnv W A' H' σ' env' → D.nx σ' H'
  | .brk env' cs' => ∀ A' σ' H', Ext A H A' H' → Sta W A' H' cs' → REnv W A' H' σ' env' → D.bk σ' H'
  | .cnt env' cs' => ∀ A' σ' H', Ext A H A' H' → Sta W A' H' cs' → REnv W A' H' σ' env' → D.ct σ' H'
  | .ret d cs' => ∀ A' H' v, Ext A H A' H' → Sta W A' H' cs' → Rep W A' H' v d → D.rt v H'
  | .exc c fs env' cs' => ∀ A' σ' H' C dx vs, Ext A H A' H' → Sta W A' H' cs' → REnv W A' H' σ' env' → W.xc c = some C → H' dx = some (.xd vs) → A'.no dx → RepX W A' H' c vs fs → WX (.ref C) (some dx) σ' H'
  | .bad => False
def tO (m : DH.Env → Cs → Out) : TS := fun D σ H => ∃ A env cs, REnv W A H σ env ∧ Sta W A H cs ∧ FinO W WX A H D (m env cs)
end
section
variable {X : Cx} {W : Wd} {WX : L2.WX} {S : Sc} {k : Nat} {A A' A1 : Ad} {H H' H1 : Hp} {cs cs' cs1 : Cs} {α β : Type}
theorem FinO.mono {D : Ends} {o : Out} (e : Ext A H A1 H1) (h : FinO W WX A H D o) : FinO W WX A1 H1 D o := by
  cases o with
  | nx _ _ => exact fun A' σ' H' e' => h A' σ' H' (e.trans e')
  | brk _ _ => exact fun A' σ' H' e' => h A' σ' H' (e.trans e')
  | cnt _ _ => exact fun A' σ' H' e' => h A' σ' H' (e.trans e')
  | ret _ _ => exact fun A' H' v e' => h A' H' v (e.trans e')
  | exc _ _ _ _ => exact fun A' σ' H' C dx vs e' => h A' σ' H' C dx vs (e.trans e')
  | bad => exact h
theorem FinO.out {σ : L2.St} {env : DH.Env} {D : Ends} {R1 : Ad → Hp → β → α → Prop} {Q1 : β → Hp → Prop} {r : Res α} {f : α → Cs → Out} (hE : REnv W A H σ env) (h : FinO W WX A H D (r.out env f))
    (k : ∀ a cs1, r = .ok a cs1 → ∀ A1 H1 b, Ext A H A1 H1 → Sta W A1 H1 cs1 → R1 A1 H1 b a → FinO W WX A1 H1 D (f a cs1) → Q1 b H1) : FinG W WX R1 A σ H Q1 r := by
  cases r with
  | ok a cs1 => exact fun A1 H1 b e s r => k a cs1 rfl A1 H1 b e s r (FinO.mono e h)
  | exc c fs cs1 => exact fun A' H' C dx vs e s hc hx hn hr => h A' σ H' C dx vs e s (hE.mono e) hc hx hn hr
  | bad => exact h
theorem swapX_of {x : Expr} {t : Option Expr} {n : Nat} {env : PySem.Env} (h : swapX x = true) : swapsWith x t n env = pure false := by
  cases x <;> first | rfl | (cases h; done)
theorem swaps_gen {elt : Expr} {gs : List Comprehension} {scope : Scope} {pos py : Pos} {y : Str} {l : Nat} {env : PySem.Env} {b : Bool} (hk : env.scope.kind = .function)
    (hb : (decide (env.scope.names.lookup y = some .local) && decide (py.line = pos.line) && !(scope.names.any fun (n, k) => n == y && (k == .local || k == .cell))) = b) :
    swapsWith (.ListComp elt gs scope pos) (some (.Name y py)) l env = pure b := by
  have e0 : env.blockKind = .function := by unfold Env.blockKind; rw [hk]; rfl
  have e1 : (env.kindOf y == some NameKind.local) = decide (env.scope.names.lookup y = some .local) := by
    show (env.scope.names.lookup y == some NameKind.local) = _
    rw [Bool.eq_iff_iff]; simp
  have e2 : (py.line == (Expr.ListComp elt gs scope pos).pos.line) = decide (py.line = pos.line) := by
    show (py.line == pos.line) = _
    rw [Bool.eq_iff_iff]; simp
  unfold swapsWith
  simp only [e0, e1, e2]
  rw [← hb]
  rfl

/-- what is shown of a statement -/
def SS (k : Nat) (W : Wd) (s : IS) : Prop := ∀ (S : Sc) (WX : L2.WX) (X : Cx), XOk S k W WX X → ∀ x, chkS S s x = true → PS X x (tO W WX (exS (Fc S k) s))
def SSs (k : Nat) (W : Wd) (ss : ISs) : Prop := ∀ (S : Sc) (WX : L2.WX) (X : Cx), XOk S k W WX X → ∀ xs, chkSs S ss xs = true → PSs X xs (tO W WX (exSs (Fc S k) ss))
def tgAll : Tg → List Nat
  | .var i => [i]
  | .tup is => is
theorem tgAll_own (tg : Tg) : ownTg (tgAll tg) tg = true := by
  cases tg with
  | var i => simp [ownTg, tgAll]
  | tup is => simp [ownTg, tgAll]
/-- a store behind a value -/
theorem asg_end (hK : X.K = W.K) {tg : Tg} {σ : L2.St} {env : DH.Env} {En : Ends} {d : D} {v : V} (hE : REnv W A H σ env) (hS : Sta W A H cs) (r : Rep W A H v d) (h : FinO W WX A H En (match asgD tg d env with
    | some env' => .nx env' cs
    | none => .bad)) : gOf X.K tg v σ H En.nx := by
  cases ha : asgD tg d env with
  | none => rw [ha] at h; exact h.elim
  | some env' =>
    rw [ha] at h
    exact tgOk_of hK (tgAll_own tg) A H v d σ env env' _ hE r ha fun σ' hE' _ => h A σ' H .refl hS hE'
end

section
variable {k : Nat} {W : Wd}
theorem t_ret (e : IE) : SS k W (.ret e) := by
  intro S WX X o x h
  cases x with
  | Return v p =>
    cases v with
    | none => exact Bool.noConfusion (show false = true from h)
    | some y =>
      refine PS_imp (ps_ret (sE e S WX X o y h).1) fun D σ H hq => ?_
      obtain ⟨A, env, cs, hE, hS, hF⟩ := hq
      simp only [exS] at hF
      exact ⟨A, env, cs, hE, hS, FinO.out hE hF fun d cs1 _ A1 H1 v e1 s1 r1 f1 => f1 A1 H1 v .refl s1 r1⟩
  | _ => exact Bool.noConfusion (show false = true from h)
theorem t_retN : SS k W .retN := by
  intro S WX X o x h
  cases x with
  | Return v p =>
    cases v with
    | none =>
      refine PS_imp ps_retN fun D σ H hq => ?_
      obtain ⟨A, env, cs, hE, hS, hF⟩ := hq
      exact hF A H .non .refl hS .non
    | some y => exact Bool.noConfusion (show false = true from h)
  | _ => exact Bool.noConfusion (show false = true from h)
theorem t_never : SS k W .never := by
  intro S WX X o x h
  refine PS_imp ps_never fun D σ H hq => ?_
  obtain ⟨A, env, cs, hE, hS, hF⟩ := hq
  exact hF
theorem t_pass : SS k W .pass := by
  intro S WX X o x h
  cases x with
  | Pass p =>
    refine PS_imp ps_pass fun D σ H hq => ?_
    obtain ⟨A, env, cs, hE, hS, hF⟩ := hq
    exact hF A σ H .refl hS hE
  | _ => exact Bool.noConfusion (show false = true from h)
theorem t_brk : SS k W .brk := by
  intro S WX X o x h
  cases x with
  | Break p =>
    refine PS_imp ps_break fun D σ H hq => ?_
    obtain ⟨A, env, cs, hE, hS, hF⟩ := hq
    exact hF A σ H .refl hS hE
  | _ => exact Bool.noConfusion (show false = true from h)
theorem t_cnt : SS k W .cnt := by
  intro S WX X o x h
  cases x with
  | Continue p =>
    refine PS_imp ps_continue fun D σ H hq => ?_
    obtain ⟨A, env, cs, hE, hS, hF⟩ := hq
    exact hF A σ H .refl hS hE
  | _ => exact Bool.noConfusion (show false = true from h)
theorem t_drop (e : IE) : SS k W (.drop e) := by
  intro S WX X o x h
  cases x with
  | Expr y p =>
    simp only [chkS, Bool.and_eq_true] at h
    refine PS_imp (ps_expr (sE e S WX X o y h.1).1 (swapX_of h.2)) fun D σ H hq => ?_
    obtain ⟨A, env, cs, hE, hS, hF⟩ := hq
    simp only [exS] at hF
    exact ⟨A, env, cs, hE, hS, FinO.out hE hF fun d cs1 _ A1 H1 v e1 s1 r1 f1 => f1 A1 σ H1 .refl s1 (hE.mono e1)⟩
  | _ => exact Bool.noConfusion (show false = true from h)
theorem t_asg (tg : Tg) (e : IE) : SS k W (.asg tg e) := by
  intro S WX X o x h
  cases x with
  | Assign ts y p =>
    match ts, h with
    | [t], h =>
      simp only [chkS, Bool.and_eq_true] at h
      obtain ⟨⟨h1, h2⟩, h3⟩ := h
      have q1 := (sE e S WX X o y h2).1
      have fin : ∀ D σ H, tO W WX (exS (Fc S k) (.asg tg e)) D σ H → tAsg (tG W WX (Rep W) (evE (Fc S k) e)) (gOf X.K tg) D σ H := fun D σ H hq => by
        obtain ⟨A, env, cs, hE, hS, hF⟩ := hq
        simp only [exS] at hF
        exact ⟨A, env, cs, hE, hS, FinO.out hE hF fun d cs1 _ A1 H1 v e1 s1 r1 f1 => asg_end o.hK (hE.mono e1) s1 r1 f1⟩
      cases tg with
      | tup is =>
        simp only [asgB, Bool.and_eq_true] at h3
        obtain ⟨h4, h5⟩ := h3
        have hw : swappedStores [t] y X.env = pure none := by
          cases t <;> cases y <;> first | rfl | (cases h5; done)
        have hs : swapsWithSole [t] y p.line X.env = pure false := by
          show swapsWith y (some t) p.line X.env = pure false
          exact swapX_of h4
        have h1' : (assignEach [t] X.env).map (·.2) = [assign t X.env] := by
          cases t <;> first | rfl | (exact Bool.noConfusion (show false = true from h1))
        exact PS_imp (ps_asg q1 (tg_ok o h1) hs hw h1') fin
      | var i =>
        cases t with
        | Name n pn =>
          simp only [tgB, Bool.and_eq_true, decide_eq_true_eq] at h1
          obtain ⟨z1, z2⟩ := sto_of o h1.2
          have hi : X.N[i]? = some n := by rw [o.hN]; exact h1.1
          have plain : swapsWith y (some (.Name n pn)) p.line X.env = pure false → PS X (.Assign [.Name n pn] y p) (tO W WX (exS (Fc S k) (.asg (.var i) e))) := fun hs => PS_imp (ps_set o.nd hi z1 q1 hs z2) fin
          cases y with
          | ListComp el gs scope pos =>
            have kind : ∀ {b : Bool}, (match S.sc.kind with
              | .function => true
              | _ => false) = true → S.sc.kind = .function := fun {b} hh => by
              split at hh
              · assumption
              · cases hh
            have h3 : (swB S.sc scope n pn pos || asgB.noSwB S.sc scope n pn pos) = true := h3
            rw [Bool.or_eq_true] at h3
            rcases h3 with h3 | h3
            · unfold swB at h3
              simp only [Bool.and_eq_true] at h3
              obtain ⟨⟨⟨k1, k2⟩, k3⟩, k4⟩ := h3
              have hsw : swapsWith (.ListComp el gs scope pos) (some (.Name n pn)) p.line X.env = pure true := by
                refine swaps_gen (by rw [o.hsc]; exact kind (b := true) k1) ?_
                rw [o.hsc, k2, k3, k4]; rfl
              have hloc : X.env.scope.names.lookup n = some .local := by rw [o.hsc]; exact of_decide_eq_true k2
              cases e with
              | new mu l =>
                obtain ⟨_, _, _, q2⟩ := sL l S WX X o _ h2
                refine PS_imp (q2 i n pn p hi hloc hsw) fun D σ H hq => ?_
                refine new_val (mu := mu) (W := W) (WX := WX) (Q := fun x H1 => gName i x σ H1 D.nx) ?_
                have q3 := fin D σ H hq
                obtain ⟨A, env, cs, hE, hS, hF⟩ := q3
                simp only [evE] at hF
                exact ⟨A, env, cs, hE, hS, hF⟩
              | _ => exact Bool.noConfusion (show false = true from h2)
            · unfold asgB.noSwB at h3
              rw [Bool.and_eq_true] at h3
              obtain ⟨k1, k2⟩ := h3
              refine plain (swaps_gen (by rw [o.hsc]; exact kind (b := true) k1) ?_)
              rw [o.hsc]
              exact (Bool.not_eq_true' _).mp k2
          | SetComp _ _ _ _ => exact Bool.noConfusion (show false = true from h3)
          | DictComp _ _ _ _ _ => exact Bool.noConfusion (show false = true from h3)
          | _ => exact plain rfl
        | _ => exact Bool.noConfusion (show false = true from h1)
    | [], h => exact Bool.noConfusion (show false = true from h)
    | _ :: _ :: _, h => cases e <;> exact Bool.noConfusion (show false = true from h)
  | _ => exact Bool.noConfusion (show false = true from h)
end
end DH
end
section
set_option Elab.async false
set_option linter.all false
set_option maxRecDepth 100000
set_option maxHeartbeats 4000000
/-! DH18: the soundness of statements: stores, if, for, while; all joined. -/
namespace DH
open PySem L2

section
variable {X : Cx} {W : Wd} {WX : L2.WX} {S : Sc} {k : Nat}
theorem aug_ok {op : Op2} (h : augB op = true) : PIp X (opPy op) fun x y H Q => ∃ A cs d e z, Sta W A H cs ∧ Rep W A H x d ∧ Rep W A H y e ∧ augD op d e = some z ∧ ∀ A' H' v, Ext A H A' H' → Sta W A' H' cs → Rep W A' H' v z → Q v H' := by
  intro pins s σ H x y v u Q I rx ry hh
  obtain ⟨A, cs, d, e, z, S, rd, re, hf, q⟩ := hh
  have hline := line_eq
  unfold augD at hf
  split at hf
  · cases hf; cases (show x = _ from rd.val); cases (show y = _ from re.val)
    exact iop_add pins s σ H _ _ v u Q I rx ry ⟨_, _, rfl, rfl, Ends0 S q (.int _)⟩
  · split at hf
    · rename_i hl
      cases hf
      obtain ⟨e1, l1⟩ := (show x = _ ∧ _ from rd.val)
      obtain ⟨e2, l2⟩ := (show y = _ ∧ _ from re.val)
      subst e1 e2
      refine iop_add_str pins s σ H _ _ v u Q I rx ry ⟨_, _, rfl, rfl, by rw [str_len, str_len, ← hline]; exact hl, ?_⟩
      rw [str_add]
      exact Ends0 S q (.str _ (by rw [List.length_append]; exact hl))
    · cases hf
  · cases hf; cases (show x = _ from rd.val); cases (show y = _ from re.val)
    exact iop_sub pins s σ H _ _ v u Q I rx ry ⟨_, _, rfl, rfl, Ends0 S q (.int _)⟩
  · cases hf
theorem get_all (hu : X.A.units + 64 < cLine) : PGet X (dOp W idxG) := by
  intro pins s σ H x y v u Q I rx ry h
  obtain ⟨A, cs, d, e, z, S, rd, re, hf, q⟩ := h
  unfold idxG at hf
  split at hf
  · split at hf
    · rename_i xs i hi
      obtain ⟨a, vs, e1, s1, r1⟩ := rd
      cases (show y = _ from re)
      subst e1
      obtain rfl : v = Value.ref a := rx
      obtain ⟨t, rfl⟩ := (show ∃ t, u = Value.int i t from ry)
      obtain ⟨w, hw, rw'⟩ := r1.get hf
      obtain ⟨its, rv, pl, hz⟩ := I.list (SqL.of s1)
      obtain ⟨wv, h1, h2⟩ := rv.get hw
      have hlt := (List.getElem?_eq_some_iff.mp hw).1
      have h63 := line63
      exact wpAny_getItem_list pl.isList hi (by omega) (by simpa using h1) ⟨w, H, I, h2, Ends0 S q rw'⟩
    · cases hf
  · split at hf
    · rename_i hk
      obtain ⟨a, ks, e1, s1, r1⟩ := rd
      obtain ⟨key, e2, kr⟩ := key_of re hk
      subst e1 e2
      rcases r1.look kr with ⟨q1, q2⟩ | ⟨d', v', q1, q2, r'⟩
      · rw [q1] at hf; cases hf
      · rw [q1] at hf; cases hf
        obtain rfl : v = Value.ref a := rx
        have g : DGet H a (kV key) (some v') := q2 ▸ DGet.k s1
        exact d_getItem (by omega) I g ry fun w' s3 I3 rw' => ⟨v', H, I3, rw', Ends0 S q r'⟩
    · cases hf
  · cases hf
end
section
variable {k : Nat} {W : Wd}
theorem t_setI (oe ie e : IE) : SS k W (.setI oe ie e) := by
  intro S WX X o x h
  cases x with
  | Assign ts y p =>
    match ts, h with
    | [.Subscript ox ix p2], h =>
      simp only [chkS, Bool.and_eq_true] at h
      obtain ⟨⟨⟨⟨h1, h2⟩, h3⟩, h4⟩, h5⟩ := h
      have q1 := (sE e S WX X o y h5).1
      have q2 := (sE oe S WX X o ox h3).1
      have q3 := (sE ie S WX X o ix h4).1
      have hs : swapsWithSole [.Subscript ox ix p2] y p.line X.env = pure false := by
        show swapsWith y (some (.Subscript ox ix p2)) p.line X.env = pure false
        exact swapX_of h2
      have hw : swappedStores [.Subscript ox ix p2] y X.env = pure none := by
        cases y <;> rfl
      refine PS_imp (ps_asg q1 (pg_sub q2 q3 (set_all (X := X) (W := W) o.un) (by intro v; cases ix <;> first | rfl | (cases h1; done))) hs hw) fun En σ H hq => ?_
      obtain ⟨A, env, cs, hE, hS, hF⟩ := hq
      simp only [exS] at hF
      refine ⟨A, env, cs, hE, hS, FinO.out hE hF fun d cs1 _ A1 H1 v e1 s1 r1 f1 => ?_⟩
      refine ⟨A1, env, cs1, hE.mono e1, s1, FinO.out (hE.mono e1) f1 fun d2 cs2 _ A2 H2 v2 e2 s2 r2 f2 => ?_⟩
      have hE2 := (hE.mono e1).mono e2
      refine ⟨A2, env, cs2, hE2, s2, FinO.out hE2 f2 fun d3 cs3 _ A3 H3 v3 e3 s3 r3 f3 => ?_⟩
      cases hc : setC d2 d3 d cs3 with
      | none => rw [hc] at f3; exact f3.elim
      | some cs4 =>
        rw [hc] at f3
        exact ⟨A3, cs3, d2, d3, d, cs4, s3, r2.mono e3, r3, (r1.mono e2).mono e3, hc, fun A' H' e4 s4 => f3 A' σ H' e4 s4 ((hE2.mono e3).mono e4)⟩
    | [], h => exact Bool.noConfusion (show false = true from h)
    | t :: _ :: _, h => cases t <;> exact Bool.noConfusion (show false = true from h)
    | [.BoolOp ..], h => exact Bool.noConfusion (show false = true from h)
    | [.NamedExpr ..], h => exact Bool.noConfusion (show false = true from h)
    | [.BinOp ..], h => exact Bool.noConfusion (show false = true from h)
    | [.UnaryOp ..], h => exact Bool.noConfusion (show false = true from h)
    | [.Lambda ..], h => exact Bool.noConfusion (show false = true from h)
    | [.IfExp ..], h => exact Bool.noConfusion (show false = true from h)
    | [.Dict ..], h => exact Bool.noConfusion (show false = true from h)
    | [.Set ..], h => exact Bool.noConfusion (show false = true from h)
    | [.ListComp ..], h => exact Bool.noConfusion (show false = true from h)
    | [.SetComp ..], h => exact Bool.noConfusion (show false = true from h)
    | [.DictComp ..], h => exact Bool.noConfusion (show false = true from h)
    | [.GeneratorExp ..], h => exact Bool.noConfusion (show false = true from h)
    | [.Await ..], h => exact Bool.noConfusion (show false = true from h)
    | [.Yield ..], h => exact Bool.noConfusion (show false = true from h)
    | [.YieldFrom ..], h => exact Bool.noConfusion (show false = true from h)
    | [.Compare ..], h => exact Bool.noConfusion (show false = true from h)
    | [.Call ..], h => exact Bool.noConfusion (show false = true from h)
    | [.FormattedValue ..], h => exact Bool.noConfusion (show false = true from h)
    | [.JoinedStr ..], h => exact Bool.noConfusion (show false = true from h)
    | [.Constant ..], h => exact Bool.noConfusion (show false = true from h)
    | [.Attribute ..], h => exact Bool.noConfusion (show false = true from h)
    | [.Starred ..], h => exact Bool.noConfusion (show false = true from h)
    | [.Name ..], h => exact Bool.noConfusion (show false = true from h)
    | [.List ..], h => exact Bool.noConfusion (show false = true from h)
    | [.Tuple ..], h => exact Bool.noConfusion (show false = true from h)
    | [.Slice ..], h => exact Bool.noConfusion (show false = true from h)
  | _ => exact Bool.noConfusion (show false = true from h)
theorem t_aug (i : Nat) (op : Op2) (e : IE) : SS k W (.aug i op e) := by
  intro S WX X o x h
  cases x with
  | AugAssign t op' y p =>
    cases t with
    | Name n p2 =>
      simp only [chkS, Bool.and_eq_true, decide_eq_true_eq] at h
      obtain ⟨⟨⟨⟨h1, h2⟩, h3⟩, h4⟩, h5⟩ := h
      subst h3
      obtain ⟨z1, z2⟩ := sto_of o h2
      refine PS_imp (ps_aug o.nd (by rw [o.hN]; exact h1) z1 (sE e S WX X o y h4).1 (aug_ok (W := W) h5) z2) fun En σ H hq => ?_
      obtain ⟨A, env, cs, hE, hS, hF⟩ := hq
      simp only [exS] at hF
      split at hF
      · rename_i d hd
        obtain ⟨v, hv, r⟩ := hE.at_ i d hd
        refine ⟨v, hv, A, env, cs, hE, hS, FinO.out hE hF fun d2 cs1 _ A1 H1 v2 e1 s1 r1 f1 => ?_⟩
        cases hz : augD op d d2 with
        | none => rw [hz] at f1; exact f1.elim
        | some z =>
          rw [hz] at f1
          exact ⟨A1, cs1, d, d2, z, s1, r.mono e1, r1, hz, fun A' H' v3 e2 s2 r2 => f1 A' _ H' e2 s2 (((hE.mono e1).mono e2).set i r2)⟩
      · exact hF.elim
    | _ => exact Bool.noConfusion (show false = true from h)
  | _ => exact Bool.noConfusion (show false = true from h)
theorem t_augI (oe ie : IE) (op : Op2) (e : IE) : SS k W (.augI oe ie op e) := by
  intro S WX X o x h
  cases x with
  | AugAssign t op' y p =>
    cases t with
    | Subscript ox ix p2 =>
      simp only [chkS, Bool.and_eq_true, decide_eq_true_eq] at h
      obtain ⟨⟨⟨⟨⟨h1, h2⟩, h3⟩, h4⟩, h5⟩, h6⟩ := h
      subst h2
      refine PS_imp (ps_augS (sE oe S WX X o ox h4).1 (sE ie S WX X o ix h5).1 (get_all (W := W) o.un) (sE e S WX X o y h6).1 (aug_ok (W := W) h3) (set_all (W := W) o.un) (by intro ov iv nw; cases ix <;> first | rfl | (cases h1; done))) fun En σ H hq => ?_
      obtain ⟨A, env, cs, hE, hS, hF⟩ := hq
      simp only [exS] at hF
      refine ⟨A, env, cs, hE, hS, FinO.out hE hF fun d1 cs1 _ A1 H1 v1 e1 s1 r1 f1 => ?_⟩
      have hE1 := hE.mono e1
      refine ⟨A1, env, cs1, hE1, s1, FinO.out hE1 f1 fun d2 cs2 _ A2 H2 v2 e2 s2 r2 f2 => ?_⟩
      have hE2 := hE1.mono e2
      have r1' := r1.mono e2
      cases hg : idxG (view cs2 d1) d2 with
      | none => rw [hg] at f2; exact f2.elim
      | some z =>
        rw [hg] at f2
        refine ⟨A2, cs2, view cs2 d1, d2, z, s2, r1'.view s2, r2.val, hg, fun A3 H3 v3 e3 s3 r3 => ?_⟩
        have hE3 := hE2.mono e3
        refine ⟨A3, env, cs2, hE3, s3, FinO.out hE3 (f2.mono e3) fun d4 cs4 _ A4 H4 v4 e4 s4 r4 f4 => ?_⟩
        cases hz : augD op z d4 with
        | none => rw [hz] at f4; exact f4.elim
        | some z5 =>
          rw [hz] at f4
          refine ⟨A4, cs4, z, d4, z5, s4, r3.mono e4, r4, hz, fun A5 H5 v5 e5 s5 r5 => ?_⟩
          have f5 : FinO W WX A5 H5 En (match setC d1 d2 z5 cs4 with
            | some cs4 => .nx env cs4
            | none => .bad) := FinO.mono e5 f4
          cases hc : setC d1 d2 z5 cs4 with
          | none => rw [hc] at f5; exact f5.elim
          | some cs6 =>
            rw [hc] at f5
            exact ⟨A5, cs4, d1, d2, z5, cs6, s5, ((r1'.mono e3).mono e4).mono e5, ((r2.mono e3).mono e4).mono e5, r5, hc, fun A6 H6 e6 s6 => f5 A6 σ H6 e6 s6 (((hE3.mono e4).mono e5).mono e6)⟩
    | _ => exact Bool.noConfusion (show false = true from h)
  | _ => exact Bool.noConfusion (show false = true from h)
theorem t_ife (c : IE) {a b : ISs} (ha : SSs k W a) (hb : SSs k W b) : SS k W (.ife c a b) := by
  intro S WX X o x h
  cases x with
  | If t y z p =>
    simp only [chkS, Bool.and_eq_true] at h
    obtain ⟨⟨h1, h2⟩, h3⟩ := h
    refine PS_imp (ps_if (sE c S WX X o t h1).2.1 (ha S WX X o _ h2) (hb S WX X o _ h3)) fun En σ H hq => ?_
    obtain ⟨A, env, cs, hE, hS, hF⟩ := hq
    simp only [exS] at hF
    refine ⟨A, env, cs, hE, hS, FinO.out hE hF fun kk cs1 _ A1 H1 v e1 s1 r1 f1 => ?_⟩
    have r1 : v = kk := r1
    subst r1
    cases v with
    | true => exact ⟨A1, env, cs1, hE.mono e1, s1, f1⟩
    | false => exact ⟨A1, env, cs1, hE.mono e1, s1, f1⟩
  | _ => exact Bool.noConfusion (show false = true from h)
theorem t_for (tg : Tg) (it : IT) {b : ISs} (hb : SSs k W b) : SS k W (.forS tg it b) := by
  intro S WX X o x h
  cases x with
  | For t i body oe p =>
    cases oe with
    | cons _ _ => exact Bool.noConfusion (show false = true from h)
    | nil =>
      simp only [chkS, Bool.and_eq_true] at h
      obtain ⟨⟨⟨⟨h1, h2⟩, h3⟩, h4⟩, htg⟩ := h
      refine PS_imp (ps_for o.po o.calm (sT it S WX X o i h3 h2 t htg) (tg_ok o h1) (hb S WX X o _ h4) (noset_of h2)) fun En σ H hq => ?_
      obtain ⟨A, env, cs, hE, hS, hF⟩ := hq
      simp only [exS] at hF
      refine ⟨A, env, cs, hE, hS, ?_⟩
      cases hm : evT (Fc S k) it env cs with
      | bad => rw [hm] at hF; exact hF.elim
      | exc c fs cs1 => rw [hm] at hF; exact fun A' H' C dx vs e s hc hx hn hr => hF A' σ H' C dx vs e s (hE.mono e) hc hx hn hr
      | ok s cs1 =>
        rw [hm] at hF
        intro A1 H1 J e1 s1 it1
        generalize hf : (fun (d : D) (env : DH.Env) (cs2 : Cs) => match asgD tg d env with
          | some env' => exSs (Fc S k) b env' cs2
          | none => Out.bad) = f at hF
        have hF2 : FinO W WX A H En (forD s.same f s.items env cs1) := hF
        refine ⟨fun i m σ' H' => m = s.items.length - i ∧ i ≤ s.items.length ∧ ∃ A' env' cs', Ext A1 H1 A' H' ∧ Sta W A' H' cs' ∧ REnv W A' H' σ' env' ∧ FinO W WX A' H' En (forD s.same f (s.items.drop i) env' cs'),
          ⟨s.items.length, by simp, Nat.zero_le _, A1, env, cs1, .refl, s1, hE.mono e1, by rw [List.drop_zero]; exact hF2.mono e1⟩, ?_⟩
        rintro i m σ' H' ⟨rfl, hi, A', env', cs', e2, s2, hE2, hf2⟩
        have hsame : s.same cs' := by
          refine Classical.byContradiction fun hn => ?_
          cases hd : s.items.drop i with
          | nil => rw [hd] at hf2; simp only [forD, if_neg hn] at hf2; exact hf2
          | cons d ds => rw [hd] at hf2; simp only [forD, if_neg hn] at hf2; exact hf2
        obtain ⟨jst, jgo⟩ := it1 [] A' H' cs' (fun _ hb => by cases hb) e2 s2 hsame
        rcases Nat.lt_or_eq_of_le hi with hlt | heq
        · right
          obtain ⟨jg, jy⟩ := jgo i hlt
          refine ⟨jg, _, fun σ'' H'' q => ⟨s.items.length - (i + 1), by omega, q⟩, fun x H'' hy => ?_⟩
          obtain ⟨e3, s3, d, hd, rd⟩ := jy x H'' hy
          have hdrop : s.items.drop i = d :: s.items.drop (i + 1) := by
            obtain ⟨h5, h6⟩ := List.getElem?_eq_some_iff.mp hd
            rw [List.drop_eq_getElem_cons h5, h6]
          rw [hdrop] at hf2
          simp only [forD, if_pos hsame] at hf2
          have hf3 : FinO W WX A' H'' En _ := hf2.mono e3
          cases ha : asgD tg d env' with
          | none =>
            have : f d env' cs' = .bad := by rw [← hf]; simp only [ha]
            rw [this] at hf3
            exact hf3.elim
          | some env'' =>
            have hfd : f d env' cs' = exSs (Fc S k) b env'' cs' := by rw [← hf]; simp only [ha]
            rw [hfd] at hf3
            refine tgOk_of o.hK (tgAll_own tg) A' H'' x d σ' env' env'' _ (hE2.mono e3) rd ha fun σ2 hE3 _ => ⟨A', env'', cs', hE3, s3, ?_⟩
            cases hx : exSs (Fc S k) b env'' cs' with
            | nx e4 c4 => rw [hx] at hf3; exact fun A4 σ4 H4 e5 s5 r5 => ⟨rfl, hlt, A4, e4, c4, (e2.trans e3).trans e5, s5, r5, hf3.mono e5⟩
            | cnt e4 c4 => rw [hx] at hf3; exact fun A4 σ4 H4 e5 s5 r5 => ⟨rfl, hlt, A4, e4, c4, (e2.trans e3).trans e5, s5, r5, hf3.mono e5⟩
            | brk e4 c4 => rw [hx] at hf3; exact hf3
            | ret v c4 => rw [hx] at hf3; exact hf3
            | exc _ _ _ _ => rw [hx] at hf3; exact hf3
            | bad => rw [hx] at hf3; exact hf3
        · left
          subst heq
          rw [List.drop_length] at hf2
          simp only [forD, if_pos hsame] at hf2
          exact ⟨jst, hf2 A' σ' H' .refl s2 hE2⟩
  | _ => exact Bool.noConfusion (show false = true from h)
theorem t_while (c : IE) {b : ISs} (hb : SSs k W b) : SS k W (.whileS c b) := by
  intro S WX X o x h
  cases x with
  | While t body oe p =>
    cases oe with
    | cons _ _ => exact Bool.noConfusion (show false = true from h)
    | nil =>
      simp only [chkS, Bool.and_eq_true] at h
      obtain ⟨h1, h2⟩ := h
      refine PS_imp (ps_while o.po (sE c S WX X o t h1).2.1 (hb S WX X o _ h2)) fun En σ H hq => ?_
      obtain ⟨A, env, cs, hE, hS, hF⟩ := hq
      simp only [exS] at hF
      refine ⟨fun m σ' H' => ∃ A' env' cs', Sta W A' H' cs' ∧ REnv W A' H' σ' env' ∧ FinO W WX A' H' En (whileD (fun env cs => tstR (evE (Fc S k) c env cs)) (exSs (Fc S k) b) m env' cs'), ⟨_, A, env, cs, hS, hE, hF⟩, ?_⟩
      rintro m σ' H' ⟨A', env', cs', s2, hE2, hf2⟩
      cases m with
      | zero => exact hf2.elim
      | succ m =>
        simp only [whileD] at hf2
        refine ⟨A', env', cs', hE2, s2, FinO.out hE2 hf2 fun kk cs1 _ A1 H1 v e1 s1 r1 f1 => ?_⟩
        have r1 : v = kk := r1
        subst r1
        cases v with
        | false => exact f1 A1 σ' H1 .refl s1 (hE2.mono e1)
        | true =>
          rw [if_pos rfl] at f1 ⊢
          refine ⟨_, fun σ'' H'' q => ⟨m, Nat.lt_succ_self m, q⟩, A1, env', cs1, hE2.mono e1, s1, ?_⟩
          cases hx : exSs (Fc S k) b env' cs1 with
          | nx e4 c4 => rw [hx] at f1; exact fun A4 σ4 H4 e5 s5 r5 => ⟨A4, e4, c4, s5, r5, f1.mono e5⟩
          | cnt e4 c4 => rw [hx] at f1; exact fun A4 σ4 H4 e5 s5 r5 => ⟨A4, e4, c4, s5, r5, f1.mono e5⟩
          | brk e4 c4 => rw [hx] at f1; exact f1
          | ret v c4 => rw [hx] at f1; exact f1
          | exc _ _ _ _ => rw [hx] at f1; exact f1
          | bad => rw [hx] at f1; exact f1
  | _ => exact Bool.noConfusion (show false = true from h)
theorem XOk.nox {S : Sc} {WX : L2.WX} {X : Cx} (o : XOk S k W WX X) : XOk S k W WX0 X.nox where
  calm := o.calm
  hN := o.hN
  nd := o.nd
  hsc := o.hsc
  fb := o.fb
  room := o.room
  tk := takes0
  po := PassesOwn.never
  g := o.g
theorem t_thru {b : ISs} (hb : SSs k W b) : SS k W (.thru b) := by
  intro S WX X o x h
  cases x with
  | Try body hs oe fb p =>
    match hs, oe, fb, h with
    | h₀ :: hs, [], [], h =>
      have h : chkSs S b body = true := h
      refine PS_imp (ps_try_thru0 (hb S WX0 X.nox o.nox _ h)) fun En σ H hq => ?_
      obtain ⟨A, env, cs, hE, hS, hF⟩ := hq
      simp only [exS] at hF
      refine ⟨A, env, cs, hE, hS, ?_⟩
      cases hx : exSs (Fc S k) b env cs with
      | nx e4 c4 => rw [hx] at hF; exact hF
      | cnt e4 c4 => rw [hx] at hF; exact hF
      | brk e4 c4 => rw [hx] at hF; exact hF
      | ret v c4 => rw [hx] at hF; exact hF
      | exc _ _ _ _ => rw [hx] at hF; exact hF.elim
      | bad => rw [hx] at hF; exact hF
    | [], _, _, h => exact Bool.noConfusion (show false = true from h)
    | _ :: _, _ :: _, _, h => exact Bool.noConfusion (show false = true from h)
    | _ :: _, [], _ :: _, h => exact Bool.noConfusion (show false = true from h)
  | _ => exact Bool.noConfusion (show false = true from h)
theorem t_nil : SSs k W .nil := by
  intro S WX X o xs h
  cases xs with
  | nil =>
    refine ⟨fun pins s σ H En I hq => pss_nil.run pins s σ H En I ?_⟩
    obtain ⟨A, env, cs, hE, hS, hF⟩ := hq
    exact hF A σ H .refl hS hE
  | cons _ _ => exact Bool.noConfusion (show false = true from h)
theorem t_cons {s : IS} {ss : ISs} (hs : SS k W s) (ht : SSs k W ss) : SSs k W (.cons s ss) := by
  intro S WX X o xs h
  cases xs with
  | nil => exact Bool.noConfusion (show false = true from h)
  | cons x xs =>
    simp only [chkSs, Bool.and_eq_true] at h
    have q := pss_cons (hs S WX X o x h.1) (ht S WX X o xs h.2)
    refine ⟨fun pins s σ H En I hq => q.run pins s σ H En I ?_⟩
    obtain ⟨A, env, cs, hE, hS, hF⟩ := hq
    simp only [exSs] at hF
    refine ⟨A, env, cs, hE, hS, ?_⟩
    revert hF
    cases exS (Fc S k) _ env cs with
    | nx e4 c4 => exact fun hF A' σ' H' e1 s1 r1 => ⟨A', e4, c4, r1, s1, FinO.mono e1 hF⟩
    | cnt e4 c4 => exact fun hF => hF
    | brk e4 c4 => exact fun hF => hF
    | ret v c4 => exact fun hF => hF
    | exc _ _ _ _ => exact fun hF => hF
    | bad => exact fun hF => hF
end
end DH
end
section
set_option Elab.async false
set_option linter.all false
set_option maxRecDepth 100000
set_option maxHeartbeats 4000000
/-! DH19: a def keeps its plain meaning; all defs together, by the depth of calls. -/
namespace DH
open PySem L2

section
variable {k : Nat} {W : Wd}
mutual
theorem sS : ∀ s : IS, SS k W s
  | .never => t_never
  | .thru b => t_thru (sSs b)
  | .ret e => t_ret e
  | .retN => t_retN
  | .drop e => t_drop e
  | .asg tg e => t_asg tg e
  | .setI o i e => t_setI o i e
  | .setA o f e => fun S WX X o x h => by cases x <;> exact Bool.noConfusion (show false = true from h)
  | .aug i op e => t_aug i op e
  | .augI o i op e => t_augI o i op e
  | .ife c a b => t_ife c (sSs a) (sSs b)
  | .forS tg it b => t_for tg it (sSs b)
  | .whileS c b => t_while c (sSs b)
  | .raise c es => fun S WX X o x h => by cases x <;> exact Bool.noConfusion (show false = true from h)
  | .pass => t_pass
  | .brk => t_brk
  | .cnt => t_cnt
theorem sSs : ∀ ss : ISs, SSs k W ss
  | .nil => t_nil
  | .cons s ss => t_cons (sS s) (sSs ss)
end
end

section
variable {W : Wd} {A A' : Ad} {H H' : Hp} {cs cs' cs2 : Cs}
/-! ### freezing -/
mutual
theorem Rep.thaw {tab : Nat → Option D} (hn : ∀ a, A'.no a → A.no a) (ht : ∀ (i : Nat) (a : Addr) (d : D), A'.r[i]? = some a → tab i = some d → Rep W A H (.ref a) d) :
    ∀ {v : V} {d d' : D}, Rep W A' H v d → fz1 tab d = some d' → Rep W A H v d'
  | _, _, _, .non, h => by cases h; exact .non
  | _, _, _, .bl b, h => by cases h; exact .bl b
  | _, _, _, .int i, h => by cases h; exact .int i
  | _, _, _, .str s l, h => by cases h; exact .str s l
  | _, _, _, .tup n q r, h => by
    obtain ⟨xs, hx, e⟩ := Option.map_eq_some_iff.mp (show (fzs tab _).map D.tup = some _ from h)
    subst e; exact .tup (hn _ n) q (RepL.thaw hn ht r hx)
  | _, _, _, .tupK q r, h => by
    obtain ⟨xs, hx, e⟩ := Option.map_eq_some_iff.mp (show (fzs tab _).map D.tup = some _ from h)
    subst e; exact .tupK q (RepL.thaw hn ht r hx)
  | _, _, _, .lst n q r, h => by
    obtain ⟨xs, hx, e⟩ := Option.map_eq_some_iff.mp (show (fzs tab _).map D.lst = some _ from h)
    subst e; exact .lst (hn _ n) q (RepL.thaw hn ht r hx)
  | _, _, _, .frz n q r, h => by
    obtain ⟨xs, hx, e⟩ := Option.map_eq_some_iff.mp (show (fzs tab _).map D.frz = some _ from h)
    subst e; exact .frz (hn _ n) q (RepL.thaw hn ht r hx)
  | _, _, _, .frzK q r, h => by
    obtain ⟨xs, hx, e⟩ := Option.map_eq_some_iff.mp (show (fzs tab _).map D.frz = some _ from h)
    subst e; exact .frzK q (RepL.thaw hn ht r hx)
  | _, _, _, .dct n q r, h => by
    obtain ⟨xs, hx, e⟩ := Option.map_eq_some_iff.mp (show (fzk tab _).map D.dct = some _ from h)
    subst e; exact .dct (hn _ n) q (RepK.thaw hn ht r hx)
  | _, _, _, @Rep.ins _ _ _ a C dx vs c fs n cc q r, h => by
    obtain ⟨xs, hx, e⟩ := Option.map_eq_some_iff.mp (show (fzf tab _).map (D.ins c) = some _ from h)
    subst e; exact .ins (hn _ n) cc q (RepF.thaw hn ht r hx)
  | _, _, _, .ptr q, h => ht _ _ _ q h
theorem RepL.thaw {tab : Nat → Option D} (hn : ∀ a, A'.no a → A.no a) (ht : ∀ (i : Nat) (a : Addr) (d : D), A'.r[i]? = some a → tab i = some d → Rep W A H (.ref a) d) :
    ∀ {v : List V} {d d' : List D}, RepL W A' H v d → fzs tab d = some d' → RepL W A H v d'
  | _, _, _, .nil, h => by cases h; exact .nil
  | _, _, _, @RepL.cons _ _ _ v vs d ds r t, h => by
    unfold fzs at h
    cases e1 : fz1 tab d with
    | none => rw [e1] at h; cases h
    | some x =>
      cases e2 : fzs tab ds with
      | none => rw [e1, e2] at h; cases h
      | some xs =>
        rw [e1, e2] at h
        cases h
        exact .cons (Rep.thaw hn ht r e1) (RepL.thaw hn ht t e2)
theorem RepK.thaw {tab : Nat → Option D} (hn : ∀ a, A'.no a → A.no a) (ht : ∀ (i : Nat) (a : Addr) (d : D), A'.r[i]? = some a → tab i = some d → Rep W A H (.ref a) d) :
    ∀ {v : List (Key × V)} {d d' : List (D × D)}, RepK W A' H v d → fzk tab d = some d' → RepK W A H v d'
  | _, _, _, .nil, h => by cases h; exact .nil
  | _, _, _, @RepK.cons _ _ _ kk v vs e d ds kr r t, h => by
    unfold fzk at h
    cases e1 : fz1 tab d with
    | none => rw [e1] at h; cases h
    | some x =>
      cases e2 : fzk tab ds with
      | none => rw [e1, e2] at h; cases h
      | some xs =>
        rw [e1, e2] at h
        cases h
        exact .cons kr (Rep.thaw hn ht r e1) (RepK.thaw hn ht t e2)
theorem RepF.thaw {tab : Nat → Option D} (hn : ∀ a, A'.no a → A.no a) (ht : ∀ (i : Nat) (a : Addr) (d : D), A'.r[i]? = some a → tab i = some d → Rep W A H (.ref a) d) :
    ∀ {v : List (Str × V)} {d d' : List (Nat × D)}, RepF W A' H v d → fzf tab d = some d' → RepF W A H v d'
  | _, _, _, .nil, h => by cases h; exact .nil
  | _, _, _, @RepF.cons _ _ _ f v vs d ds r t, h => by
    unfold fzf at h
    cases e1 : fz1 tab d with
    | none => rw [e1] at h; cases h
    | some x =>
      cases e2 : fzf tab ds with
      | none => rw [e1, e2] at h; cases h
      | some xs =>
        rw [e1, e2] at h
        cases h
        exact .cons (Rep.thaw hn ht r e1) (RepF.thaw hn ht t e2)
end
def tabI (n : Nat) (i : Nat) : Option D := if i < n then some (.ptr i) else none
mutual
theorem fz_id {tab : Nat → Option D} (h : ∀ i d, tab i = some d → d = .ptr i) : ∀ {d d' : D}, fz1 tab d = some d' → d' = d
  | .non, _, e => by cases e; rfl
  | .bl _, _, e => by cases e; rfl
  | .int _, _, e => by cases e; rfl
  | .str _, _, e => by cases e; rfl
  | .ptr i, d', e => h i d' e
  | .tup xs, _, e => by
    obtain ⟨ys, hx, e⟩ := Option.map_eq_some_iff.mp (show (fzs tab xs).map D.tup = some _ from e)
    rw [← e, fzs_id h hx]
  | .lst xs, _, e => by
    obtain ⟨ys, hx, e⟩ := Option.map_eq_some_iff.mp (show (fzs tab xs).map D.lst = some _ from e)
    rw [← e, fzs_id h hx]
  | .frz xs, _, e => by
    obtain ⟨ys, hx, e⟩ := Option.map_eq_some_iff.mp (show (fzs tab xs).map D.frz = some _ from e)
    rw [← e, fzs_id h hx]
  | .dct xs, _, e => by
    obtain ⟨ys, hx, e⟩ := Option.map_eq_some_iff.mp (show (fzk tab xs).map D.dct = some _ from e)
    rw [← e, fzk_id h hx]
  | .ins c xs, _, e => by
    obtain ⟨ys, hx, e⟩ := Option.map_eq_some_iff.mp (show (fzf tab xs).map (D.ins c) = some _ from e)
    rw [← e, fzf_id h hx]
theorem fzs_id {tab : Nat → Option D} (h : ∀ i d, tab i = some d → d = .ptr i) : ∀ {d d' : List D}, fzs tab d = some d' → d' = d
  | [], _, e => by cases e; rfl
  | d :: ds, _, e => by
    unfold fzs at e
    cases e1 : fz1 tab d with
    | none => rw [e1] at e; cases e
    | some x =>
      cases e2 : fzs tab ds with
      | none => rw [e1, e2] at e; cases e
      | some xs => rw [e1, e2] at e; cases e; rw [fz_id h e1, fzs_id h e2]
theorem fzk_id {tab : Nat → Option D} (h : ∀ i d, tab i = some d → d = .ptr i) : ∀ {d d' : List (D × D)}, fzk tab d = some d' → d' = d
  | [], _, e => by cases e; rfl
  | (a, d) :: ds, _, e => by
    unfold fzk at e
    cases e1 : fz1 tab d with
    | none => rw [e1] at e; cases e
    | some x =>
      cases e2 : fzk tab ds with
      | none => rw [e1, e2] at e; cases e
      | some xs => rw [e1, e2] at e; cases e; rw [fz_id h e1, fzk_id h e2]
theorem fzf_id {tab : Nat → Option D} (h : ∀ i d, tab i = some d → d = .ptr i) : ∀ {d d' : List (Nat × D)}, fzf tab d = some d' → d' = d
  | [], _, e => by cases e; rfl
  | (a, d) :: ds, _, e => by
    unfold fzf at e
    cases e1 : fz1 tab d with
    | none => rw [e1] at e; cases e
    | some x =>
      cases e2 : fzf tab ds with
      | none => rw [e1, e2] at e; cases e
      | some xs => rw [e1, e2] at e; cases e; rw [fz_id h e1, fzf_id h e2]
end
theorem tabI_id {n : Nat} : ∀ i d, tabI n i = some d → d = .ptr i := fun i d h => by
  unfold tabI at h
  split at h
  · cases h; rfl
  · cases h
mutual
theorem Rep.fzI : ∀ {v : V} {d : D}, Rep W A H v d → fz1 (tabI A.r.length) d = some d
  | _, _, .non => rfl
  | _, _, .bl b => rfl
  | _, _, .int i => rfl
  | _, _, .str s l => rfl
  | _, _, .tup n q r => by show (fzs _ _).map D.tup = _; rw [RepL.fzI r]; rfl
  | _, _, .tupK q r => by show (fzs _ _).map D.tup = _; rw [RepL.fzI r]; rfl
  | _, _, .lst n q r => by show (fzs _ _).map D.lst = _; rw [RepL.fzI r]; rfl
  | _, _, .frz n q r => by show (fzs _ _).map D.frz = _; rw [RepL.fzI r]; rfl
  | _, _, .frzK q r => by show (fzs _ _).map D.frz = _; rw [RepL.fzI r]; rfl
  | _, _, .dct n q r => by show (fzk _ _).map D.dct = _; rw [RepK.fzI r]; rfl
  | _, _, .ins n c q r => by show (fzf _ _).map (D.ins _) = _; rw [RepF.fzI r]; rfl
  | _, _, .ptr q => by
    show tabI _ _ = _
    unfold tabI
    rw [if_pos (List.getElem?_eq_some_iff.mp q).1]
theorem RepL.fzI : ∀ {v : List V} {d : List D}, RepL W A H v d → fzs (tabI A.r.length) d = some d
  | _, _, .nil => rfl
  | _, _, .cons r t => by unfold fzs; rw [Rep.fzI r, RepL.fzI t]
theorem RepK.fzI : ∀ {v : List (Key × V)} {d : List (D × D)}, RepK W A H v d → fzk (tabI A.r.length) d = some d
  | _, _, .nil => rfl
  | _, _, .cons _ r t => by unfold fzk; rw [Rep.fzI r, RepK.fzI t]
theorem RepF.fzI : ∀ {v : List (Str × V)} {d : List (Nat × D)}, RepF W A H v d → fzf (tabI A.r.length) d = some d
  | _, _, .nil => rfl
  | _, _, .cons r t => by unfold fzf; rw [Rep.fzI r, RepF.fzI t]
end
theorem CellOk.fzI {a : Addr} : ∀ {c : Cell}, CellOk W A H a c → ∃ d, fzC (tabI A.r.length) c = some d
  | .lst _, ⟨vs, _, r⟩ => ⟨_, by show (fzs _ _).map D.lst = _; rw [r.fzI]; rfl⟩
  | .dct _, ⟨vs, _, r⟩ => ⟨_, by show (fzk _ _).map D.dct = _; rw [r.fzI]; rfl⟩
  | .ins _ _, ⟨_, _, _, _, _, r⟩ => ⟨_, by show (fzf _ _).map (D.ins _) = _; rw [r.fzI]; rfl⟩
/-- the cells beyond are let go -/
theorem ext_cut (e : Ext A H A' H') : Ext A H A H' := ⟨⟨[], by simp, by simp⟩, rfl, e.keep⟩
theorem at_cut (e : Ext A H A' H') {i : Nat} {a : Addr} (h : A'.r[i]? = some a) (hi : i < A.r.length) : A.r[i]? = some a := by
  obtain ⟨nu, e1, _⟩ := e.pre
  rw [e1, List.getElem?_append_left hi] at h
  exact h
theorem no_cut (e : Ext A H A' H') {a : Addr} (h : A'.no a) : A.no a := by
  obtain ⟨nu, e1, _⟩ := e.pre
  exact ⟨fun z => h.1 (by rw [e1]; exact List.mem_append_left _ z), by rw [← e.bus]; exact h.2⟩
theorem CellOk.cut (e : Ext A H A' H') {a : Addr} : ∀ {c : Cell}, CellOk W A' H' a c → (∃ d, fzC (tabI A.r.length) c = some d) → CellOk W A H' a c := by
  have ht : ∀ (i : Nat) (a : Addr) (d : D), A'.r[i]? = some a → tabI A.r.length i = some d → Rep W A H' (.ref a) d := fun i a d h1 h2 => by
    unfold tabI at h2
    split at h2
    · rename_i hi
      cases h2
      exact .ptr (at_cut e h1 hi)
    · cases h2
  intro c ok hd
  obtain ⟨d, hd⟩ := hd
  cases c with
  | lst xs =>
    obtain ⟨vs, h1, r⟩ := ok
    obtain ⟨ys, hy, _⟩ := Option.map_eq_some_iff.mp (show (fzs _ xs).map D.lst = some _ from hd)
    have := fzs_id tabI_id hy
    subst this
    exact ⟨vs, h1, r.thaw (fun a => no_cut e) ht hy⟩
  | dct xs =>
    obtain ⟨vs, h1, r⟩ := ok
    obtain ⟨ys, hy, _⟩ := Option.map_eq_some_iff.mp (show (fzk _ xs).map D.dct = some _ from hd)
    have := fzk_id tabI_id hy
    subst this
    exact ⟨vs, h1, r.thaw (fun a => no_cut e) ht hy⟩
  | ins c xs =>
    obtain ⟨C, dx, vs, h0, h1, r⟩ := ok
    obtain ⟨ys, hy, _⟩ := Option.map_eq_some_iff.mp (show (fzf _ xs).map (D.ins c) = some _ from hd)
    have := fzf_id tabI_id hy
    subst this
    exact ⟨C, dx, vs, h0, h1, r.thaw (fun a => no_cut e) ht hy⟩
theorem sta_cut (S : Sta W A H cs) (e : Ext A H A' H') (S' : Sta W A' H' cs2) (h : okCells cs.length cs cs2) : Sta W A H' (cs2.take cs.length) := by
  obtain ⟨nu, e1, _⟩ := e.pre
  have hlen : cs.length ≤ cs2.length := by
    rw [← S.len, ← S'.len, e1, List.length_append]
    exact Nat.le_add_right _ _
  refine ⟨S.nd, by rw [List.length_take, S.len]; omega, fun i a c h1 h2 => ?_, fun a ha => ?_⟩
  · have hi : i < A.r.length := (List.getElem?_eq_some_iff.mp h1).1
    have hi2 : i < cs.length := by rw [← S.len]; exact hi
    rw [List.getElem?_take_of_lt hi2] at h2
    have ok := S'.cell i a c (e.ptr h1) h2
    refine ok.cut e ?_
    rcases h i hi2 with q | ⟨c', d, q1, q2⟩
    · rw [h2] at q
      exact (S.cell i a c h1 q.symm).fzI
    · rw [h2] at q1
      cases q1
      refine ⟨d, ?_⟩
      have : tabI A.r.length = fun j => if j < cs.length then some (D.ptr j) else none := by
        funext j
        unfold tabI
        rw [S.len]
      rw [this]; exact q2
  · obtain ⟨n, o, q⟩ := S.busy a ha
    exact ⟨n, o, e.keep a o n q⟩
theorem tab_ok (S : Sta W A H cs) (e : Ext A H A' H') (S' : Sta W A' H' cs2) : ∀ (m : Nat) (i : Nat) (a : Addr) (d : D), A'.r[i]? = some a → tabN cs.length cs2 m i = some d → Rep W A H' (.ref a) d
  | 0, i, a, d, h1, h2 => by
    unfold tabN at h2
    split at h2
    · rename_i hi
      cases h2
      exact .ptr (at_cut e h1 (by rw [S.len]; exact hi))
    · cases h2
  | m + 1, i, a, d, h1, h2 => by
    unfold tabN at h2
    split at h2
    · rename_i hi
      cases h2
      exact .ptr (at_cut e h1 (by rw [S.len]; exact hi))
    · rename_i hi
      split at h2
      · rename_i c hc
        have ok := S'.cell i a c h1 hc
        have ha : A.no a := by
          obtain ⟨nu, e1, n1⟩ := e.pre
          have hm : a ∈ A'.r := List.mem_of_getElem? h1
          refine ⟨fun z => ?_, fun z => (S'.busy a (by rw [e.bus]; exact z)).1 hm⟩
          obtain ⟨j, hj, ej⟩ := List.mem_iff_getElem.mp z
          have hj2 : A'.r[j]? = some a := e.ptr (by rw [List.getElem?_eq_getElem hj, ej])
          have := nodup_at S'.nd h1 hj2
          subst this
          exact hi (by rw [← S.len]; exact hj)
        have ih := tab_ok S e S' m
        cases c with
        | lst xs =>
          obtain ⟨vs, q1, r⟩ := ok
          obtain ⟨ys, hy, e2⟩ := Option.map_eq_some_iff.mp (show (fzs _ xs).map D.lst = some _ from h2)
          subst e2
          exact .lst ha q1 (r.thaw (fun a => no_cut e) ih hy)
        | dct xs =>
          obtain ⟨vs, q1, r⟩ := ok
          obtain ⟨ys, hy, e2⟩ := Option.map_eq_some_iff.mp (show (fzk _ xs).map D.dct = some _ from h2)
          subst e2
          exact .dct ha q1 (r.thaw (fun a => no_cut e) ih hy)
        | ins c xs =>
          obtain ⟨C, dx, vs, q0, q1, r⟩ := ok
          obtain ⟨ys, hy, e2⟩ := Option.map_eq_some_iff.mp (show (fzf _ xs).map (D.ins c) = some _ from h2)
          subst e2
          exact .ins ha q0 q1 (r.thaw (fun a => no_cut e) ih hy)
      · cases h2
theorem fin_ok {WX : L2.WX} {σ : L2.St} {Q : VK} {keep : Bool} {d : D} (S : Sta W A H cs) (h : FinG W WX (Rep W) A σ H Q (fin keep cs d cs2)) (e : Ext A H A' H') (S' : Sta W A' H' cs2) {v : V} (r : Rep W A' H' v d) : Q v H' := by
  unfold fin at h
  split at h
  · exact h A' H' v e S' r
  · split at h
    · rename_i hh
      split at h
      · rename_i d' hd
        exact h A H' v (ext_cut e) (sta_cut S e S' hh.2) (r.thaw (fun a => no_cut e) (tab_ok S e S' 4) hd)
      · exact h.elim
    · exact h.elim
theorem finX_ok {WX : L2.WX} {σ : L2.St} {Q : VK} {c : Nat} {fs : List D} (S : Sta W A H cs) (h : FinG W WX (Rep W) A σ H Q (finX cs c fs cs2)) (e : Ext A H A' H') (S' : Sta W A' H' cs2) {C dx : Addr} {vs : List (Str × V)}
    (hc : W.xc c = some C) (hx : H' dx = some (.xd vs)) (hn : A'.no dx) (r : RepX W A' H' c vs fs) : WX (.ref C) (some dx) σ H' := by
  unfold finX at h
  split at h
  · exact h A' H' C dx vs e S' hc hx hn r
  · split at h
    · rename_i hh
      split at h
      · rename_i ds hd
        refine h A H' C dx vs (ext_cut e) (sta_cut S e S' hh.2) hc hx (no_cut e hn) fun i f d hf hd' => ?_
        have key : ∀ {fs ds : List D} {i : Nat} {d : D}, fzs (tabN cs.length cs2 4) fs = some ds → ds[i]? = some d → ∃ d0, fs[i]? = some d0 ∧ fz1 (tabN cs.length cs2 4) d0 = some d := by
          intro fs
          induction fs with
          | nil => intro ds i d h1 h2; cases h1; simp at h2
          | cons x xs ih =>
            intro ds i d h1 h2
            unfold fzs at h1
            cases e1 : fz1 (tabN cs.length cs2 4) x with
            | none => rw [e1] at h1; cases h1
            | some y =>
              cases e2 : fzs (tabN cs.length cs2 4) xs with
              | none => rw [e1, e2] at h1; cases h1
              | some ys =>
                rw [e1, e2] at h1
                cases h1
                cases i with
                | zero => simp at h2; subst h2; exact ⟨x, rfl, e1⟩
                | succ i => exact (ih e2 (by simpa using h2)).imp fun d0 q => ⟨by simpa using q.1, q.2⟩
        obtain ⟨d0, q1, q2⟩ := key hd hd'
        obtain ⟨v, h1, h2⟩ := r i f d0 hf q1
        exact ⟨v, h1, h2.thaw (fun a => no_cut e) (tab_ok S e S' 4) q2⟩
      · exact h.elim
    · exact h.elim
theorem start_env {N : List Str} {vs : List V} {ds : List D} (r : RepL W A H vs ds) : REnv W A H (L2.start N vs) (ds.map some ++ List.replicate (N.length - ds.length) none) := by
  refine ⟨by simp [L2.start, r.length], fun i d h => ?_⟩
  by_cases hi : i < ds.length
  · rw [List.getElem?_append_left (by simpa using hi), List.getElem?_map] at h
    cases hd : ds[i]? with
    | none => rw [hd] at h; cases h
    | some d' =>
      rw [hd] at h
      cases h
      obtain ⟨v, hv, rv⟩ := r.get hd
      refine ⟨v, ?_, rv⟩
      unfold L2.start
      rw [List.getElem?_append_left (by simp [r.length]; exact hi), List.getElem?_map, hv]
      rfl
  · rw [List.getElem?_append_right (by simpa using hi), List.getElem?_replicate] at h
    split at h <;> cases h
end
end DH
end
section
set_option Elab.async false
set_option linter.all false
set_option maxRecDepth 100000
set_option maxHeartbeats 4000000
/-! DH20: all defs of a text, by the depth of calls; the law's end. -/
namespace DH
open PySem L2

section
variable {G : Glob} {k : Nat} {W : Wd} {P : Program} {w : World} {K : PySem.W.Frag} {mg : Str → Option Value} {base : Heap}
abbrev scOf (G : Glob) (r : Fn) (sc : Scope) : Sc := ⟨G, r.N, sc, fun _ => true⟩
/-- what is to be known of a def of the text -/
structure FnFacts (G : Glob) (K : PySem.W.Frag) (mg : Str → Option Value) (r : Fn) : Prop where
  ex : ∃ (f : Addr) (fd : FuncData) (qual : Str) (st : Stmt), mg r.name = some (.ref f) ∧ PySem.W.keepIn K (.ref f) = true ∧ Binds K fd r.ps [] ∧ (∀ q ∈ r.kw, KBinds K fd r.ps q.1 (gK (r.ps.length - q.1.length) q.1.length q.2 Value.none) (gK (r.ps.length - q.1.length) q.1.length q.2 V.non)) ∧ Fun K r.name qual st f fd ∧ FnScope r.N r.ps (defScope st) ∧ chkSs (scOf G r (defScope st)) r.body (defBody st) = true
structure TxtOk (G : Glob) (W : Wd) (K : PySem.W.Frag) (mg : Str → Option Value) : Prop where
  hK : K = W.K
  fns : ∀ r ∈ G.fns, FnFacts G K mg r
  blt : ∀ x ∈ bltNames, mg x = none
  cst : ∀ (n : Nat) (x : Str) (d : D), G.consts[n]? = some (x, d) → ∃ (v : V) (u : Value), mg x = some u ∧ RelV v u ∧ ∀ A H, Rep W A H v d
  cls : ∀ (c : Nat) (C : Addr), W.cl c = some C → Cls K C ∧ ∀ (f : Nat) (s : Str), G.flds[f]? = some s → NoAttr K C s
  fld : ∀ (f : Nat) (s : Str), G.flds[f]? = some s → W.fname f = s
  finj : ∀ f g, W.fname f = W.fname g → f = g
theorem fn_ok {i : Nat} {r : Fn} {f : Addr} {fd : FuncData} {nm qual : Str} {st : Stmt} (hr : G.fns[i]? = some r) (F : Fun K nm qual st f fd) (S : FnScope r.N r.ps (defScope st)) (hc : chkSs (scOf G r (defScope st)) r.body (defBody st) = true) (g : GOk G k W P w K mg base) :
    FnOk P w K mg base (L2.CX P w) (k + 1) f fd r.ps (spD W (callD G (k + 1) i)) := by
  have hlen : ∀ (vs : List V) (H : Hp) (Q : VK) (E : XK), spD W (callD G (k + 1) i) vs H Q E → ∃ A ds cs, RepL W A H vs ds ∧ Sta W A H cs ∧ ds.length = r.ps.length ∧
      FinG W (fun c d _ H' => E c d H') (Rep W) A [] H Q (match exSs (ctxD G (callD G k)) r.body (ds.map some ++ List.replicate (r.N.length - ds.length) none) cs with
        | .ret d cs2 => fin r.keep cs d cs2
        | .nx _ cs2 => fin r.keep cs .non cs2
        | .exc c fs _ cs2 => finX cs c fs cs2
        | _ => .bad) := by
    rintro vs H Q E ⟨A, ds, cs, h1, h2, h3⟩
    simp only [callD, hr] at h3
    by_cases hl : ds.length = r.ps.length
    · rw [if_pos hl] at h3
      exact ⟨A, ds, cs, h1, h2, hl, h3⟩
    · rw [if_neg hl] at h3
      exact h3.elim
  refine F.okX S (fun vs H Q E h => ?_) (fun cdv Ar outer s H vs Q E room h => ?_)
  · obtain ⟨A, ds, cs, h1, _, h3, _⟩ := hlen vs H Q E h
    rw [h1.length, h3]
  · obtain ⟨A, ds, cs, h1, h2, h3, h4⟩ := hlen vs H Q E h
    have o : XOk (scOf G r (defScope st)) k W (fun c d _ H' => E c d H') (cxOf (L2.CX P w) P w K mg base r.N qual (defScope st) f cdv Ar outer s H E) :=
      { calm := rfl, hN := rfl, nd := S.nd, hsc := rfl, fb := fun _ _ => rfl, room := room, tk := takes_of rfl rfl rfl rfl, po := passes_of rfl, g := g }
    refine ⟨_, sSs r.body _ _ _ o _ hc, A, _, cs, start_env h1, h2, ?_⟩
    show FinO W (fun c d _ H' => E c d H') A H { nx := fun _ H' => Q .non H', rt := Q } (exSs (ctxD G (callD G k)) r.body _ cs)
    revert h4
    cases exSs (ctxD G (callD G k)) r.body (ds.map some ++ List.replicate (r.N.length - ds.length) none) cs with
    | ret d cs2 => exact fun h4 A' H' v e s1 r1 => fin_ok h2 h4 e s1 r1
    | nx env cs2 => exact fun h4 A' σ' H' e s1 r1 => fin_ok h2 h4 e s1 .non
    | exc c fs env cs2 => exact fun h4 A' σ' H' C dx vs e s1 r1 hc hx hn hr => finX_ok h2 h4 e s1 hc hx hn hr
    | brk _ _ => exact fun h4 => h4.elim
    | cnt _ _ => exact fun h4 => h4.elim
    | bad => exact fun h4 => h4.elim
theorem fn_zero {i : Nat} {ps : List Str} {f : Addr} {fd : FuncData} : FnOk P w K mg base (L2.CX P w) 0 f fd ps (spD W (callD G 0 i)) := by
  refine ⟨fun vs H Q E h => ?_, fun A outer s H args us vs Q E hr he hb hv h => ?_⟩
  · obtain ⟨_, _, _, _, _, h3⟩ := h
    exact h3.elim
  · obtain ⟨_, _, _, _, _, h3⟩ := h
    exact h3.elim
theorem all_ok (T : TxtOk G W K mg) : ∀ k, GOk G k W P w K mg base
  | 0 => ⟨T.hK, fun i r h => by
      obtain ⟨f, fd, qual, st, h1, h2, h3, h3k, h4, h5, h6⟩ := (T.fns r (List.mem_of_getElem? h)).ex
      exact ⟨f, fd, h1, h2, h3, fn_zero, h3k⟩, T.blt, T.cst, T.cls, T.fld, T.finj⟩
  | k + 1 => ⟨T.hK, fun i r h => by
      obtain ⟨f, fd, qual, st, h1, h2, h3, h3k, h4, h5, h6⟩ := (T.fns r (List.mem_of_getElem? h)).ex
      exact ⟨f, fd, h1, h2, h3, fn_ok h h4 h5 h6 (all_ok T k), h3k⟩, T.blt, T.cst, T.cls, T.fld, T.finj⟩
/-- the script, as it is handed in -/
theorem ints_rep {A : Ad} {H : Hp} : ∀ ns : List Int, RepL W A H (ns.map V.int) (ns.map D.int)
  | [] => .nil
  | n :: ns => .cons (.int n) (ints_rep ns)
theorem law_sp {i : Nat} {H : Hp} {a : Addr} {ns : List Int} (hS : SqL W.K H a (ns.map V.int)) (h : ∃ cs, callD G k i [.frz (ns.map D.int)] [] = .ok (.bl true) cs) : spD W (callD G k i) [.ref a] H (fun v _ => v = .bl true) fun _ _ _ => False := by
  obtain ⟨cs, h⟩ := h
  refine ⟨⟨[], []⟩, [.frz (ns.map D.int)], [], .cons ?_ .nil, ⟨List.nodup_nil, rfl, fun i a c h1 _ => by simp at h1, fun a ha => by cases ha⟩, ?_⟩
  · rcases hS with q | q
    · exact .frz ⟨by simp, by simp⟩ q (ints_rep ns)
    · exact .frzK q (ints_rep ns)
  · rw [h]
    intro A' H' v e s r
    exact r.val
theorem no_exc {P : Program} {w : World} {H : Hp} {s s' : Shared} {e : Value} (h : L2.CX P w [] H s (fun _ _ _ => False) e s') : False := by
  obtain ⟨_, _, _, _, _, _, _, _, _, _, _, _, z⟩ := h
  exact z
end
end DH
end
section
set_option Elab.async false
set_option linter.all false
set_option maxRecDepth 100000
set_option maxHeartbeats 4000000
/-! DH21: a text without classes; lemmas for the meaning. -/
namespace DH
open PySem L2
def wd (K : PySem.W.Frag) : Wd := ⟨K, fun _ => none, fun n => ⟨(List.replicate n 97).toArray⟩, fun _ => [], fun _ => none⟩
theorem wd_inj {K : PySem.W.Frag} {f g : Nat} (h : (wd K).fname f = (wd K).fname g) : f = g := by
  have e := congrArg (fun s : Str => s.cps.size) h
  simpa [wd] using e

/-! ### cells at the end -/
@[simp] theorem get_new (cs : Cs) (c : Cell) (ex : Cs) : (cs ++ c :: ex)[cs.length]? = some c := by simp
@[simp] theorem set_new (cs : Cs) (c d : Cell) (ex : Cs) : (cs ++ c :: ex).set cs.length d = cs ++ d :: ex := by
  rw [List.set_append_right _ _ (Nat.le_refl _)]
  simp
/-! ### a thing's pointers are below n -/
mutual
def bel (n : Nat) : D → Bool
  | .ptr i => decide (i < n)
  | .tup xs => bels n xs
  | .lst xs => bels n xs
  | .frz xs => bels n xs
  | .dct kvs => belk n kvs
  | .ins _ fs => belf n fs
  | .non => true
  | .bl _ => true
  | .int _ => true
  | .str _ => true
def bels (n : Nat) : List D → Bool
  | [] => true
  | d :: ds => bel n d && bels n ds
def belk (n : Nat) : List (D × D) → Bool
  | [] => true
  | (_, b) :: ds => bel n b && belk n ds
def belf (n : Nat) : List (Nat × D) → Bool
  | [] => true
  | (_, b) :: ds => bel n b && belf n ds
end
def belC (n : Nat) : Cell → Bool
  | .lst xs => bels n xs
  | .dct kvs => belk n kvs
  | .ins _ fs => belf n fs
mutual
theorem fz1_bel {n : Nat} {tab : Nat → Option D} (ht : ∀ i, i < n → tab i = some (.ptr i)) : ∀ d : D, bel n d = true → fz1 tab d = some d
  | .ptr i, h => ht i (by simpa [bel] using h)
  | .tup xs, h => by simp only [fz1, fzs_bel ht xs (by simpa [bel] using h), Option.map_some]
  | .lst xs, h => by simp only [fz1, fzs_bel ht xs (by simpa [bel] using h), Option.map_some]
  | .frz xs, h => by simp only [fz1, fzs_bel ht xs (by simpa [bel] using h), Option.map_some]
  | .dct kvs, h => by simp only [fz1, fzk_bel ht kvs (by simpa [bel] using h), Option.map_some]
  | .ins c fs, h => by simp only [fz1, fzf_bel ht fs (by simpa [bel] using h), Option.map_some]
  | .non, _ => rfl
  | .bl _, _ => rfl
  | .int _, _ => rfl
  | .str _, _ => rfl
theorem fzs_bel {n : Nat} {tab : Nat → Option D} (ht : ∀ i, i < n → tab i = some (.ptr i)) : ∀ ds : List D, bels n ds = true → fzs tab ds = some ds
  | [], _ => rfl
  | d :: ds, h => by
    simp only [bels, Bool.and_eq_true] at h
    simp only [fzs, fz1_bel ht d h.1, fzs_bel ht ds h.2]
theorem fzk_bel {n : Nat} {tab : Nat → Option D} (ht : ∀ i, i < n → tab i = some (.ptr i)) : ∀ ds : List (D × D), belk n ds = true → fzk tab ds = some ds
  | [], _ => rfl
  | (a, d) :: ds, h => by
    simp only [belk, Bool.and_eq_true] at h
    simp only [fzk, fz1_bel ht d h.1, fzk_bel ht ds h.2]
theorem fzf_bel {n : Nat} {tab : Nat → Option D} (ht : ∀ i, i < n → tab i = some (.ptr i)) : ∀ ds : List (Nat × D), belf n ds = true → fzf tab ds = some ds
  | [], _ => rfl
  | (a, d) :: ds, h => by
    simp only [belf, Bool.and_eq_true] at h
    simp only [fzf, fz1_bel ht d h.1, fzf_bel ht ds h.2]
end
theorem fzC_bel {n : Nat} {tab : Nat → Option D} (ht : ∀ i, i < n → tab i = some (.ptr i)) : ∀ c : Cell, belC n c = true → ∃ d, fzC tab c = some d
  | .lst xs, h => ⟨_, by simp only [fzC, fzs_bel ht xs h, Option.map_some]; rfl⟩
  | .dct xs, h => ⟨_, by simp only [fzC, fzk_bel ht xs h, Option.map_some]; rfl⟩
  | .ins c xs, h => ⟨_, by simp only [fzC, fzf_bel ht xs h, Option.map_some]; rfl⟩
theorem bels_map {α : Type} {n : Nat} {f : α → D} (h : ∀ x, bel n (f x) = true) : ∀ xs : List α, bels n (xs.map f) = true
  | [] => rfl
  | x :: xs => by simp only [List.map_cons, bels, h x, bels_map h xs, Bool.and_self]
theorem bels_all {n : Nat} : ∀ {xs : List D}, (∀ x ∈ xs, bel n x = true) → bels n xs = true
  | [], _ => rfl
  | x :: xs, h => by simp only [bels, h x (List.mem_cons_self ..), bels_all fun y hy => h y (List.mem_cons_of_mem _ hy), Bool.and_self]
theorem bels_append {n : Nat} : ∀ {xs ys : List D}, bels n (xs ++ ys) = (bels n xs && bels n ys)
  | [], _ => by simp [bels]
  | x :: xs, ys => by simp only [List.cons_append, bels, bels_append, Bool.and_assoc]
theorem tabN_lt {n : Nat} {cs : Cs} : ∀ {k i : Nat}, i < n → tabN n cs k i = some (.ptr i)
  | 0, i, h => by simp only [tabN, if_pos h]
  | k + 1, i, h => by simp only [tabN, if_pos h]
/-! ### a def's end -/
noncomputable def endD (keep : Bool) (cs : Cs) : Out → Res D
  | .ret d cs2 => fin keep cs d cs2
  | .nx _ cs2 => fin keep cs .non cs2
  | .exc c fs _ cs2 => finX cs c fs cs2
  | _ => .bad
@[simp] theorem endD_ret {keep : Bool} {cs cs2 : Cs} {d : D} : endD keep cs (.ret d cs2) = fin keep cs d cs2 := rfl
@[simp] theorem endD_nx {keep : Bool} {cs cs2 : Cs} {e : Env} : endD keep cs (.nx e cs2) = fin keep cs .non cs2 := rfl
theorem callD_of {G : Glob} {k i : Nat} {r : Fn} {ds : List D} {cs : Cs} (h : G.fns[i]? = some r) (hl : ds.length = r.ps.length) :
    callD G (k + 1) i ds cs = endD r.keep cs (exSs (ctxD G (callD G k)) r.body (ds.map some ++ List.replicate (r.N.length - ds.length) none) cs) := by
  simp only [callD, h, hl, if_true]
  cases exSs (ctxD G (callD G k)) r.body _ cs <;> rfl
@[simp] theorem fin_id {keep : Bool} {cs : Cs} {d : D} : fin keep cs d cs = .ok d cs := by
  unfold fin
  rw [if_pos (.inr rfl)]
theorem fin_upd {cs cs' ex : Cs} {d : D} (hl : cs'.length = cs.length) (hc : ∀ (i : Nat) (c : Cell), cs'[i]? = some c → cs[i]? = some c ∨ belC cs.length c = true) (hd : bel cs.length d = true) :
    fin false cs d (cs' ++ ex) = .ok d cs' := by
  unfold fin
  by_cases e : (cs' ++ ex).length = cs.length
  · rw [if_pos (.inr e)]
    have : ex = [] := by
      rw [List.length_append, hl] at e
      exact List.eq_nil_of_length_eq_zero (by omega)
    rw [this, List.append_nil]
  · rw [if_neg (by rintro (z | z); cases z; exact e z)]
    rw [if_pos]
    · unfold fz
      rw [fz1_bel (n := cs.length) (fun i h => tabN_lt h) d hd]
      simp only
      rw [← hl, List.take_left]
    · refine ⟨by rw [List.length_append, hl]; omega, fun i hi => ?_⟩
      rw [List.getElem?_append_left (by omega)]
      cases e2 : cs'[i]? with
      | none =>
        rw [List.getElem?_eq_none_iff] at e2
        omega
      | some c =>
        rcases hc i c e2 with q | q
        · exact .inl q.symm
        · obtain ⟨d', hd'⟩ := fzC_bel (n := cs.length) (tab := fun j => if j < cs.length then some (.ptr j) else none) (fun i h => by simp [h]) c q
          exact .inr ⟨c, d', rfl, hd'⟩
theorem fin_new {cs ex : Cs} {d : D} (hd : bel cs.length d = true) : fin false cs d (cs ++ ex) = .ok d cs :=
  fin_upd rfl (fun _ _ h => .inl h) hd
/-! ### loops -/
@[simp] theorem same_none (xs : List D) : Src.same ⟨none, xs⟩ = fun _ => True := rfl
theorem compD_map {ok : Cs → Prop} {f : D → Cs → Res (Option D)} (g : D → Option D) {cs : Cs} (hok : ok cs) : ∀ {ds : List D}, (∀ d ∈ ds, f d cs = .ok (g d) cs) → compD ok f ds cs = .ok (ds.filterMap g) cs
  | [], _ => by simp [compD, hok]
  | d :: ds, h => by
    have ih := compD_map (ok := ok) (f := f) g hok (ds := ds) fun x hx => h x (List.mem_cons_of_mem _ hx)
    simp only [compD, if_pos hok, h d (List.mem_cons_self ..), bind_ok, ih]
    cases e : g d with
    | none => simp [List.filterMap_cons, e]
    | some x => simp [List.filterMap_cons, e]
theorem compD_mapA {α : Type} {ok : Cs → Prop} {f : D → Cs → Res (Option D)} (h1 : α → D) (g : α → Option D) {cs : Cs} (hok : ok cs) {as : List α} (h : ∀ a ∈ as, f (h1 a) cs = .ok (g a) cs) : compD ok f (as.map h1) cs = .ok (as.filterMap g) cs := by
  induction as with
  | nil => simp [compD, hok]
  | cons a as ih =>
    simp only [List.map_cons, compD, if_pos hok, h a (List.mem_cons_self ..), bind_ok, ih fun x hx => h x (List.mem_cons_of_mem _ hx)]
    cases e : g a with
    | none => simp [List.filterMap_cons, e]
    | some x => simp [List.filterMap_cons, e]
theorem compD_inv {ok : Cs → Prop} {f : D → Cs → Res (Option D)} (I : Nat → List D → Cs → Prop) (hok : ∀ i acc cs, I i acc cs → ok cs) : ∀ {ds : List D} {cs : Cs} {n : Nat} {acc : List D}, I n acc cs → (∀ i d, ds[i]? = some d → ∀ acc cs, I (n + i) acc cs → ∃ o cs', f d cs = .ok o cs' ∧ I (n + i + 1) (acc ++ o.toList) cs') →
    ∃ r cs', compD ok f ds cs = .ok r cs' ∧ I (n + ds.length) (acc ++ r) cs'
  | [], cs, n, acc, h0, _ => ⟨[], cs, by simp [compD, hok _ _ _ h0], by simpa using h0⟩
  | d :: ds, cs, n, acc, h0, hs => by
    obtain ⟨o, cs1, e, h1⟩ := hs 0 d rfl acc cs (by simpa using h0)
    obtain ⟨r, cs2, e2, h2⟩ := compD_inv (ok := ok) (f := f) I hok (ds := ds) (cs := cs1) (n := n + 1) (acc := acc ++ o.toList) (by simpa using h1) fun i d hi acc cs h => by
      have z := hs (i + 1) d (by simpa using hi) acc cs (by rw [show n + (i + 1) = n + 1 + i by omega]; exact h)
      rwa [show n + (i + 1) = n + 1 + i by omega] at z
    cases o with
    | none =>
      refine ⟨r, cs2, by simp only [compD, if_pos (hok _ _ _ h0), e, bind_ok, e2], ?_⟩
      rw [show n + (d :: ds).length = n + 1 + ds.length by simp; omega]
      simpa using h2
    | some x =>
      refine ⟨x :: r, cs2, by simp only [compD, if_pos (hok _ _ _ h0), e, bind_ok, e2], ?_⟩
      rw [show n + (d :: ds).length = n + 1 + ds.length by simp; omega]
      simpa using h2
theorem forD_inv {ok : Cs → Prop} {f : D → Env → Cs → Out} (I : Nat → Env → Cs → Prop) (hok : ∀ i e cs, I i e cs → ok cs) : ∀ {ds : List D} {env : Env} {cs : Cs} {n : Nat}, I n env cs → (∀ i d, ds[i]? = some d → ∀ env cs, I (n + i) env cs → ∃ env' cs', (f d env cs = .nx env' cs' ∨ f d env cs = .cnt env' cs') ∧ I (n + i + 1) env' cs') →
    ∃ env' cs', forD ok f ds env cs = .nx env' cs' ∧ I (n + ds.length) env' cs'
  | [], env, cs, n, h0, _ => ⟨env, cs, by simp [forD, hok _ _ _ h0], by simpa using h0⟩
  | d :: ds, env, cs, n, h0, hs => by
    obtain ⟨env1, cs1, e, h1⟩ := hs 0 d rfl env cs (by simpa using h0)
    obtain ⟨env2, cs2, e2, h2⟩ := forD_inv (ok := ok) (f := f) I hok (ds := ds) (env := env1) (cs := cs1) (n := n + 1) (by simpa using h1) fun i d hi acc cs h => by
      have z := hs (i + 1) d (by simpa using hi) acc cs (by rw [show n + (i + 1) = n + 1 + i by omega]; exact h)
      rwa [show n + (i + 1) = n + 1 + i by omega] at z
    refine ⟨env2, cs2, ?_, by rw [show n + (d :: ds).length = n + 1 + ds.length by simp; omega]; exact h2⟩
    rcases e with e | e <;> simp only [forD, if_pos (hok _ _ _ h0), e, e2]
/-- the same, from 0 -/
theorem for0 {ok : Cs → Prop} {f : D → Env → Cs → Out} (I : Nat → Env → Cs → Prop) {ds : List D} {env : Env} {cs : Cs} (hok : ∀ i e cs, I i e cs → ok cs) (h0 : I 0 env cs) (hs : ∀ i d, ds[i]? = some d → ∀ env cs, I i env cs → ∃ env' cs', (f d env cs = .nx env' cs' ∨ f d env cs = .cnt env' cs') ∧ I (i + 1) env' cs') :
    ∃ env' cs', forD ok f ds env cs = .nx env' cs' ∧ I ds.length env' cs' := by
  have z := forD_inv (ok := ok) (f := f) I hok (ds := ds) (n := 0) h0 (by simpa using hs)
  simpa using z
theorem comp0 {ok : Cs → Prop} {f : D → Cs → Res (Option D)} (I : Nat → List D → Cs → Prop) {ds : List D} {cs : Cs} (hok : ∀ i acc cs, I i acc cs → ok cs) (h0 : I 0 [] cs) (hs : ∀ i d, ds[i]? = some d → ∀ acc cs, I i acc cs → ∃ o cs', f d cs = .ok o cs' ∧ I (i + 1) (acc ++ o.toList) cs') :
    ∃ r cs', compD ok f ds cs = .ok r cs' ∧ I ds.length r cs' := by
  have z := compD_inv (ok := ok) (f := f) I hok (ds := ds) (n := 0) h0 (by simpa using hs)
  simpa using z
@[simp] theorem rngD_len (lo : Int) : ∀ n, (rngD lo n).length = n
  | 0 => rfl
  | n + 1 => by simp [rngD, rngD_len (lo + 1) n]
theorem rngD_get (lo : Int) : ∀ n i, i < n → (rngD lo n)[i]? = some (.int (lo + i))
  | n + 1, 0, _ => by simp [rngD]
  | n + 1, i + 1, h => by
    simp only [rngD, List.getElem?_cons_succ, rngD_get (lo + 1) n i (by omega)]
    simp
    omega
theorem rngD_at {lo : Int} {n i : Nat} {d : D} (h : (rngD lo n)[i]? = some d) : i < n ∧ d = .int (lo + i) := by
  have hl := (List.getElem?_eq_some_iff.mp h).1
  rw [rngD_len] at hl
  rw [rngD_get lo n i hl] at h
  exact ⟨hl, (Option.some.inj h).symm⟩
@[simp] theorem bls_map (bs : List Bool) : blsD (bs.map .bl) = some bs := by
  induction bs with
  | nil => rfl
  | cons b bs ih => simp [blsD, ih]
@[simp] theorem ints_map (bs : List Int) : intsD (bs.map .int) = some bs := by
  induction bs with
  | nil => rfl
  | cons b bs ih => simp [intsD, ih]
@[simp] theorem strs_map (bs : List (List Nat)) : strsD (bs.map .str) = some bs := by
  induction bs with
  | nil => rfl
  | cons b bs ih => simp [strsD, ih]
theorem ltS_one (a b : Nat) : ltS [a] [b] = decide (a < b) := by
  unfold ltS
  congr 1
  simp [List.cons_lt_cons_iff]
end DH
end
section
set_option Elab.async false
set_option linter.all false
set_option maxRecDepth 100000
set_option maxHeartbeats 4000000
/-! DH22: the meaning's small steps, one for each kind of value; printed by gensimp.py -/
namespace DH

@[simp] theorem view_non (cs : Cs)  : view cs .non = .non := by rfl
@[simp] theorem truV_non  : truV .non = some false := by rfl
@[simp] theorem tstR_non  (cs : Cs) : tstR (.ok .non cs) = optR (truV .non) cs := by rfl
@[simp] theorem tyIs_int_non  : tyIs .int .non = some false := by rfl
@[simp] theorem tyIs_bool_non  : tyIs .bool .non = some false := by rfl
@[simp] theorem tyIs_str_non  : tyIs .str .non = some false := by rfl
@[simp] theorem tyIs_tuple_non  : tyIs .tuple .non = some false := by rfl
@[simp] theorem tyIs_list_non  : tyIs .list .non = some false := by rfl
@[simp] theorem tyIs_dict_non  : tyIs .dict .non = some false := by rfl
@[simp] theorem isN_non  : isN .non = some true := by rfl
@[simp] theorem view_bl (cs : Cs) (b : Bool) : view cs (.bl b) = (.bl b) := by rfl
@[simp] theorem truV_bl (b : Bool) : truV (.bl b) = some b := by rfl
@[simp] theorem tstR_bl (b : Bool) (cs : Cs) : tstR (.ok (.bl b) cs) = optR (truV (.bl b)) cs := by rfl
@[simp] theorem tyIs_int_bl (b : Bool) : tyIs .int (.bl b) = some true := by rfl
@[simp] theorem tyIs_bool_bl (b : Bool) : tyIs .bool (.bl b) = some true := by rfl
@[simp] theorem tyIs_str_bl (b : Bool) : tyIs .str (.bl b) = some false := by rfl
@[simp] theorem tyIs_tuple_bl (b : Bool) : tyIs .tuple (.bl b) = some false := by rfl
@[simp] theorem tyIs_list_bl (b : Bool) : tyIs .list (.bl b) = some false := by rfl
@[simp] theorem tyIs_dict_bl (b : Bool) : tyIs .dict (.bl b) = some false := by rfl
@[simp] theorem isN_bl (b : Bool) : isN (.bl b) = some false := by rfl
@[simp] theorem view_int (cs : Cs) (i : Int) : view cs (.int i) = (.int i) := by rfl
@[simp] theorem truV_int (i : Int) : truV (.int i) = some (i != 0) := by rfl
@[simp] theorem tstR_int (i : Int) (cs : Cs) : tstR (.ok (.int i) cs) = optR (truV (.int i)) cs := by rfl
@[simp] theorem tyIs_int_int (i : Int) : tyIs .int (.int i) = some true := by rfl
@[simp] theorem tyIs_bool_int (i : Int) : tyIs .bool (.int i) = some false := by rfl
@[simp] theorem tyIs_str_int (i : Int) : tyIs .str (.int i) = some false := by rfl
@[simp] theorem tyIs_tuple_int (i : Int) : tyIs .tuple (.int i) = some false := by rfl
@[simp] theorem tyIs_list_int (i : Int) : tyIs .list (.int i) = some false := by rfl
@[simp] theorem tyIs_dict_int (i : Int) : tyIs .dict (.int i) = some false := by rfl
@[simp] theorem isN_int (i : Int) : isN (.int i) = some false := by rfl
@[simp] theorem view_str (cs : Cs) (s : List Nat) : view cs (.str s) = (.str s) := by rfl
@[simp] theorem truV_str (s : List Nat) : truV (.str s) = some (!s.isEmpty) := by rfl
@[simp] theorem tstR_str (s : List Nat) (cs : Cs) : tstR (.ok (.str s) cs) = optR (truV (.str s)) cs := by rfl
@[simp] theorem tyIs_int_str (s : List Nat) : tyIs .int (.str s) = some false := by rfl
@[simp] theorem tyIs_bool_str (s : List Nat) : tyIs .bool (.str s) = some false := by rfl
@[simp] theorem tyIs_str_str (s : List Nat) : tyIs .str (.str s) = some true := by rfl
@[simp] theorem tyIs_tuple_str (s : List Nat) : tyIs .tuple (.str s) = some false := by rfl
@[simp] theorem tyIs_list_str (s : List Nat) : tyIs .list (.str s) = some false := by rfl
@[simp] theorem tyIs_dict_str (s : List Nat) : tyIs .dict (.str s) = some false := by rfl
@[simp] theorem isN_str (s : List Nat) : isN (.str s) = some false := by rfl
@[simp] theorem len_str (s : List Nat) : biD .len [(.str s)] = some (.int s.length) := by rfl
@[simp] theorem view_tup (cs : Cs) (xs : List D) : view cs (.tup xs) = (.tup xs) := by rfl
@[simp] theorem truV_tup (xs : List D) : truV (.tup xs) = some (!xs.isEmpty) := by rfl
@[simp] theorem tstR_tup (xs : List D) (cs : Cs) : tstR (.ok (.tup xs) cs) = optR (truV (.tup xs)) cs := by rfl
@[simp] theorem tyIs_int_tup (xs : List D) : tyIs .int (.tup xs) = some false := by rfl
@[simp] theorem tyIs_bool_tup (xs : List D) : tyIs .bool (.tup xs) = some false := by rfl
@[simp] theorem tyIs_str_tup (xs : List D) : tyIs .str (.tup xs) = some false := by rfl
@[simp] theorem tyIs_tuple_tup (xs : List D) : tyIs .tuple (.tup xs) = some true := by rfl
@[simp] theorem tyIs_list_tup (xs : List D) : tyIs .list (.tup xs) = some false := by rfl
@[simp] theorem tyIs_dict_tup (xs : List D) : tyIs .dict (.tup xs) = some false := by rfl
@[simp] theorem isN_tup (xs : List D) : isN (.tup xs) = some false := by rfl
@[simp] theorem len_tup (xs : List D) : biD .len [(.tup xs)] = some (.int xs.length) := by rfl
@[simp] theorem view_lst (cs : Cs) (xs : List D) : view cs (.lst xs) = (.lst xs) := by rfl
@[simp] theorem truV_lst (xs : List D) : truV (.lst xs) = some (!xs.isEmpty) := by rfl
@[simp] theorem tstR_lst (xs : List D) (cs : Cs) : tstR (.ok (.lst xs) cs) = optR (truV (.lst xs)) cs := by rfl
@[simp] theorem tyIs_int_lst (xs : List D) : tyIs .int (.lst xs) = some false := by rfl
@[simp] theorem tyIs_bool_lst (xs : List D) : tyIs .bool (.lst xs) = some false := by rfl
@[simp] theorem tyIs_str_lst (xs : List D) : tyIs .str (.lst xs) = some false := by rfl
@[simp] theorem tyIs_tuple_lst (xs : List D) : tyIs .tuple (.lst xs) = some false := by rfl
@[simp] theorem tyIs_list_lst (xs : List D) : tyIs .list (.lst xs) = some true := by rfl
@[simp] theorem tyIs_dict_lst (xs : List D) : tyIs .dict (.lst xs) = some false := by rfl
@[simp] theorem isN_lst (xs : List D) : isN (.lst xs) = some false := by rfl
@[simp] theorem len_lst (xs : List D) : biD .len [(.lst xs)] = some (.int xs.length) := by rfl
@[simp] theorem view_dct (cs : Cs) (kvs : List (D × D)) : view cs (.dct kvs) = (.dct kvs) := by rfl
@[simp] theorem truV_dct (kvs : List (D × D)) : truV (.dct kvs) = some (!kvs.isEmpty) := by rfl
@[simp] theorem tstR_dct (kvs : List (D × D)) (cs : Cs) : tstR (.ok (.dct kvs) cs) = optR (truV (.dct kvs)) cs := by rfl
@[simp] theorem tyIs_int_dct (kvs : List (D × D)) : tyIs .int (.dct kvs) = some false := by rfl
@[simp] theorem tyIs_bool_dct (kvs : List (D × D)) : tyIs .bool (.dct kvs) = some false := by rfl
@[simp] theorem tyIs_str_dct (kvs : List (D × D)) : tyIs .str (.dct kvs) = some false := by rfl
@[simp] theorem tyIs_tuple_dct (kvs : List (D × D)) : tyIs .tuple (.dct kvs) = some false := by rfl
@[simp] theorem tyIs_list_dct (kvs : List (D × D)) : tyIs .list (.dct kvs) = some false := by rfl
@[simp] theorem tyIs_dict_dct (kvs : List (D × D)) : tyIs .dict (.dct kvs) = some true := by rfl
@[simp] theorem isN_dct (kvs : List (D × D)) : isN (.dct kvs) = some false := by rfl
@[simp] theorem len_dct (kvs : List (D × D)) : biD .len [(.dct kvs)] = some (.int kvs.length) := by rfl
@[simp] theorem view_ins (cs : Cs) (c : Nat) (fs : List (Nat × D)) : view cs (.ins c fs) = (.ins c fs) := by rfl
@[simp] theorem truV_ins (c : Nat) (fs : List (Nat × D)) : truV (.ins c fs) = none := by rfl
@[simp] theorem tstR_ins (c : Nat) (fs : List (Nat × D)) (cs : Cs) : tstR (.ok (.ins c fs) cs) = optR (truV (.ins c fs)) cs := by rfl
@[simp] theorem tyIs_int_ins (c : Nat) (fs : List (Nat × D)) : tyIs .int (.ins c fs) = none := by rfl
@[simp] theorem tyIs_bool_ins (c : Nat) (fs : List (Nat × D)) : tyIs .bool (.ins c fs) = none := by rfl
@[simp] theorem tyIs_str_ins (c : Nat) (fs : List (Nat × D)) : tyIs .str (.ins c fs) = none := by rfl
@[simp] theorem tyIs_tuple_ins (c : Nat) (fs : List (Nat × D)) : tyIs .tuple (.ins c fs) = none := by rfl
@[simp] theorem tyIs_list_ins (c : Nat) (fs : List (Nat × D)) : tyIs .list (.ins c fs) = none := by rfl
@[simp] theorem tyIs_dict_ins (c : Nat) (fs : List (Nat × D)) : tyIs .dict (.ins c fs) = none := by rfl
@[simp] theorem isN_ins (c : Nat) (fs : List (Nat × D)) : isN (.ins c fs) = some false := by rfl
@[simp] theorem view_frz (cs : Cs) (xs : List D) : view cs (.frz xs) = (.frz xs) := by rfl
@[simp] theorem truV_frz (xs : List D) : truV (.frz xs) = some (!xs.isEmpty) := by rfl
@[simp] theorem tstR_frz (xs : List D) (cs : Cs) : tstR (.ok (.frz xs) cs) = optR (truV (.frz xs)) cs := by rfl
@[simp] theorem tyIs_int_frz (xs : List D) : tyIs .int (.frz xs) = some false := by rfl
@[simp] theorem tyIs_bool_frz (xs : List D) : tyIs .bool (.frz xs) = some false := by rfl
@[simp] theorem tyIs_str_frz (xs : List D) : tyIs .str (.frz xs) = some false := by rfl
@[simp] theorem tyIs_tuple_frz (xs : List D) : tyIs .tuple (.frz xs) = some false := by rfl
@[simp] theorem tyIs_list_frz (xs : List D) : tyIs .list (.frz xs) = some true := by rfl
@[simp] theorem tyIs_dict_frz (xs : List D) : tyIs .dict (.frz xs) = some false := by rfl
@[simp] theorem isN_frz (xs : List D) : isN (.frz xs) = some false := by rfl
@[simp] theorem len_frz (xs : List D) : biD .len [(.frz xs)] = some (.int xs.length) := by rfl
@[simp] theorem walk_tup (cs : Cs) (xs : List D) : walkD cs (.tup xs) = some ⟨none, xs⟩ := by rfl
@[simp] theorem idx_tup (xs : List D) (i : Int) : idxD (.tup xs) (.int i) = L2.atI xs i := by rfl
@[simp] theorem seqV_tup (xs : List D) : seqV (.tup xs) = some xs := by rfl
@[simp] theorem cut_tup (xs : List D) (l h : Option Int) : cutV (.tup xs) l h = some (.tup (cutD xs l h)) := by rfl
@[simp] theorem walk_lst (cs : Cs) (xs : List D) : walkD cs (.lst xs) = some ⟨none, xs⟩ := by rfl
@[simp] theorem idx_lst (xs : List D) (i : Int) : idxD (.lst xs) (.int i) = L2.atI xs i := by rfl
@[simp] theorem seqV_lst (xs : List D) : seqV (.lst xs) = some xs := by rfl
@[simp] theorem cut_lst (xs : List D) (l h : Option Int) : cutV (.lst xs) l h = some (.lst (cutD xs l h)) := by rfl
@[simp] theorem walk_frz (cs : Cs) (xs : List D) : walkD cs (.frz xs) = some ⟨none, xs⟩ := by rfl
@[simp] theorem idx_frz (xs : List D) (i : Int) : idxD (.frz xs) (.int i) = L2.atI xs i := by rfl
@[simp] theorem seqV_frz (xs : List D) : seqV (.frz xs) = some xs := by rfl
@[simp] theorem cut_frz (xs : List D) (l h : Option Int) : cutV (.frz xs) l h = some (.lst (cutD xs l h)) := by rfl
@[simp] theorem walk_str (cs : Cs) (s : List Nat) : walkD cs (.str s) = some ⟨none, s.map fun c => .str [c]⟩ := by rfl
@[simp] theorem idx_str (s : List Nat) (i : Int) : idxD (.str s) (.int i) = (L2.atI s i).map fun c => .str [c] := by rfl
@[simp] theorem idx_dct (kvs : List (D × D)) (k : D) : idxD (.dct kvs) k = if isKey k then getK k kvs else none := by cases k <;> rfl
@[simp] theorem cut_str (s : List Nat) (l h : Option Int) : cutV (.str s) l h = some (.str (cutD s l h)) := by rfl
def viewO (i : Nat) : Option Cell → D
  | some (.lst xs) => .lst xs
  | some (.dct kvs) => .dct kvs
  | some (.ins c fs) => .ins c fs
  | none => .ptr i
def walkO (i : Nat) : Option Cell → Option Src
  | some (.lst xs) => some ⟨some i, xs⟩
  | _ => none
def appO (i : Nat) (d : D) (cs : Cs) : Option Cell → Res D
  | some (.lst xs) => if xs.length < line then .ok .non (cs.set i (.lst (xs ++ [d]))) else .bad
  | _ => .bad
def extO (i : Nat) (cs : Cs) : Option Cell → D → Res D
  | some (.lst xs), .lst ys => if xs.length + ys.length ≤ line then .ok .non (cs.set i (.lst (xs ++ ys))) else .bad
  | _, _ => .bad
def pop0O (i : Nat) (cs : Cs) : Option Cell → Res D
  | some (.lst xs) => match xs[xs.length - 1]? with
    | some d => .ok d (cs.set i (.lst xs.dropLast))
    | none => .bad
  | _ => .bad
def pop1O (i : Nat) (k : Int) (cs : Cs) : Option Cell → Res D
  | some (.lst xs) => match L2.ixN xs.length k with
    | some j => match xs[j]? with
      | some d => if -(2 ^ 63) ≤ k ∧ k < 2 ^ 63 then .ok d (cs.set i (.lst (xs.eraseIdx j))) else .bad
      | none => .bad
    | none => .bad
  | _ => .bad
def setO (i : Nat) (n : Int) (d : D) (cs : Cs) : Option Cell → Option Cs
  | some (.lst xs) => (L2.ixN xs.length n).map fun j => cs.set i (.lst (xs.set j d))
  | some (.dct kvs) => if kvs.length < line then some (cs.set i (.dct (putK (.int n) d kvs))) else none
  | _ => none
def joinO (sep : List Nat) (cs : Cs) : D → Res D
  | .lst xs => match strsD xs with
    | some ss => if (ss.map List.length).sum + ss.length * sep.length ≤ line then .ok (.str (TL.joinL sep ss)) cs else .bad
    | none => .bad
  | _ => .bad
@[simp] theorem view_ptr (cs : Cs) (i : Nat) : view cs (.ptr i) = viewO i cs[i]? := by simp only [view]; cases cs[i]? with | none => rfl | some c => cases c <;> rfl
@[simp] theorem walk_ptr (cs : Cs) (i : Nat) : walkD cs (.ptr i) = walkO i cs[i]? := by simp only [walkD]; cases cs[i]? with | none => rfl | some c => cases c <;> rfl
@[simp] theorem tstR_ptr (i : Nat) (cs : Cs) : tstR (.ok (.ptr i) cs) = optR (truV (viewO i cs[i]?)) cs := by rw [← view_ptr]; rfl
@[simp] theorem viewO_lst (i : Nat) (xs : List D) : viewO i (some (.lst xs)) = .lst xs := by rfl
@[simp] theorem viewO_dct (i : Nat) (xs : List (D × D)) : viewO i (some (.dct xs)) = .dct xs := by rfl
@[simp] theorem viewO_ins (i c : Nat) (xs : List (Nat × D)) : viewO i (some (.ins c xs)) = .ins c xs := by rfl
@[simp] theorem walkO_lst (i : Nat) (xs : List D) : walkO i (some (.lst xs)) = some ⟨some i, xs⟩ := by rfl
@[simp] theorem appO_lst (i : Nat) (d : D) (cs : Cs) (xs : List D) : appO i d cs (some (.lst xs)) = if xs.length < line then .ok .non (cs.set i (.lst (xs ++ [d]))) else .bad := by rfl
@[simp] theorem extO_lst (i : Nat) (cs : Cs) (xs ys : List D) : extO i cs (some (.lst xs)) (.lst ys) = if xs.length + ys.length ≤ line then .ok .non (cs.set i (.lst (xs ++ ys))) else .bad := by rfl
@[simp] theorem pop1O_lst (i : Nat) (k : Int) (cs : Cs) (xs : List D) : pop1O i k cs (some (.lst xs)) = match L2.ixN xs.length k with | some j => (match xs[j]? with | some d => if -(2 ^ 63) ≤ k ∧ k < 2 ^ 63 then .ok d (cs.set i (.lst (xs.eraseIdx j))) else .bad | none => .bad) | none => .bad := by rfl
@[simp] theorem pop0O_lst (i : Nat) (cs : Cs) (xs : List D) : pop0O i cs (some (.lst xs)) = match xs[xs.length - 1]? with | some d => .ok d (cs.set i (.lst xs.dropLast)) | none => .bad := by rfl
@[simp] theorem setO_lst (i : Nat) (n : Int) (d : D) (cs : Cs) (xs : List D) : setO i n d cs (some (.lst xs)) = (L2.ixN xs.length n).map fun j => cs.set i (.lst (xs.set j d)) := by rfl
@[simp] theorem setO_dct (i : Nat) (n : Int) (d : D) (cs : Cs) (xs : List (D × D)) : setO i n d cs (some (.dct xs)) = if xs.length < line then some (cs.set i (.dct (putK (.int n) d xs))) else none := by rfl
@[simp] theorem joinO_lst (sep : List Nat) (cs : Cs) (xs : List D) : joinO sep cs (.lst xs) = match strsD xs with | some ss => if (ss.map List.length).sum + ss.length * sep.length ≤ line then .ok (.str (TL.joinL sep ss)) cs else .bad | none => .bad := by rfl
@[simp] theorem tstR_bad  : tstR .bad = .bad := by rfl
@[simp] theorem tstR_exc (c : Nat) (fs : List D) (cs : Cs) : tstR (.exc c fs cs) = .exc c fs cs := by rfl
@[simp] theorem bin_add (i j : Int) : binD .add (.int i) (.int j) = some (.int (i + j)) := by rfl
@[simp] theorem aug_add (i j : Int) : augD .add (.int i) (.int j) = some (.int (i + j)) := by rfl
@[simp] theorem bin_sub (i j : Int) : binD .sub (.int i) (.int j) = some (.int (i - j)) := by rfl
@[simp] theorem aug_sub (i j : Int) : augD .sub (.int i) (.int j) = some (.int (i - j)) := by rfl
@[simp] theorem bin_mul (i j : Int) : binD .mul (.int i) (.int j) = if inMul i ∨ inMul j then some (.int (i * j)) else none := by rfl
@[simp] theorem bin_fdiv (i j : Int) : binD .fdiv (.int i) (.int j) = if 0 < j ∧ j < 1073741824 then some (.int (i / j)) else none := by rfl
@[simp] theorem bin_mod (i j : Int) : binD .mod (.int i) (.int j) = if 0 < j then some (.int (i % j)) else none := by rfl
@[simp] theorem bin_pow (i j : Int) : binD .pow (.int i) (.int j) = if 0 ≤ j ∧ j ≤ 1000000 ∧ i.natAbs < 2 ^ 64 then some (.int (i ^ j.toNat)) else none := by rfl
@[simp] theorem bin_addS (s t : List Nat) : binD .add (.str s) (.str t) = if s.length + t.length ≤ line then some (.str (s ++ t)) else none := by rfl
@[simp] theorem aug_addS (s t : List Nat) : augD .add (.str s) (.str t) = if s.length + t.length ≤ line then some (.str (s ++ t)) else none := by rfl
@[simp] theorem bin_addT (s t : List D) : binD .add (.tup s) (.tup t) = if s.length + t.length ≤ line then some (.tup (s ++ t)) else none := by rfl
@[simp] theorem bin_addB (i : Int) (b : Bool) : binD .add (.int i) (.bl b) = some (.int (i + b2i b)) := by rfl
@[simp] theorem cmp_lt_int (i j : Int) : cmpD .lt (.int i) (.int j) = some (decide (i < j)) := by rfl
@[simp] theorem cmp_lt_str (s t : List Nat) : cmpD .lt (.str s) (.str t) = some (ltS s t) := by rfl
@[simp] theorem cmp_le_int (i j : Int) : cmpD .le (.int i) (.int j) = some (decide (i ≤ j)) := by rfl
@[simp] theorem cmp_le_str (s t : List Nat) : cmpD .le (.str s) (.str t) = some (!ltS t s) := by rfl
@[simp] theorem cmp_gt_int (i j : Int) : cmpD .gt (.int i) (.int j) = some (decide (j < i)) := by rfl
@[simp] theorem cmp_ge_int (i j : Int) : cmpD .ge (.int i) (.int j) = some (decide (j ≤ i)) := by rfl
@[simp] theorem cmp_eq_int (i j : Int) : cmpD .eq (.int i) (.int j) = some (decide (i = j)) := by rfl
@[simp] theorem cmp_eq_bl (i j : Bool) : cmpD .eq (.bl i) (.bl j) = some (decide (i = j)) := by rfl
@[simp] theorem cmp_eq_str (s t : List Nat) : cmpD .eq (.str s) (.str t) = some (decide (s = t)) := by rfl
@[simp] theorem cmp_eq_non_bl  (b : Bool) : cmpD .eq .non (.bl b) = some false := by rfl
@[simp] theorem cmp_eq_non_int  (i : Int) : cmpD .eq .non (.int i) = some false := by rfl
@[simp] theorem cmp_eq_non_str  (s : List Nat) : cmpD .eq .non (.str s) = some false := by rfl
@[simp] theorem cmp_eq_bl_non (b : Bool)  : cmpD .eq (.bl b) .non = some false := by rfl
@[simp] theorem cmp_eq_bl_str (b : Bool) (s : List Nat) : cmpD .eq (.bl b) (.str s) = some false := by rfl
@[simp] theorem cmp_eq_int_non (i : Int)  : cmpD .eq (.int i) .non = some false := by rfl
@[simp] theorem cmp_eq_int_str (i : Int) (s : List Nat) : cmpD .eq (.int i) (.str s) = some false := by rfl
@[simp] theorem cmp_eq_str_non (s : List Nat)  : cmpD .eq (.str s) .non = some false := by rfl
@[simp] theorem cmp_eq_str_bl (s : List Nat) (b : Bool) : cmpD .eq (.str s) (.bl b) = some false := by rfl
@[simp] theorem cmp_eq_str_int (s : List Nat) (i : Int) : cmpD .eq (.str s) (.int i) = some false := by rfl
@[simp] theorem cmp_eq_non  : cmpD .eq .non .non = some true := by rfl
@[simp] theorem cmp_ne_int (i j : Int) : cmpD .ne (.int i) (.int j) = some (!decide (i = j)) := by rfl
@[simp] theorem cmp_ne_bl (i j : Bool) : cmpD .ne (.bl i) (.bl j) = some (!decide (i = j)) := by rfl
@[simp] theorem cmp_ne_str (s t : List Nat) : cmpD .ne (.str s) (.str t) = some (!decide (s = t)) := by rfl
@[simp] theorem cmp_ne_non_bl  (b : Bool) : cmpD .ne .non (.bl b) = some true := by rfl
@[simp] theorem cmp_ne_non_int  (i : Int) : cmpD .ne .non (.int i) = some true := by rfl
@[simp] theorem cmp_ne_non_str  (s : List Nat) : cmpD .ne .non (.str s) = some true := by rfl
@[simp] theorem cmp_ne_bl_non (b : Bool)  : cmpD .ne (.bl b) .non = some true := by rfl
@[simp] theorem cmp_ne_bl_str (b : Bool) (s : List Nat) : cmpD .ne (.bl b) (.str s) = some true := by rfl
@[simp] theorem cmp_ne_int_non (i : Int)  : cmpD .ne (.int i) .non = some true := by rfl
@[simp] theorem cmp_ne_int_str (i : Int) (s : List Nat) : cmpD .ne (.int i) (.str s) = some true := by rfl
@[simp] theorem cmp_ne_str_non (s : List Nat)  : cmpD .ne (.str s) .non = some true := by rfl
@[simp] theorem cmp_ne_str_bl (s : List Nat) (b : Bool) : cmpD .ne (.str s) (.bl b) = some true := by rfl
@[simp] theorem cmp_ne_str_int (s : List Nat) (i : Int) : cmpD .ne (.str s) (.int i) = some true := by rfl
@[simp] theorem cmp_ne_non  : cmpD .ne .non .non = some false := by rfl
@[simp] theorem cmp_is (a : D) : cmpD .is a .non = isN a := by rfl
@[simp] theorem cmp_isnt (a : D) : cmpD .isnt a .non = (isN a).map (!·) := by rfl
@[simp] theorem cmp_in (a b : D) : cmpD .in a b = inD a b := by rfl
@[simp] theorem cmp_nin (a b : D) : cmpD .nin a b = (inD a b).map (!·) := by rfl
@[simp] theorem bi_int (i : Int) : biD .int [.int i] = some (.int i) := by rfl
@[simp] theorem bi_intb (b : Bool) : biD .int [.bl b] = some (.int (b2i b)) := by rfl
@[simp] theorem bi_tuple (xs : List D) : biD .tuple [.lst xs] = some (.tup xs) := by rfl
@[simp] theorem bi_tuplet (xs : List D) : biD .tuple [.tup xs] = some (.tup xs) := by rfl
@[simp] theorem bi_all (xs : List D) : biD .all [.lst xs] = (blsD xs).map fun bs => .bl (bs.all id) := by rfl
@[simp] theorem bi_any (xs : List D) : biD .any [.lst xs] = (blsD xs).map fun bs => .bl (bs.any id) := by rfl
@[simp] theorem bi_sum (xs : List D) : biD .sum [.lst xs] = (intsD xs).map fun ns => .int ns.sum := by rfl
@[simp] theorem bi_sumT (xs : List D) : biD .sum [.tup xs] = (intsD xs).map fun ns => .int ns.sum := by rfl
@[simp] theorem bi_sorted (xs : List D) : biD .sorted [.lst xs] = sortD xs := by rfl
@[simp] theorem bi_min (xs : List D) : biD .min [.lst xs] = (intsD xs).bind fun ns => (minI ns).map .int := by rfl
@[simp] theorem bi_max (xs : List D) : biD .max [.lst xs] = (intsD xs).bind fun ns => (maxI ns).map .int := by rfl
@[simp] theorem bi_min2 (i j : Int) : biD .min [.int i, .int j] = some (.int (if j < i then j else i)) := by rfl
@[simp] theorem bi_max2 (i j : Int) : biD .max [.int i, .int j] = some (.int (if j > i then j else i)) := by rfl
@[simp] theorem bi_abs (i : Int) : biD .abs [.int i] = some (.int (if i < 0 then -i else i)) := by rfl
@[simp] theorem asg_var (i : Nat) (d : D) (env : Env) : asgD (.var i) d env = if i < env.length then some (env.set i (some d)) else none := by rfl
@[simp] theorem asg_tup (is : List Nat) (xs : List D) (env : Env) : asgD (.tup is) (.tup xs) env = asgs is xs env := by rfl
@[simp] theorem mt_append (xs : List D) : mtTy .append (.lst xs) = true := by rfl
@[simp] theorem mt_extend (xs : List D) : mtTy .extend (.lst xs) = true := by rfl
@[simp] theorem mt_pop0 (xs : List D) : mtTy .pop0 (.lst xs) = true := by rfl
@[simp] theorem mt_pop1 (xs : List D) : mtTy .pop1 (.lst xs) = true := by rfl
@[simp] theorem mt_insert (xs : List D) : mtTy .insert (.lst xs) = true := by rfl
@[simp] theorem mt_count (xs : List D) : mtTy .count (.lst xs) = true := by rfl
@[simp] theorem mt_index (xs : List D) : mtTy .index (.lst xs) = true := by rfl
@[simp] theorem mt_join (xs : List Nat) : mtTy .join (.str xs) = true := by rfl
@[simp] theorem mt_split (xs : List Nat) : mtTy .split (.str xs) = true := by rfl
@[simp] theorem mt_get1 (xs : List (D × D)) : mtTy .get1 (.dct xs) = true := by rfl
@[simp] theorem mt_get2 (xs : List (D × D)) : mtTy .get2 (.dct xs) = true := by rfl
@[simp] theorem m_append (cs : Cs) (i : Nat) (d : D) : methC .append (.ptr i) [d] cs = appO i d cs cs[i]? := by simp only [methC]; cases cs[i]? with | none => rfl | some c => cases c <;> rfl
@[simp] theorem m_extend (cs : Cs) (i : Nat) (d : D) : methC .extend (.ptr i) [d] cs = extO i cs cs[i]? (view cs d) := by simp only [methC]; cases cs[i]? with | none => rfl | some c => cases c <;> cases view cs d <;> rfl
@[simp] theorem m_pop1 (cs : Cs) (i : Nat) (k : Int) : methC .pop1 (.ptr i) [.int k] cs = pop1O i k cs cs[i]? := by simp only [methC]; cases cs[i]? with | none => rfl | some c => cases c <;> rfl
@[simp] theorem m_pop0 (cs : Cs) (i : Nat) : methC .pop0 (.ptr i) [] cs = pop0O i cs cs[i]? := by simp only [methC]; cases cs[i]? with | none => rfl | some c => cases c <;> rfl
@[simp] theorem m_join (cs : Cs) (x : D) (sep : List Nat) : methC .join (.str sep) [x] cs = joinO sep cs (view cs x) := by simp only [methC]; cases view cs x <;> rfl
@[simp] theorem setC_int (cs : Cs) (i : Nat) (n : Int) (d : D) : setC (.ptr i) (.int n) d cs = setO i n d cs cs[i]? := by simp only [setC]; cases cs[i]? with | none => rfl | some c => cases c <;> simp [isKey, setO]
noncomputable def forB (F : Ctx) (tg : Tg) (b : ISs) : D → Env → Cs → Out := fun d env cs2 => match asgD tg d env with
      | some env' => exSs F b env' cs2
      | none => .bad
noncomputable def compB (F : Ctx) (tg : Tg) (c : IO) (elt : IE) (env0 : Env) : D → Cs → Res (Option D) := fun d cs2 => match asgD tg d env0 with
      | some env' => ((evC F c env' cs2).bind fun k cs3 => if k then (evE F elt env' cs3).bind fun y cs4 => .ok (some y) cs4 else .ok none cs3).noX
      | none => .bad
noncomputable def whlT (F : Ctx) (c : IE) : Env → Cs → Res Bool := fun env cs => tstR (evE F c env cs)
noncomputable def rng1R (d : D) (cs1 : Cs) : Res Src := match d with
    | .int i => if inR i then .ok ⟨none, rngD 0 i.toNat⟩ cs1 else .bad
    | _ => .bad
noncomputable def rng2R (d e : D) (cs2 : Cs) : Res Src := match d, e with
    | .int i, .int j => if inR i ∧ inR j then .ok ⟨none, rngD i (j - i).toNat⟩ cs2 else .bad
    | _, _ => .bad
noncomputable def rng3R (d e g : D) (cs3 : Cs) : Res Src := match d, e, g with
    | .int i, .int j, .int k => if k ≠ 0 ∧ k.natAbs < 1073741824 ∧ PySem.Builtin.Range.small i j k = true ∧ 0 ≤ PySem.Builtin.Range.rangeSize i j k then .ok ⟨none, rng3D i k (PySem.Builtin.Range.rangeSize i j k).toNat⟩ cs3 else .bad
    | _, _, _ => .bad
@[simp] theorem rng1R_int (i : Int) (cs : Cs) : rng1R (.int i) cs = if inR i then .ok ⟨none, rngD 0 i.toNat⟩ cs else .bad := by rfl
@[simp] theorem rng2R_int (i j : Int) (cs : Cs) : rng2R (.int i) (.int j) cs = if inR i ∧ inR j then .ok ⟨none, rngD i (j - i).toNat⟩ cs else .bad := by rfl
@[simp] theorem rng3R_int (i j k : Int) (cs : Cs) : rng3R (.int i) (.int j) (.int k) cs = if k ≠ 0 ∧ k.natAbs < 1073741824 ∧ PySem.Builtin.Range.small i j k = true ∧ 0 ≤ PySem.Builtin.Range.rangeSize i j k then .ok ⟨none, rng3D i k (PySem.Builtin.Range.rangeSize i j k).toNat⟩ cs else .bad := by rfl
@[simp] theorem evE_var (F : Ctx) {i} (env : Env) (cs : Cs) : evE F (.var i : IE) env cs = (match env[i]? with
    | some (some d) => .ok d cs
    | _ => .bad) := by rfl
@[simp] theorem evE_lit (F : Ctx) {d} (env : Env) (cs : Cs) : evE F (.lit d : IE) env cs = (.ok d cs) := by rfl
@[simp] theorem evE_glb (F : Ctx) {n} (env : Env) (cs : Cs) : evE F (.glb n : IE) env cs = (optR (F.glb n) cs) := by rfl
@[simp] theorem evE_bin (F : Ctx) {op} {a} {b} (env : Env) (cs : Cs) : evE F (.bin op a b : IE) env cs = ((evE F a env cs).bind fun x cs1 => (evE F b env cs1).bind fun y cs2 => optR (binD op (view cs2 x) (view cs2 y)) cs2) := by rfl
@[simp] theorem evE_neg (F : Ctx) {a} (env : Env) (cs : Cs) : evE F (.neg a : IE) env cs = ((evE F a env cs).bind fun x cs1 => match x with
    | .int i => .ok (.int (-i)) cs1
    | _ => .bad) := by rfl
@[simp] theorem evE_not (F : Ctx) {a} (env : Env) (cs : Cs) : evE F (.not a : IE) env cs = ((tstR (evE F a env cs)).bind fun b cs1 => .ok (.bl (!b)) cs1) := by rfl
@[simp] theorem evE_and (F : Ctx) {a} {b} (env : Env) (cs : Cs) : evE F (.and a b : IE) env cs = ((evE F a env cs).bind fun x cs1 => (optR (truV (view cs1 x)) cs1).bind fun k cs2 => if k then evE F b env cs2 else .ok x cs2) := by rfl
@[simp] theorem evE_or (F : Ctx) {a} {b} (env : Env) (cs : Cs) : evE F (.or a b : IE) env cs = ((evE F a env cs).bind fun x cs1 => (optR (truV (view cs1 x)) cs1).bind fun k cs2 => if k then .ok x cs2 else evE F b env cs2) := by rfl
@[simp] theorem evE_ite (F : Ctx) {c} {a} {b} (env : Env) (cs : Cs) : evE F (.ite c a b : IE) env cs = ((tstR (evE F c env cs)).bind fun k cs1 => if k then evE F a env cs1 else evE F b env cs1) := by rfl
@[simp] theorem evE_cmp (F : Ctx) {op} {a} {b} (env : Env) (cs : Cs) : evE F (.cmp op a b : IE) env cs = ((evE F a env cs).bind fun x cs1 => (evE F b env cs1).bind fun y cs2 => (optR (cmpD op (view cs2 x) (view cs2 y)) cs2).bind fun k cs3 => .ok (.bl k) cs3) := by rfl
@[simp] theorem evE_chn (F : Ctx) {o1} {o2} {a} {b} {c} (env : Env) (cs : Cs) : evE F (.chn o1 o2 a b c : IE) env cs = ((evE F a env cs).bind fun x cs1 => (evE F b env cs1).bind fun y cs2 => (optR (cmpD o1 (view cs2 x) (view cs2 y)) cs2).bind fun k cs3 =>
      if k then (evE F c env cs3).bind fun z cs4 => (optR (cmpD o2 (view cs4 y) (view cs4 z)) cs4).bind fun k2 cs5 => .ok (.bl k2) cs5 else .ok (.bl false) cs3) := by rfl
@[simp] theorem evE_tup (F : Ctx) {es} (env : Env) (cs : Cs) : evE F (.tup es : IE) env cs = ((evEs F es env cs).bind fun ds cs1 => if ds.length ≤ 1000 then .ok (.tup ds) cs1 else .bad) := by rfl
@[simp] theorem evE_call (F : Ctx) {f} {es} (env : Env) (cs : Cs) : evE F (.call f es : IE) env cs = ((evEs F es env cs).bind fun ds cs1 => F.fn f ds cs1) := by rfl
@[simp] theorem evE_bi (F : Ctx) {b} {es} (env : Env) (cs : Cs) : evE F (.bi b es : IE) env cs = ((evEs F es env cs).bind fun ds cs1 => optR (biD b (ds.map (view cs1))) cs1) := by rfl
@[simp] theorem evE_meth (F : Ctx) {m} {o} {es} (env : Env) (cs : Cs) : evE F (.meth m o es : IE) env cs = ((evE F o env cs).bind fun x cs1 => if mtTy m (view cs1 x) then (evEs F es env cs1).bind fun ds cs2 => methC m x ds cs2 else .bad) := by rfl
@[simp] theorem evE_idx (F : Ctx) {a} {i} (env : Env) (cs : Cs) : evE F (.idx a i : IE) env cs = ((evE F a env cs).bind fun x cs1 => (evE F i env cs1).bind fun y cs2 => optR (idxD (view cs2 x) y) cs2) := by rfl
@[simp] theorem evE_cut (F : Ctx) {a} {lo} {hi} (env : Env) (cs : Cs) : evE F (.cut a lo hi : IE) env cs = ((evE F a env cs).bind fun x cs1 => (evO F lo env cs1).bind fun l cs2 => (evO F hi env cs2).bind fun h cs3 => optR (cutV (view cs3 x) l h) cs3) := by rfl
@[simp] theorem evE_attr (F : Ctx) {a} {f} (env : Env) (cs : Cs) : evE F (.attr a f : IE) env cs = ((evE F a env cs).bind fun x cs1 => optR (attrD f (view cs1 x)) cs1) := by rfl
@[simp] theorem evE_isin (F : Ctx) {a} {tys} (env : Env) (cs : Cs) : evE F (.isin a tys : IE) env cs = ((evE F a env cs).bind fun x cs1 => (optR (tyAny tys (view cs1 x)) cs1).bind fun k cs2 => .ok (.bl k) cs2) := by rfl
@[simp] theorem evE_new (F : Ctx) {mu} {l} (env : Env) (cs : Cs) : evE F (.new mu l : IE) env cs = ((evL F l env cs).bind fun ds cs1 => if mu then .ok (.ptr cs1.length) (cs1 ++ [.lst ds]) else .ok (.lst ds) cs1) := by rfl
@[simp] theorem evEs_nil (F : Ctx) (env : Env) (cs : Cs) : evEs F (.nil : IEs) env cs = (.ok [] cs) := by simp only [evEs]
@[simp] theorem evEs_cons (F : Ctx) {e} {es} (env : Env) (cs : Cs) : evEs F (.cons e es : IEs) env cs = ((evE F e env cs).bind fun d cs1 => (evEs F es env cs1).bind fun ds cs2 => .ok (d :: ds) cs2) := by rfl
@[simp] theorem evO_no (F : Ctx) (env : Env) (cs : Cs) : evO F (.no : IO) env cs = (.ok none cs) := by simp only [evO]
@[simp] theorem evO_yes (F : Ctx) {e} (env : Env) (cs : Cs) : evO F (.yes e : IO) env cs = ((evE F e env cs).bind fun d cs1 => match d with
    | .int i => .ok (some i) cs1
    | _ => .bad) := by rfl
@[simp] theorem evC_no (F : Ctx) (env : Env) (cs : Cs) : evC F (.no : IO) env cs = (.ok true cs) := by simp only [evC]
@[simp] theorem evC_yes (F : Ctx) {e} (env : Env) (cs : Cs) : evC F (.yes e : IO) env cs = (tstR (evE F e env cs)) := by rfl
@[simp] theorem evL_disp (F : Ctx) {es} (env : Env) (cs : Cs) : evL F (.disp es : IL) env cs = ((evEs F es env cs).bind fun ds cs1 => if ds.length ≤ 1000 then .ok ds cs1 else .bad) := by rfl
@[simp] theorem evL_comp (F : Ctx) {own} {tg} {it} {c} {elt} (env : Env) (cs : Cs) : evL F (.comp own tg it c elt : IL) env cs = ((evT F it env cs).bind fun s cs1 => if s.items.length ≤ line then compD s.same (compB F tg c elt (wipeD env own)) s.items cs1 else .bad) := by rfl
@[simp] theorem evL_cat (F : Ctx) {a} {b} (env : Env) (cs : Cs) : evL F (.cat a b : IL) env cs = ((evE F a env cs).bind fun x cs1 => (evE F b env cs1).bind fun y cs2 => match view cs2 x, view cs2 y with
    | .lst xs, .lst ys => if xs.length + ys.length ≤ line then .ok (xs ++ ys) cs2 else .bad
    | _, _ => .bad) := by rfl
@[simp] theorem evL_rep (F : Ctx) {a} {b} (env : Env) (cs : Cs) : evL F (.rep a b : IL) env cs = ((evE F a env cs).bind fun x cs1 => (evE F b env cs1).bind fun y cs2 => match view cs2 x, y with
    | .lst xs, .int k => if inR k ∧ xs.length * k.toNat ≤ line then .ok (List.replicate k.toNat xs).flatten cs2 else .bad
    | _, _ => .bad) := by rfl
@[simp] theorem evL_of (F : Ctx) {e} (env : Env) (cs : Cs) : evL F (.of e : IL) env cs = ((evE F e env cs).bind fun x cs1 => optR (seqV (view cs1 x)) cs1) := by rfl
@[simp] theorem evL_ofr (F : Ctx) {it} (env : Env) (cs : Cs) : evL F (.ofr it : IL) env cs = ((evT F it env cs).bind fun s cs1 => if s.items.length ≤ line then .ok s.items cs1 else .bad) := by rfl
@[simp] theorem evT_seq (F : Ctx) {e} (env : Env) (cs : Cs) : evT F (.seq e : IT) env cs = ((evE F e env cs).bind fun d cs1 => optR (walkD cs1 d) cs1) := by rfl
@[simp] theorem evT_rng1 (F : Ctx) {a} (env : Env) (cs : Cs) : evT F (.rng1 a) env cs = (evE F a env cs).bind rng1R := by rfl
@[simp] theorem evT_rng2 (F : Ctx) {a} {b} (env : Env) (cs : Cs) : evT F (.rng2 a b) env cs = (evE F a env cs).bind fun d cs1 => (evE F b env cs1).bind fun e cs2 => rng2R d e cs2 := by rfl
@[simp] theorem evT_rng3 (F : Ctx) {a} {b} {c} (env : Env) (cs : Cs) : evT F (.rng3 a b c) env cs = (evE F a env cs).bind fun d cs1 => (evE F b env cs1).bind fun e cs2 => (evE F c env cs2).bind fun g cs3 => rng3R d e g cs3 := by rfl
@[simp] theorem evT_zip (F : Ctx) {a} {b} (env : Env) (cs : Cs) : evT F (.zip a b) env cs = (evE F a env cs).bind fun d cs1 => (evE F b env cs1).bind fun e cs2 => optR ((zipD d e).map (Src.mk none)) cs2 := by rfl
@[simp] theorem zip_tup (xs ys : List D) : zipD (.tup xs) (.tup ys) = some (List.zipWith (fun a b => .tup [a, b]) xs ys) := by rfl
@[simp] theorem zip_lst (xs ys : List D) : zipD (.lst xs) (.lst ys) = some (List.zipWith (fun a b => .tup [a, b]) xs ys) := by rfl
@[simp] theorem evE_callK (F : Ctx) {f n m} {ord} {es kw} (env : Env) (cs : Cs) : evE F (.callK f n m ord es kw) env cs = (evEs F es env cs).bind fun ds cs1 => (evEs F kw env cs1).bind fun zs cs2 => if ds.length = n ∧ zs.length = m then (match pickD (ds ++ zs) ord with
      | some as => F.fn f as cs2
      | none => .bad) else .bad := by rfl
@[simp] theorem exS_ret (F : Ctx) {e} (env : Env) (cs : Cs) : exS F (.ret e : IS) env cs = ((evE F e env cs).out env fun d cs1 => .ret d cs1) := by rfl
@[simp] theorem exS_retN (F : Ctx) (env : Env) (cs : Cs) : exS F (.retN : IS) env cs = (.ret .non cs) := by simp only [exS]
@[simp] theorem exS_drop (F : Ctx) {e} (env : Env) (cs : Cs) : exS F (.drop e : IS) env cs = ((evE F e env cs).out env fun _ cs1 => .nx env cs1) := by rfl
@[simp] theorem exS_asg (F : Ctx) {tg} {e} (env : Env) (cs : Cs) : exS F (.asg tg e : IS) env cs = ((evE F e env cs).out env fun d cs1 => match asgD tg d env with
    | some env' => .nx env' cs1
    | none => .bad) := by rfl
@[simp] theorem exS_setI (F : Ctx) {o} {i} {e} (env : Env) (cs : Cs) : exS F (.setI o i e : IS) env cs = ((evE F e env cs).out env fun d cs1 => (evE F o env cs1).out env fun x cs2 => (evE F i env cs2).out env fun k cs3 => match setC x k d cs3 with
    | some cs4 => .nx env cs4
    | none => .bad) := by rfl
@[simp] theorem exS_setA (F : Ctx) {o} {f} {e} (env : Env) (cs : Cs) : exS F (.setA o f e : IS) env cs = ((evE F e env cs).out env fun d cs1 => (evE F o env cs1).out env fun x cs2 => match setAC x f d cs2 with
    | some cs3 => .nx env cs3
    | none => .bad) := by rfl
@[simp] theorem exS_aug (F : Ctx) {i} {op} {e} (env : Env) (cs : Cs) : exS F (.aug i op e : IS) env cs = (match env[i]? with
    | some (some x) => (evE F e env cs).out env fun y cs1 => match augD op x y with
      | some z => .nx (env.set i (some z)) cs1
      | none => .bad
    | _ => .bad) := by rfl
@[simp] theorem exS_augI (F : Ctx) {o} {i} {op} {e} (env : Env) (cs : Cs) : exS F (.augI o i op e : IS) env cs = ((evE F o env cs).out env fun x cs1 => (evE F i env cs1).out env fun k cs2 => match idxG (view cs2 x) k with
    | some v => (evE F e env cs2).out env fun y cs3 => match augD op v y with
      | some z => match setC x k z cs3 with
        | some cs4 => .nx env cs4
        | none => .bad
      | none => .bad
    | none => .bad) := by rfl
@[simp] theorem exS_ife (F : Ctx) {c} {a} {b} (env : Env) (cs : Cs) : exS F (.ife c a b : IS) env cs = ((tstR (evE F c env cs)).out env fun k cs1 => if k then exSs F a env cs1 else exSs F b env cs1) := by rfl
@[simp] theorem exS_forS (F : Ctx) {tg} {it} {b} (env : Env) (cs : Cs) : exS F (.forS tg it b : IS) env cs = ((evT F it env cs).out env fun s cs1 => forD s.same (forB F tg b) s.items env cs1) := by rfl
@[simp] theorem exS_whileS (F : Ctx) {c} {b} (env : Env) (cs : Cs) : exS F (.whileS c b : IS) env cs = (whileD (whlT F c) (exSs F b) F.fuel env cs) := by rfl
@[simp] theorem exS_raise (F : Ctx) {c} {es} (env : Env) (cs : Cs) : exS F (.raise c es : IS) env cs = ((evEs F es env cs).out env fun ds cs1 => .exc c ds env cs1) := by rfl
@[simp] theorem exS_never (F : Ctx) (env : Env) (cs : Cs) : exS F (.never : IS) env cs = (.bad) := by simp only [exS]
@[simp] theorem exS_thru (F : Ctx) {b} (env : Env) (cs : Cs) : exS F (.thru b : IS) env cs = (match exSs F b env cs with
    | .exc _ _ _ _ => .bad
    | r => r) := by rfl
@[simp] theorem exS_pass (F : Ctx) (env : Env) (cs : Cs) : exS F (.pass : IS) env cs = (.nx env cs) := by simp only [exS]
@[simp] theorem exS_brk (F : Ctx) (env : Env) (cs : Cs) : exS F (.brk : IS) env cs = (.brk env cs) := by simp only [exS]
@[simp] theorem exS_cnt (F : Ctx) (env : Env) (cs : Cs) : exS F (.cnt : IS) env cs = (.cnt env cs) := by simp only [exS]
@[simp] theorem exSs_nil (F : Ctx) (env : Env) (cs : Cs) : exSs F (.nil : ISs) env cs = (.nx env cs) := by simp only [exSs]
@[simp] theorem exSs_cons (F : Ctx) {s} {ss} (env : Env) (cs : Cs) : exSs F (.cons s ss : ISs) env cs = ((exS F s env cs).seq fun env cs => exSs F ss env cs) := by rfl

@[simp] theorem fin_len {keep : Bool} {cs cs2 : Cs} {d : D} (h : cs2.length = cs.length) : fin keep cs d cs2 = .ok d cs2 := by
  unfold fin
  rw [if_pos (.inr h)]
@[simp] theorem fin_keep {cs cs2 : Cs} {d : D} : fin true cs d cs2 = .ok d cs2 := by
  unfold fin
  rw [if_pos (.inl rfl)]
end DH
end
section
set_option Elab.async false
set_option linter.all false
set_option maxRecDepth 100000
set_option maxHeartbeats 4000000
/-! DH23: places, cuts, joins. -/
namespace DH
open PySem L2
@[simp] theorem atI_0 {α : Type} (a : α) (r : List α) : atI (a :: r) 0 = some a := by
  have := atI_nat (xs := a :: r) (j := 0) (v := a) rfl
  simpa using this
@[simp] theorem atI_1 {α : Type} (a b : α) (r : List α) : atI (a :: b :: r) 1 = some b := by
  have := atI_nat (xs := a :: b :: r) (j := 1) (v := b) rfl
  simpa using this
@[simp] theorem atI_2 {α : Type} (a b c : α) (r : List α) : atI (a :: b :: c :: r) 2 = some c := by
  have := atI_nat (xs := a :: b :: c :: r) (j := 2) (v := c) rfl
  simpa using this
@[simp] theorem atI_3 {α : Type} (a b c d : α) (r : List α) : atI (a :: b :: c :: d :: r) 3 = some d := by
  have := atI_nat (xs := a :: b :: c :: d :: r) (j := 3) (v := d) rfl
  simpa using this
@[simp] theorem atI_snoc {α : Type} (xs : List α) (v : α) : atI (xs ++ [v]) (-1) = some v := atI_last xs v
theorem atI_k {α : Type} {xs : List α} {j : Nat} {v : α} (h : xs[j]? = some v) : atI xs (j : Int) = some v := atI_nat h
theorem ixN_k {n j : Nat} (hj : j < n) : ixN n (j : Int) = some j := by
  unfold ixN
  rw [if_pos (by omega), if_pos (by omega), Int.toNat_natCast]
@[simp] theorem ixN_0 (n : Nat) : ixN (n + 1) 0 = some 0 := ixN_k (n := n + 1) (j := 0) (by omega)
@[simp] theorem ixN_1 (n : Nat) : ixN (n + 1 + 1) 1 = some 1 := ixN_k (n := n + 1 + 1) (j := 1) (by omega)
@[simp] theorem ixN_m1 (n : Nat) : ixN (n + 1) (-1) = some n := by
  unfold ixN
  rw [if_neg (by decide), if_pos (by omega)]
  congr 1
  omega
theorem sIx_nn (n d : Nat) (k : Nat) : HT.sIx n d (some (k : Int)) = min k n := by
  show (if (k : Int) < 0 then ((k : Int) + (n : Int)).toNat else min (k : Int).toNat n) = min k n
  rw [if_neg (by omega), Int.toNat_natCast]
theorem cutD_nn {α : Type} (xs : List α) (a b : Nat) : cutD xs (some (a : Int)) (some (b : Int)) = (xs.drop a).take (b - a) := by
  unfold cutD
  rw [sIx_nn, sIx_nn]
  by_cases h : a ≤ xs.length
  · rw [Nat.min_eq_left h]
    by_cases h2 : b ≤ xs.length
    · rw [Nat.min_eq_left h2]
    · rw [Nat.min_eq_right (by omega), List.take_of_length_le (by simp), List.take_of_length_le (by simp; omega)]
  · rw [List.drop_of_length_le (by omega), List.drop_of_length_le (by omega)]
    simp
theorem joinL_nil : ∀ ss : List (List Nat), TL.joinL [] ss = ss.flatten
  | [] => rfl
  | [a] => by simp [TL.joinL]
  | a :: b :: r => by
    have := joinL_nil (b :: r)
    simp only [TL.joinL, List.append_nil, this]
    simp
@[simp] theorem ltS_1 (a b : Nat) : ltS [a] [b] = decide (a < b) := ltS_one a b
@[simp] theorem ctx_fn (G : Glob) (fn : Nat → List D → Cs → Res D) : (ctxD G fn).fn = fn := rfl
/-- a comprehension without a test -/
theorem compD_all {α : Type} {ok : Cs → Prop} {f : D → Cs → Res (Option D)} (h1 : α → D) (g : α → D) {cs : Cs} (hok : ok cs) {as : List α} (h : ∀ a ∈ as, f (h1 a) cs = .ok (some (g a)) cs) : compD ok f (as.map h1) cs = .ok (as.map g) cs := by
  rw [compD_mapA h1 (fun a => some (g a)) hok h]
  simp
@[simp] theorem bls_comp {α : Type} (p : α → Bool) : ∀ as : List α, blsD (as.map fun a => .bl (p a)) = some (as.map p)
  | [] => rfl
  | a :: as => by simp [blsD, bls_comp p as]
@[simp] theorem bls_rep (b : Bool) (n : Nat) : blsD (List.replicate n (.bl b)) = some (List.replicate n b) := by
  have := bls_map (List.replicate n b)
  simpa using this
@[simp] theorem ints_comp {α : Type} (p : α → Int) : ∀ as : List α, intsD (as.map fun a => .int (p a)) = some (as.map p)
  | [] => rfl
  | a :: as => by simp [intsD, ints_comp p as]
@[simp] theorem strs_comp {α : Type} (p : α → List Nat) : ∀ as : List α, strsD (as.map fun a => .str (p a)) = some (as.map p)
  | [] => rfl
  | a :: as => by simp [strsD, strs_comp p as]
@[simp] theorem wipe_nil (env : Env) : wipeD env [] = env := rfl
@[simp] theorem wipe_cons (env : Env) (v : Nat) (vs : List Nat) : wipeD env (v :: vs) = (wipeD env vs).set v none := rfl
@[simp] theorem asgs_nil (env : Env) : asgs [] [] env = some env := rfl
@[simp] theorem asgs_cons (i : Nat) (is : List Nat) (d : D) (ds : List D) (env : Env) : asgs (i :: is) (d :: ds) env = if i < env.length then asgs is ds (env.set i (some d)) else none := rfl
@[simp] theorem tyAny_nil (d : D) : tyAny [] d = some false := rfl
@[simp] theorem tyAny_cons (t : Ty) (ts : List Ty) (d : D) : tyAny (t :: ts) d = (match tyIs t d with | some true => some true | some false => tyAny ts d | none => none) := rfl
/-! ### ends -/
def nxt : Out → (Env → Cs → Prop) → Prop
  | .nx e c, Q => Q e c
  | .cnt e c, Q => Q e c
  | _, _ => False
def okR {α : Type} : Res α → (α → Cs → Prop) → Prop
  | .ok a c, Q => Q a c
  | _, _ => False
@[simp] theorem nxt_nx (e : Env) (c : Cs) (Q : Env → Cs → Prop) : nxt (.nx e c) Q = Q e c := rfl
@[simp] theorem nxt_cnt (e : Env) (c : Cs) (Q : Env → Cs → Prop) : nxt (.cnt e c) Q = Q e c := rfl
@[simp] theorem okR_ok {α : Type} (a : α) (c : Cs) (Q : α → Cs → Prop) : okR (.ok a c) Q = Q a c := rfl
theorem nxt_ex {o : Out} {Q : Env → Cs → Prop} (h : nxt o Q) : ∃ e c, (o = .nx e c ∨ o = .cnt e c) ∧ Q e c := by
  cases o with
  | nx e c => exact ⟨e, c, .inl rfl, h⟩
  | cnt e c => exact ⟨e, c, .inr rfl, h⟩
  | _ => exact h.elim
theorem nxt_mono {o : Out} {Q R : Env → Cs → Prop} (h : nxt o Q) (hm : ∀ e c, Q e c → R e c) : nxt o R := by
  cases o with
  | nx e c => exact hm _ _ h
  | cnt e c => exact hm _ _ h
  | _ => exact h.elim
theorem okR_ex {α : Type} {o : Res α} {Q : α → Cs → Prop} (h : okR o Q) : ∃ e c, o = .ok e c ∧ Q e c := by
  cases o with
  | ok e c => exact ⟨e, c, rfl, h⟩
  | _ => exact h.elim
theorem forI {ok : Cs → Prop} {f : D → Env → Cs → Out} (I : Nat → Env → Cs → Prop) {ds : List D} {env : Env} {cs : Cs} (hok : ∀ i e cs, I i e cs → ok cs) (h0 : I 0 env cs) (hs : ∀ i d, ds[i]? = some d → ∀ env cs, I i env cs → nxt (f d env cs) (I (i + 1))) :
    ∃ env' cs', forD ok f ds env cs = .nx env' cs' ∧ I ds.length env' cs' := for0 I hok h0 fun i d hd env cs h => nxt_ex (hs i d hd env cs h)
theorem forIm {α : Type} {ok : Cs → Prop} {f : D → Env → Cs → Out} {h1 : α → D} (I : Nat → Env → Cs → Prop) {ds : List α} {env : Env} {cs : Cs} (hok : ∀ i e cs, I i e cs → ok cs) (h0 : I 0 env cs) (hs : ∀ i d, ds[i]? = some d → ∀ env cs, I i env cs → nxt (f (h1 d) env cs) (I (i + 1))) :
    ∃ env' cs', forD ok f (ds.map h1) env cs = .nx env' cs' ∧ I ds.length env' cs' := by
  have z := forI (ok := ok) (f := f) I (ds := ds.map h1) (env := env) (cs := cs) hok h0 fun i d hd env cs h => by
    rw [List.getElem?_map] at hd
    obtain ⟨n, h2, rfl⟩ := Option.map_eq_some_iff.mp hd
    exact hs i n h2 env cs h
  simpa using z
theorem compI {ok : Cs → Prop} {f : D → Cs → Res (Option D)} (I : Nat → List D → Cs → Prop) {ds : List D} {cs : Cs} (hok : ∀ i acc cs, I i acc cs → ok cs) (h0 : I 0 [] cs) (hs : ∀ i d, ds[i]? = some d → ∀ acc cs, I i acc cs → okR (f d cs) fun o cs' => I (i + 1) (acc ++ o.toList) cs') :
    ∃ r cs', compD ok f ds cs = .ok r cs' ∧ I ds.length r cs' := comp0 I hok h0 fun i d hd acc cs h => okR_ex (hs i d hd acc cs h)
/-! ### range with a step -/
theorem rng3D_get (lo st : Int) : ∀ n i, i < n → (rng3D lo st n)[i]? = some (.int (lo + st * i))
  | n + 1, 0, _ => by simp [rng3D]
  | n + 1, i + 1, h => by
    simp only [rng3D, List.getElem?_cons_succ, rng3D_get (lo + st) st n i (by omega)]
    congr 2
    push_cast
    rw [Int.mul_add]
    omega
@[simp] theorem rng3D_len (lo st : Int) : ∀ n, (rng3D lo st n).length = n
  | 0 => rfl
  | n + 1 => by simp [rng3D, rng3D_len (lo + st) st n]
theorem rng3D_map (lo st : Int) : ∀ n, rng3D lo st n = (List.range n).map fun (i : Nat) => D.int (lo + st * i) := by
  intro n
  apply List.ext_getElem?
  intro i
  by_cases h : i < n
  · rw [rng3D_get lo st n i h]
    simp [h]
  · rw [List.getElem?_eq_none (by simp; omega), List.getElem?_eq_none (by simp; omega)]
theorem rngD_map (lo : Int) : ∀ n, rngD lo n = (List.range n).map fun (i : Nat) => D.int (lo + i) := by
  intro n
  apply List.ext_getElem?
  intro i
  by_cases h : i < n
  · rw [rngD_get lo n i h]
    simp [h]
  · rw [List.getElem?_eq_none (by simp; omega), List.getElem?_eq_none (by simp; omega)]
end DH
end
section
set_option Elab.async false
set_option linter.all false
set_option maxRecDepth 100000
set_option maxHeartbeats 4000000
/-! K78a: the text of law_k78_even_shares_by_quotients in the small language; printed by gen.py -/
namespace K78
open DH PySem L2
def top (i : Nat) : Stmt := PySem.Challenge.pw_deckhands_k78_even_shares_by_quotients.main.body.getD i (.Pass ⟨0, 0, 0, 0⟩)
def is_within_b : ISs := (.cons (.ret (.and (.isin (.var 0) [.int]) (.and (.not (.isin (.var 0) [.bool])) (.chn .le .le (.var 1) (.var 0) (.var 2))))) .nil)
def is_within_f : Fn := ⟨"is_within", ["value", "low", "high"], ["value", "low", "high"], is_within_b, false, []⟩
def is_number_b : ISs := (.cons (.ret (.call 0 (.cons (.var 0) (.cons (.lit (.int 0)) (.cons (.bin .sub (.var 1) (.lit (.int 1))) .nil))))) .nil)
def is_number_f : Fn := ⟨"is_number", ["value", "many"], ["value", "many"], is_number_b, false, []⟩
def check_amounts_b : ISs := (.cons (.ife (.or (.not (.isin (.var 0) [.tuple])) (.not (.chn .le .le (.lit (.int 1)) (.bi .len (.cons (.var 0) .nil)) (.glb 0)))) (.cons .never .nil) .nil) (.cons (.ife (.or (.not (.bi .all (.cons (.new false (.comp [1] (.var 1) (.seq (.var 0)) .no (.call 1 (.cons (.var 1) (.cons (.bin .add (.glb 1) (.lit (.int 1))) .nil))))) .nil))) (.cmp .eq (.bi .sum (.cons (.var 0) .nil)) (.lit (.int 0)))) (.cons .never .nil) .nil) .nil))
def check_amounts_f : Fn := ⟨"check_amounts", ["amounts"], ["amounts", "amount"], check_amounts_b, false, []⟩
def check_total_b : ISs := (.cons (.ife (.not (.call 1 (.cons (.var 0) (.cons (.bin .add (.glb 1) (.lit (.int 1))) .nil)))) (.cons .never .nil) .nil) .nil)
def check_total_f : Fn := ⟨"check_total", ["total"], ["total"], check_total_b, false, []⟩
def next_even_b1 : ISs := (.cons (.ife (.cmp .gt (.bin .mul (.idx (.var 0) (.var 3)) (.bin .add (.bin .mul (.lit (.int 2)) (.idx (.var 1) (.var 2))) (.lit (.int 1)))) (.bin .mul (.idx (.var 0) (.var 2)) (.bin .add (.bin .mul (.lit (.int 2)) (.idx (.var 1) (.var 3))) (.lit (.int 1))))) (.cons (.asg (.var 2) (.var 3)) .nil) .nil) .nil)
def next_even_b : ISs := (.cons (.asg (.var 2) (.lit (.int 0))) (.cons (.forS (.var 3) (.rng2 (.lit (.int 1)) (.bi .len (.cons (.var 0) .nil))) next_even_b1) (.cons (.ret (.var 2)) .nil)))
def next_even_f : Fn := ⟨"next_even", ["amounts", "found"], ["amounts", "found", "best", "place"], next_even_b, false, []⟩
def even_shares_b1 : ISs := (.cons (.augI (.var 2) (.call 4 (.cons (.var 0) (.cons (.var 2) .nil))) .add (.lit (.int 1))) .nil)
def even_shares_b : ISs := (.cons (.drop (.call 2 (.cons (.var 0) .nil))) (.cons (.drop (.call 3 (.cons (.var 1) .nil))) (.cons (.asg (.var 2) (.new true (.rep (.new false (.disp (.cons (.lit (.int 0)) .nil))) (.bi .len (.cons (.var 0) .nil))))) (.cons (.forS (.var 3) (.rng1 (.var 1)) even_shares_b1) (.cons (.ret (.bi .tuple (.cons (.var 2) .nil))) .nil)))))
def even_shares_f : Fn := ⟨"even_shares", ["amounts", "total"], ["amounts", "total", "found", "_"], even_shares_b, false, [(["total", "amounts"], [1, 0])]⟩
def law_pool_b1 : ISs := (.cons (.asg (.var 1) (.bin .mod (.bi .int (.cons (.bin .add (.bin .add (.bin .mul (.var 1) (.var 1)) (.bin .mul (.lit (.int 3)) (.var 2))) (.lit (.int 104729))) .nil)) (.lit (.int 2305843009213693951)))) .nil)
def law_pool_b2 : ISs := (.cons (.asg (.var 1) (.bin .mod (.bi .int (.cons (.bin .add (.bin .mul (.var 1) (.var 1)) (.lit (.int 104729))) .nil)) (.lit (.int 2305843009213693951)))) .nil)
def law_pool_b : ISs := (.cons (.asg (.var 1) (.bin .add (.lit (.int 314159265358979323)) (.bin .mul (.lit (.int 7919)) (.bi .len (.cons (.var 0) .nil))))) (.cons (.forS (.var 2) (.seq (.var 0)) law_pool_b1) (.cons (.forS (.var 3) (.rng1 (.lit (.int 2))) law_pool_b2) (.cons (.ret (.new true (.cat (.new false (.disp (.cons (.var 1) .nil))) (.new false (.comp [2] (.var 2) (.seq (.var 0)) (.yes (.cmp .ge (.var 2) (.lit (.int 1000000000000000000)))) (.var 2)))))) .nil))))
def law_pool_f : Fn := ⟨"_law_pool", ["script"], ["script", "seed", "cell", "turn"], law_pool_b, true, []⟩
def law_draw_b : ISs := (.cons (.ife (.cmp .gt (.bi .len (.cons (.var 0) .nil)) (.lit (.int 1))) (.cons (.asg (.var 2) (.bin .mod (.bi .int (.cons (.idx (.var 0) (.lit (.int 1))) .nil)) (.var 1))) (.cons (.setI (.var 0) (.lit (.int 1)) (.bin .fdiv (.bi .int (.cons (.idx (.var 0) (.lit (.int 1))) .nil)) (.var 1))) (.cons (.ife (.cmp .eq (.idx (.var 0) (.lit (.int 1))) (.lit (.int 0))) (.cons (.drop (.meth .pop1 (.var 0) (.cons (.lit (.int 1)) .nil))) .nil) .nil) (.cons (.ret (.var 2)) .nil)))) .nil) (.cons (.setI (.var 0) (.lit (.int 0)) (.bin .mod (.bi .int (.cons (.bin .add (.bin .mul (.idx (.var 0) (.lit (.int 0))) (.idx (.var 0) (.lit (.int 0)))) (.lit (.int 104729))) .nil)) (.lit (.int 2305843009213693951)))) (.cons (.ret (.bin .mod (.bi .int (.cons (.bin .fdiv (.idx (.var 0) (.lit (.int 0))) (.lit (.int 1048576))) .nil)) (.var 1))) .nil)))
def law_draw_f : Fn := ⟨"_law_draw", ["pool", "many"], ["pool", "many", "drawn"], law_draw_b, false, []⟩
def law_one_of_b : ISs := (.cons (.ret (.idx (.var 1) (.call 7 (.cons (.var 0) (.cons (.bi .len (.cons (.var 1) .nil)) .nil))))) .nil)
def law_one_of_f : Fn := ⟨"_law_one_of", ["pool", "rows"], ["pool", "rows"], law_one_of_b, false, []⟩
def law_same_b1 : ISs := (.cons (.ife (.not (.call 9 (.cons (.idx (.var 0) (.var 2)) (.cons (.idx (.var 1) (.var 2)) .nil)))) (.cons (.ret (.lit (.bl false))) .nil) .nil) .nil)
def law_same_b : ISs := (.cons (.ife (.isin (.var 1) [.tuple]) (.cons (.ife (.or (.not (.isin (.var 0) [.tuple])) (.cmp .ne (.bi .len (.cons (.var 0) .nil)) (.bi .len (.cons (.var 1) .nil)))) (.cons (.ret (.lit (.bl false))) .nil) .nil) (.cons (.forS (.var 2) (.rng1 (.bi .len (.cons (.var 1) .nil))) law_same_b1) (.cons (.ret (.lit (.bl true))) .nil))) .nil) (.cons (.ife (.isin (.var 1) [.bool]) (.cons (.ret (.and (.isin (.var 0) [.bool]) (.cmp .eq (.var 0) (.var 1)))) .nil) .nil) (.cons (.ife (.isin (.var 1) [.int]) (.cons (.ret (.and (.isin (.var 0) [.int]) (.and (.not (.isin (.var 0) [.bool])) (.cmp .eq (.var 0) (.var 1))))) .nil) .nil) (.cons (.ife (.isin (.var 1) [.str]) (.cons (.ret (.and (.isin (.var 0) [.str]) (.cmp .eq (.var 0) (.var 1)))) .nil) .nil) (.cons (.ret (.and (.cmp .is (.var 1) (.lit .non)) (.cmp .is (.var 0) (.lit .non)))) .nil)))))
def law_same_f : Fn := ⟨"_law_same", ["told", "due"], ["told", "due", "k"], law_same_b, false, []⟩
def law_amounts_b : ISs := (.cons (.asg (.var 1) (.call 8 (.cons (.var 0) (.cons (.new false (.disp (.cons (.lit (.int 4)) (.cons (.lit (.int 20)) (.cons (.lit (.int 1000)) .nil))))) .nil)))) (.cons (.asg (.var 2) (.new true (.comp [3] (.var 3) (.rng1 (.bin .add (.lit (.int 1)) (.call 7 (.cons (.var 0) (.cons (.lit (.int 5)) .nil))))) .no (.call 7 (.cons (.var 0) (.cons (.var 1) .nil)))))) (.cons (.ife (.cmp .eq (.bi .sum (.cons (.var 2) .nil)) (.lit (.int 0))) (.cons (.setI (.var 2) (.call 7 (.cons (.var 0) (.cons (.bi .len (.cons (.var 2) .nil)) .nil))) (.bin .add (.lit (.int 1)) (.call 7 (.cons (.var 0) (.cons (.bin .sub (.var 1) (.lit (.int 1))) .nil))))) .nil) .nil) (.cons (.ret (.bi .tuple (.cons (.var 2) .nil))) .nil))))
def law_amounts_f : Fn := ⟨"_law_amounts", ["pool"], ["pool", "most", "rows", "k"], law_amounts_b, false, []⟩
def law_many_amounts_b : ISs := (.cons (.asg (.var 1) (.new true (.of (.call 10 (.cons (.var 0) .nil))))) (.cons (.ife (.cmp .eq (.call 7 (.cons (.var 0) (.cons (.lit (.int 3)) .nil))) (.lit (.int 0))) (.cons (.asg (.var 1) (.new true (.comp [2] (.var 2) (.rng1 (.bin .add (.lit (.int 3)) (.call 7 (.cons (.var 0) (.cons (.lit (.int 3)) .nil))))) .no (.bin .add (.lit (.int 1)) (.call 7 (.cons (.var 0) (.cons (.lit (.int 12)) .nil))))))) .nil) .nil) (.cons (.ife (.cmp .eq (.call 7 (.cons (.var 0) (.cons (.lit (.int 3)) .nil))) (.lit (.int 0))) (.cons (.setI (.var 1) (.call 7 (.cons (.var 0) (.cons (.bi .len (.cons (.var 1) .nil)) .nil))) (.bi .max (.cons (.var 1) .nil))) .nil) .nil) (.cons (.ret (.bi .tuple (.cons (.var 1) .nil))) .nil))))
def law_many_amounts_f : Fn := ⟨"_law_many_amounts", ["pool"], ["pool", "rows", "k"], law_many_amounts_b, false, []⟩
def law_row_of_places_b2 : ISs := (.cons (.drop (.meth .append (.var 2) (.cons (.tup (.cons (.neg (.bin .fdiv (.bin .mul (.idx (.var 0) (.var 3)) (.lit (.int 100000000))) (.bin .add (.bin .mul (.lit (.int 2)) (.var 4)) (.lit (.int 1))))) (.cons (.var 3) .nil))) .nil))) .nil)
def law_row_of_places_b1 : ISs := (.cons (.forS (.var 4) (.rng1 (.var 1)) law_row_of_places_b2) .nil)
def law_row_of_places_b : ISs := (.cons (.asg (.var 2) (.new true (.disp .nil))) (.cons (.forS (.var 3) (.rng1 (.bi .len (.cons (.var 0) .nil))) law_row_of_places_b1) (.cons (.ret (.new false (.comp [5] (.var 5) (.seq (.cut (.bi .sorted (.cons (.var 2) .nil)) .no (.yes (.var 1)))) .no (.idx (.var 5) (.lit (.int 1)))))) .nil)))
def law_row_of_places_f : Fn := ⟨"_law_row_of_places", ["amounts", "most"], ["amounts", "most", "rows", "k", "many", "pair"], law_row_of_places_b, false, []⟩
def law_counted_b1 : ISs := (.cons (.setI (.var 3) (.var 4) (.bin .add (.idx (.var 3) (.var 4)) (.lit (.int 1)))) .nil)
def law_counted_b : ISs := (.cons (.asg (.var 3) (.new true (.comp [5] (.var 5) (.rng1 (.var 1)) .no (.lit (.int 0))))) (.cons (.forS (.var 4) (.seq (.cut (.var 0) .no (.yes (.var 2)))) law_counted_b1) (.cons (.ret (.bi .tuple (.cons (.var 3) .nil))) .nil)))
def law_counted_f : Fn := ⟨"_law_counted", ["places", "many", "total"], ["places", "many", "total", "rows", "place", "k"], law_counted_b, false, []⟩
def law_ordered_b2 : ISs := (.cons (.ife (.and (.cmp .lt (.idx (.var 1) (.var 3)) (.idx (.var 1) (.var 2))) (.cmp .gt (.idx (.var 0) (.var 3)) (.idx (.var 0) (.var 2)))) (.cons (.ret (.lit (.bl false))) .nil) .nil) .nil)
def law_ordered_b1 : ISs := (.cons (.forS (.var 3) (.rng1 (.bi .len (.cons (.var 1) .nil))) law_ordered_b2) .nil)
def law_ordered_b : ISs := (.cons (.forS (.var 2) (.rng1 (.bi .len (.cons (.var 1) .nil))) law_ordered_b1) (.cons (.ret (.lit (.bl true))) .nil))
def law_ordered_f : Fn := ⟨"_law_ordered", ["told", "amounts"], ["told", "amounts", "k", "j"], law_ordered_b, false, []⟩
def law_b1 : ISs := (.cons (.asg (.var 8) (.call 5 (.cons (.var 2) (.cons (.var 7) .nil)))) (.cons (.ife (.or (.not (.call 9 (.cons (.var 8) (.cons (.call 13 (.cons (.var 4) (.cons (.bi .len (.cons (.var 2) .nil)) (.cons (.var 7) .nil)))) .nil)))) (.not (.call 14 (.cons (.var 8) (.cons (.var 2) .nil))))) (.cons (.ret (.lit (.bl false))) .nil) .nil) (.cons (.ife (.not (.call 9 (.cons (.callK 5 0 2 [1, 0] .nil (.cons (.var 7) (.cons (.var 2) .nil))) (.cons (.var 8) .nil)))) (.cons (.ret (.lit (.bl false))) .nil) .nil) .nil)))
def law_b : ISs := (.cons (.asg (.var 1) (.call 6 (.cons (.var 0) .nil))) (.cons (.asg (.var 2) (.call 11 (.cons (.var 1) .nil))) (.cons (.asg (.var 3) (.lit (.int 40))) (.cons (.ife (.cmp .eq (.call 7 (.cons (.var 1) (.cons (.lit (.int 10)) .nil))) (.lit (.int 0))) (.cons (.asg (.var 3) (.lit (.int 999))) .nil) .nil) (.cons (.asg (.var 4) (.call 12 (.cons (.var 2) (.cons (.var 3) .nil)))) (.cons (.asg (.var 5) (.call 7 (.cons (.var 1) (.cons (.bin .sub (.var 3) (.lit (.int 5))) .nil)))) (.cons (.asg (.var 6) (.new false (.cat (.new false (.cat (.new false (.comp [9] (.var 9) (.rng1 (.lit (.int 8))) .no (.call 7 (.cons (.var 1) (.cons (.bin .add (.var 3) (.lit (.int 1))) .nil))))) (.new false (.disp (.cons (.lit (.int 0)) .nil))))) (.new false (.comp [9] (.var 9) (.rng1 (.lit (.int 7))) (.yes (.cmp .le (.bin .add (.var 5) (.var 9)) (.var 3))) (.bin .add (.var 5) (.var 9))))))) (.cons (.forS (.var 7) (.seq (.new false (.cat (.var 6) (.cut (.var 6) .no (.yes (.lit (.int 1))))))) law_b1) (.cons (.ret (.lit (.bl true))) .nil)))))))))
def law_f : Fn := ⟨"law", ["script"], ["script", "pool", "amounts", "most", "places", "begin", "totals", "total", "told", "k"], law_b, false, []⟩
def G : Glob := ⟨[is_within_f, is_number_f, check_amounts_f, check_total_f, next_even_f, even_shares_f, law_pool_f, law_draw_f, law_one_of_f, law_same_f, law_amounts_f, law_many_amounts_f, law_row_of_places_f, law_counted_f, law_ordered_f, law_f], [("MOST_AMOUNTS", (.int 5)), ("MOST_TOTAL", (.int 999))], []⟩
abbrev i_is_within : Nat := 0
abbrev i_is_number : Nat := 1
abbrev i_check_amounts : Nat := 2
abbrev i_check_total : Nat := 3
abbrev i_next_even : Nat := 4
abbrev i_even_shares : Nat := 5
abbrev i_law_pool : Nat := 6
abbrev i_law_draw : Nat := 7
abbrev i_law_one_of : Nat := 8
abbrev i_law_same : Nat := 9
abbrev i_law_amounts : Nat := 10
abbrev i_law_many_amounts : Nat := 11
abbrev i_law_row_of_places : Nat := 12
abbrev i_law_counted : Nat := 13
abbrev i_law_ordered : Nat := 14
abbrev i_law : Nat := 15
@[simp] theorem glb_0 (fn : Nat → List D → Cs → Res D) : (ctxD G fn).glb 0 = some (.int 5) := rfl
@[simp] theorem glb_1 (fn : Nat → List D → Cs → Res D) : (ctxD G fn).glb 1 = some (.int 999) := rfl
end K78
end
section
set_option Elab.async false
set_option linter.all false
set_option maxRecDepth 100000
set_option maxHeartbeats 4000000
/-! K78b: each def is what the text says; the law's end; printed by gen.py -/
namespace K78
open DH PySem L2
theorem fs_is_within : FnScope is_within_f.N is_within_f.ps (defScope (top 5)) := ⟨rfl, rfl, rfl, by decide +kernel, rfl, by decide +kernel, by decide +kernel⟩
theorem ck_is_within : chkSs (scOf G is_within_f (defScope (top 5))) is_within_f.body (defBody (top 5)) = true := by decide +kernel
theorem fs_is_number : FnScope is_number_f.N is_number_f.ps (defScope (top 7)) := ⟨rfl, rfl, rfl, by decide +kernel, rfl, by decide +kernel, by decide +kernel⟩
theorem ck_is_number : chkSs (scOf G is_number_f (defScope (top 7))) is_number_f.body (defBody (top 7)) = true := by decide +kernel
theorem fs_check_amounts : FnScope check_amounts_f.N check_amounts_f.ps (defScope (top 11)) := ⟨rfl, rfl, rfl, by decide +kernel, rfl, by decide +kernel, by decide +kernel⟩
theorem ck_check_amounts : chkSs (scOf G check_amounts_f (defScope (top 11))) check_amounts_f.body (defBody (top 11)) = true := by decide +kernel
theorem fs_check_total : FnScope check_total_f.N check_total_f.ps (defScope (top 12)) := ⟨rfl, rfl, rfl, by decide +kernel, rfl, by decide +kernel, by decide +kernel⟩
theorem ck_check_total : chkSs (scOf G check_total_f (defScope (top 12))) check_total_f.body (defBody (top 12)) = true := by decide +kernel
theorem fs_next_even : FnScope next_even_f.N next_even_f.ps (defScope (top 13)) := ⟨rfl, rfl, rfl, by decide +kernel, rfl, by decide +kernel, by decide +kernel⟩
theorem ck_next_even : chkSs (scOf G next_even_f (defScope (top 13))) next_even_f.body (defBody (top 13)) = true := by decide +kernel
theorem fs_even_shares : FnScope even_shares_f.N even_shares_f.ps (defScope (top 14)) := ⟨rfl, rfl, rfl, by decide +kernel, rfl, by decide +kernel, by decide +kernel⟩
theorem ck_even_shares : chkSs (scOf G even_shares_f (defScope (top 14))) even_shares_f.body (defBody (top 14)) = true := by decide +kernel
theorem fs_law_pool : FnScope law_pool_f.N law_pool_f.ps (defScope (top 16)) := ⟨rfl, rfl, rfl, by decide +kernel, rfl, by decide +kernel, by decide +kernel⟩
theorem ck_law_pool : chkSs (scOf G law_pool_f (defScope (top 16))) law_pool_f.body (defBody (top 16)) = true := by decide +kernel
theorem fs_law_draw : FnScope law_draw_f.N law_draw_f.ps (defScope (top 17)) := ⟨rfl, rfl, rfl, by decide +kernel, rfl, by decide +kernel, by decide +kernel⟩
theorem ck_law_draw : chkSs (scOf G law_draw_f (defScope (top 17))) law_draw_f.body (defBody (top 17)) = true := by decide +kernel
theorem fs_law_one_of : FnScope law_one_of_f.N law_one_of_f.ps (defScope (top 18)) := ⟨rfl, rfl, rfl, by decide +kernel, rfl, by decide +kernel, by decide +kernel⟩
theorem ck_law_one_of : chkSs (scOf G law_one_of_f (defScope (top 18))) law_one_of_f.body (defBody (top 18)) = true := by decide +kernel
theorem fs_law_same : FnScope law_same_f.N law_same_f.ps (defScope (top 19)) := ⟨rfl, rfl, rfl, by decide +kernel, rfl, by decide +kernel, by decide +kernel⟩
theorem ck_law_same : chkSs (scOf G law_same_f (defScope (top 19))) law_same_f.body (defBody (top 19)) = true := by decide +kernel
theorem fs_law_amounts : FnScope law_amounts_f.N law_amounts_f.ps (defScope (top 20)) := ⟨rfl, rfl, rfl, by decide +kernel, rfl, by decide +kernel, by decide +kernel⟩
theorem ck_law_amounts : chkSs (scOf G law_amounts_f (defScope (top 20))) law_amounts_f.body (defBody (top 20)) = true := by decide +kernel
theorem fs_law_many_amounts : FnScope law_many_amounts_f.N law_many_amounts_f.ps (defScope (top 21)) := ⟨rfl, rfl, rfl, by decide +kernel, rfl, by decide +kernel, by decide +kernel⟩
theorem ck_law_many_amounts : chkSs (scOf G law_many_amounts_f (defScope (top 21))) law_many_amounts_f.body (defBody (top 21)) = true := by decide +kernel
theorem fs_law_row_of_places : FnScope law_row_of_places_f.N law_row_of_places_f.ps (defScope (top 22)) := ⟨rfl, rfl, rfl, by decide +kernel, rfl, by decide +kernel, by decide +kernel⟩
theorem ck_law_row_of_places : chkSs (scOf G law_row_of_places_f (defScope (top 22))) law_row_of_places_f.body (defBody (top 22)) = true := by decide +kernel
theorem fs_law_counted : FnScope law_counted_f.N law_counted_f.ps (defScope (top 23)) := ⟨rfl, rfl, rfl, by decide +kernel, rfl, by decide +kernel, by decide +kernel⟩
theorem ck_law_counted : chkSs (scOf G law_counted_f (defScope (top 23))) law_counted_f.body (defBody (top 23)) = true := by decide +kernel
theorem fs_law_ordered : FnScope law_ordered_f.N law_ordered_f.ps (defScope (top 24)) := ⟨rfl, rfl, rfl, by decide +kernel, rfl, by decide +kernel, by decide +kernel⟩
theorem ck_law_ordered : chkSs (scOf G law_ordered_f (defScope (top 24))) law_ordered_f.body (defBody (top 24)) = true := by decide +kernel
theorem fs_law : FnScope law_f.N law_f.ps (defScope (top 25)) := ⟨rfl, rfl, rfl, by decide +kernel, rfl, by decide +kernel, by decide +kernel⟩
theorem ck_law : chkSs (scOf G law_f (defScope (top 25))) law_f.body (defBody (top 25)) = true := by decide +kernel
theorem all_mk {l : PySem.W.OpenLaw} {w : World} {K : PySem.W.Frag} {h : Heap} {mg : Str → Option Value} {fa f0 f1 f2 f3 f4 f5 f6 f7 f8 f9 f10 f11 f12 f13 f14 f15 : Addr} (X : K.In h) (Gm : h.Ns mainGlobals mg) (hfa : mg "law" = some (.ref fa))
    {od0 an0 od1 an1 od2 an2 od3 an3 od4 an4 od5 an5 od6 an6 od7 an7 od8 an8 od9 an9 od10 an10 od11 an11 od12 an12 od13 an13 od14 an14 od15 an15 : Option Addr} {sl0 sl1 sl2 sl3 sl4 sl5 sl6 sl7 sl8 sl9 sl10 sl11 sl12 sl13 sl14 sl15 : Array (Option Value)} {oc0 kV0 dc0 pm0 cd0 ct0 oc1 kV1 dc1 pm1 cd1 ct1 oc2 kV2 dc2 pm2 cd2 ct2 oc3 kV3 dc3 pm3 cd3 ct3 oc4 kV4 dc4 pm4 cd4 ct4 oc5 kV5 dc5 pm5 cd5 ct5 oc6 kV6 dc6 pm6 cd6 ct6 oc7 kV7 dc7 pm7 cd7 ct7 oc8 kV8 dc8 pm8 cd8 ct8 oc9 kV9 dc9 pm9 cd9 ct9 oc10 kV10 dc10 pm10 cd10 ct10 oc11 kV11 dc11 pm11 cd11 ct11 oc12 kV12 dc12 pm12 cd12 ct12 oc13 kV13 dc13 pm13 cd13 ct13 oc14 kV14 dc14 pm14 cd14 ct14 oc15 kV15 dc15 pm15 cd15 ct15 : Value} {j0 j1 : Tok}
    (a0 : PySem.W.nsIn K mainGlobals "is_within" = some (some (.ref f0)))
    (l0 : K.lookup f0 = some ⟨oc0, od0, .func (PySem.W.fnOf "is_within" "is_within" (defArgs (top 5)) (defBody (top 5)) (defScope (top 5)) .none kV0 dc0 pm0 an0 cd0 ct0), sl0⟩)
    (c0 : PySem.W.codeIn K cd0 "is_within" = true) (k0 : PySem.W.keepIn K (.ref f0) = true)
    (a1 : PySem.W.nsIn K mainGlobals "is_number" = some (some (.ref f1)))
    (l1 : K.lookup f1 = some ⟨oc1, od1, .func (PySem.W.fnOf "is_number" "is_number" (defArgs (top 7)) (defBody (top 7)) (defScope (top 7)) .none kV1 dc1 pm1 an1 cd1 ct1), sl1⟩)
    (c1 : PySem.W.codeIn K cd1 "is_number" = true) (k1 : PySem.W.keepIn K (.ref f1) = true)
    (a2 : PySem.W.nsIn K mainGlobals "check_amounts" = some (some (.ref f2)))
    (l2 : K.lookup f2 = some ⟨oc2, od2, .func (PySem.W.fnOf "check_amounts" "check_amounts" (defArgs (top 11)) (defBody (top 11)) (defScope (top 11)) .none kV2 dc2 pm2 an2 cd2 ct2), sl2⟩)
    (c2 : PySem.W.codeIn K cd2 "check_amounts" = true) (k2 : PySem.W.keepIn K (.ref f2) = true)
    (a3 : PySem.W.nsIn K mainGlobals "check_total" = some (some (.ref f3)))
    (l3 : K.lookup f3 = some ⟨oc3, od3, .func (PySem.W.fnOf "check_total" "check_total" (defArgs (top 12)) (defBody (top 12)) (defScope (top 12)) .none kV3 dc3 pm3 an3 cd3 ct3), sl3⟩)
    (c3 : PySem.W.codeIn K cd3 "check_total" = true) (k3 : PySem.W.keepIn K (.ref f3) = true)
    (a4 : PySem.W.nsIn K mainGlobals "next_even" = some (some (.ref f4)))
    (l4 : K.lookup f4 = some ⟨oc4, od4, .func (PySem.W.fnOf "next_even" "next_even" (defArgs (top 13)) (defBody (top 13)) (defScope (top 13)) .none kV4 dc4 pm4 an4 cd4 ct4), sl4⟩)
    (c4 : PySem.W.codeIn K cd4 "next_even" = true) (k4 : PySem.W.keepIn K (.ref f4) = true)
    (a5 : PySem.W.nsIn K mainGlobals "even_shares" = some (some (.ref f5)))
    (l5 : K.lookup f5 = some ⟨oc5, od5, .func (PySem.W.fnOf "even_shares" "even_shares" (defArgs (top 14)) (defBody (top 14)) (defScope (top 14)) .none kV5 dc5 pm5 an5 cd5 ct5), sl5⟩)
    (c5 : PySem.W.codeIn K cd5 "even_shares" = true) (k5 : PySem.W.keepIn K (.ref f5) = true)
    (a6 : PySem.W.nsIn K mainGlobals "_law_pool" = some (some (.ref f6)))
    (l6 : K.lookup f6 = some ⟨oc6, od6, .func (PySem.W.fnOf "_law_pool" "_law_pool" (defArgs (top 16)) (defBody (top 16)) (defScope (top 16)) .none kV6 dc6 pm6 an6 cd6 ct6), sl6⟩)
    (c6 : PySem.W.codeIn K cd6 "_law_pool" = true) (k6 : PySem.W.keepIn K (.ref f6) = true)
    (a7 : PySem.W.nsIn K mainGlobals "_law_draw" = some (some (.ref f7)))
    (l7 : K.lookup f7 = some ⟨oc7, od7, .func (PySem.W.fnOf "_law_draw" "_law_draw" (defArgs (top 17)) (defBody (top 17)) (defScope (top 17)) .none kV7 dc7 pm7 an7 cd7 ct7), sl7⟩)
    (c7 : PySem.W.codeIn K cd7 "_law_draw" = true) (k7 : PySem.W.keepIn K (.ref f7) = true)
    (a8 : PySem.W.nsIn K mainGlobals "_law_one_of" = some (some (.ref f8)))
    (l8 : K.lookup f8 = some ⟨oc8, od8, .func (PySem.W.fnOf "_law_one_of" "_law_one_of" (defArgs (top 18)) (defBody (top 18)) (defScope (top 18)) .none kV8 dc8 pm8 an8 cd8 ct8), sl8⟩)
    (c8 : PySem.W.codeIn K cd8 "_law_one_of" = true) (k8 : PySem.W.keepIn K (.ref f8) = true)
    (a9 : PySem.W.nsIn K mainGlobals "_law_same" = some (some (.ref f9)))
    (l9 : K.lookup f9 = some ⟨oc9, od9, .func (PySem.W.fnOf "_law_same" "_law_same" (defArgs (top 19)) (defBody (top 19)) (defScope (top 19)) .none kV9 dc9 pm9 an9 cd9 ct9), sl9⟩)
    (c9 : PySem.W.codeIn K cd9 "_law_same" = true) (k9 : PySem.W.keepIn K (.ref f9) = true)
    (a10 : PySem.W.nsIn K mainGlobals "_law_amounts" = some (some (.ref f10)))
    (l10 : K.lookup f10 = some ⟨oc10, od10, .func (PySem.W.fnOf "_law_amounts" "_law_amounts" (defArgs (top 20)) (defBody (top 20)) (defScope (top 20)) .none kV10 dc10 pm10 an10 cd10 ct10), sl10⟩)
    (c10 : PySem.W.codeIn K cd10 "_law_amounts" = true) (k10 : PySem.W.keepIn K (.ref f10) = true)
    (a11 : PySem.W.nsIn K mainGlobals "_law_many_amounts" = some (some (.ref f11)))
    (l11 : K.lookup f11 = some ⟨oc11, od11, .func (PySem.W.fnOf "_law_many_amounts" "_law_many_amounts" (defArgs (top 21)) (defBody (top 21)) (defScope (top 21)) .none kV11 dc11 pm11 an11 cd11 ct11), sl11⟩)
    (c11 : PySem.W.codeIn K cd11 "_law_many_amounts" = true) (k11 : PySem.W.keepIn K (.ref f11) = true)
    (a12 : PySem.W.nsIn K mainGlobals "_law_row_of_places" = some (some (.ref f12)))
    (l12 : K.lookup f12 = some ⟨oc12, od12, .func (PySem.W.fnOf "_law_row_of_places" "_law_row_of_places" (defArgs (top 22)) (defBody (top 22)) (defScope (top 22)) .none kV12 dc12 pm12 an12 cd12 ct12), sl12⟩)
    (c12 : PySem.W.codeIn K cd12 "_law_row_of_places" = true) (k12 : PySem.W.keepIn K (.ref f12) = true)
    (a13 : PySem.W.nsIn K mainGlobals "_law_counted" = some (some (.ref f13)))
    (l13 : K.lookup f13 = some ⟨oc13, od13, .func (PySem.W.fnOf "_law_counted" "_law_counted" (defArgs (top 23)) (defBody (top 23)) (defScope (top 23)) .none kV13 dc13 pm13 an13 cd13 ct13), sl13⟩)
    (c13 : PySem.W.codeIn K cd13 "_law_counted" = true) (k13 : PySem.W.keepIn K (.ref f13) = true)
    (a14 : PySem.W.nsIn K mainGlobals "_law_ordered" = some (some (.ref f14)))
    (l14 : K.lookup f14 = some ⟨oc14, od14, .func (PySem.W.fnOf "_law_ordered" "_law_ordered" (defArgs (top 24)) (defBody (top 24)) (defScope (top 24)) .none kV14 dc14 pm14 an14 cd14 ct14), sl14⟩)
    (c14 : PySem.W.codeIn K cd14 "_law_ordered" = true) (k14 : PySem.W.keepIn K (.ref f14) = true)
    (a15 : PySem.W.nsIn K mainGlobals "law" = some (some (.ref f15)))
    (l15 : K.lookup f15 = some ⟨oc15, od15, .func (PySem.W.fnOf "law" "law" (defArgs (top 25)) (defBody (top 25)) (defScope (top 25)) .none kV15 dc15 pm15 an15 cd15 ct15), sl15⟩)
    (c15 : PySem.W.codeIn K cd15 "law" = true) (k15 : PySem.W.keepIn K (.ref f15) = true)
    (z0 : PySem.W.nsIn K mainGlobals "len" = some none)
    (z1 : PySem.W.nsIn K mainGlobals "int" = some none)
    (z2 : PySem.W.nsIn K mainGlobals "tuple" = some none)
    (z3 : PySem.W.nsIn K mainGlobals "all" = some none)
    (z4 : PySem.W.nsIn K mainGlobals "any" = some none)
    (z5 : PySem.W.nsIn K mainGlobals "sum" = some none)
    (z6 : PySem.W.nsIn K mainGlobals "min" = some none)
    (z7 : PySem.W.nsIn K mainGlobals "max" = some none)
    (z8 : PySem.W.nsIn K mainGlobals "abs" = some none)
    (z9 : PySem.W.nsIn K mainGlobals "isinstance" = some none)
    (z10 : PySem.W.nsIn K mainGlobals "range" = some none)
    (z11 : PySem.W.nsIn K mainGlobals "list" = some none)
    (z12 : PySem.W.nsIn K mainGlobals "bool" = some none)
    (z13 : PySem.W.nsIn K mainGlobals "str" = some none)
    (z14 : PySem.W.nsIn K mainGlobals "dict" = some none)
    (z15 : PySem.W.nsIn K mainGlobals "zip" = some none)
    (z16 : PySem.W.nsIn K mainGlobals "enumerate" = some none)
    (z17 : PySem.W.nsIn K mainGlobals "reversed" = some none)
    (z18 : PySem.W.nsIn K mainGlobals "sorted" = some none)
    (z19 : PySem.W.nsIn K mainGlobals "set" = some none)
    (w0 : PySem.W.nsIn K mainGlobals "MOST_AMOUNTS" = some (some (.int 5 j0)))
    (w1 : PySem.W.nsIn K mainGlobals "MOST_TOTAL" = some (some (.int 999 j1))) :
    ∃ fd : FuncData, (∀ (s : Shared) (v : Value), BindsTo s fd ⟨[v], []⟩ [("script", v)]) ∧ ∀ base : Heap, K.In base → base.Ns mainGlobals mg → FnOk l.prog w K mg base (L2.CX l.prog w) 24 fa fd ["script"] (spD (wd K) (callD G 24 i_law)) := by
  have e := hfa.symm.trans (PySem.W.mg_of X Gm a15)
  cases e
  have F0 := fun_mk (st := top 5) l0 c0 k0
  have b0 := F0.binds (ps := is_within_f.ps) fun _ _ _ _ _ _ us hl => match us, hl with | [_, _, _], _ => rfl
  have t0 : FnFacts G K mg is_within_f := ⟨_, _, _, _, PySem.W.mg_of X Gm a0, k0, b0, fun _ h => absurd h List.not_mem_nil, F0, fs_is_within, ck_is_within⟩
  have F1 := fun_mk (st := top 7) l1 c1 k1
  have b1 := F1.binds (ps := is_number_f.ps) fun _ _ _ _ _ _ us hl => match us, hl with | [_, _], _ => rfl
  have t1 : FnFacts G K mg is_number_f := ⟨_, _, _, _, PySem.W.mg_of X Gm a1, k1, b1, fun _ h => absurd h List.not_mem_nil, F1, fs_is_number, ck_is_number⟩
  have F2 := fun_mk (st := top 11) l2 c2 k2
  have b2 := F2.binds (ps := check_amounts_f.ps) fun _ _ _ _ _ _ us hl => match us, hl with | [_], _ => rfl
  have t2 : FnFacts G K mg check_amounts_f := ⟨_, _, _, _, PySem.W.mg_of X Gm a2, k2, b2, fun _ h => absurd h List.not_mem_nil, F2, fs_check_amounts, ck_check_amounts⟩
  have F3 := fun_mk (st := top 12) l3 c3 k3
  have b3 := F3.binds (ps := check_total_f.ps) fun _ _ _ _ _ _ us hl => match us, hl with | [_], _ => rfl
  have t3 : FnFacts G K mg check_total_f := ⟨_, _, _, _, PySem.W.mg_of X Gm a3, k3, b3, fun _ h => absurd h List.not_mem_nil, F3, fs_check_total, ck_check_total⟩
  have F4 := fun_mk (st := top 13) l4 c4 k4
  have b4 := F4.binds (ps := next_even_f.ps) fun _ _ _ _ _ _ us hl => match us, hl with | [_, _], _ => rfl
  have t4 : FnFacts G K mg next_even_f := ⟨_, _, _, _, PySem.W.mg_of X Gm a4, k4, b4, fun _ h => absurd h List.not_mem_nil, F4, fs_next_even, ck_next_even⟩
  have F5 := fun_mk (st := top 14) l5 c5 k5
  have b5 := F5.binds (ps := even_shares_f.ps) fun _ _ _ _ _ _ us hl => match us, hl with | [_, _], _ => rfl
  have t5 : FnFacts G K mg even_shares_f := ⟨_, _, _, _, PySem.W.mg_of X Gm a5, k5, b5, List.forall_mem_cons.2 ⟨⟨fun s us ws _ hl => match us, ws, gK_len hl (by decide) with | [], [_, _], _ => .of_eq rfl, gK_rel⟩, fun _ h => absurd h List.not_mem_nil⟩, F5, fs_even_shares, ck_even_shares⟩
  have F6 := fun_mk (st := top 16) l6 c6 k6
  have b6 := F6.binds (ps := law_pool_f.ps) fun _ _ _ _ _ _ us hl => match us, hl with | [_], _ => rfl
  have t6 : FnFacts G K mg law_pool_f := ⟨_, _, _, _, PySem.W.mg_of X Gm a6, k6, b6, fun _ h => absurd h List.not_mem_nil, F6, fs_law_pool, ck_law_pool⟩
  have F7 := fun_mk (st := top 17) l7 c7 k7
  have b7 := F7.binds (ps := law_draw_f.ps) fun _ _ _ _ _ _ us hl => match us, hl with | [_, _], _ => rfl
  have t7 : FnFacts G K mg law_draw_f := ⟨_, _, _, _, PySem.W.mg_of X Gm a7, k7, b7, fun _ h => absurd h List.not_mem_nil, F7, fs_law_draw, ck_law_draw⟩
  have F8 := fun_mk (st := top 18) l8 c8 k8
  have b8 := F8.binds (ps := law_one_of_f.ps) fun _ _ _ _ _ _ us hl => match us, hl with | [_, _], _ => rfl
  have t8 : FnFacts G K mg law_one_of_f := ⟨_, _, _, _, PySem.W.mg_of X Gm a8, k8, b8, fun _ h => absurd h List.not_mem_nil, F8, fs_law_one_of, ck_law_one_of⟩
  have F9 := fun_mk (st := top 19) l9 c9 k9
  have b9 := F9.binds (ps := law_same_f.ps) fun _ _ _ _ _ _ us hl => match us, hl with | [_, _], _ => rfl
  have t9 : FnFacts G K mg law_same_f := ⟨_, _, _, _, PySem.W.mg_of X Gm a9, k9, b9, fun _ h => absurd h List.not_mem_nil, F9, fs_law_same, ck_law_same⟩
  have F10 := fun_mk (st := top 20) l10 c10 k10
  have b10 := F10.binds (ps := law_amounts_f.ps) fun _ _ _ _ _ _ us hl => match us, hl with | [_], _ => rfl
  have t10 : FnFacts G K mg law_amounts_f := ⟨_, _, _, _, PySem.W.mg_of X Gm a10, k10, b10, fun _ h => absurd h List.not_mem_nil, F10, fs_law_amounts, ck_law_amounts⟩
  have F11 := fun_mk (st := top 21) l11 c11 k11
  have b11 := F11.binds (ps := law_many_amounts_f.ps) fun _ _ _ _ _ _ us hl => match us, hl with | [_], _ => rfl
  have t11 : FnFacts G K mg law_many_amounts_f := ⟨_, _, _, _, PySem.W.mg_of X Gm a11, k11, b11, fun _ h => absurd h List.not_mem_nil, F11, fs_law_many_amounts, ck_law_many_amounts⟩
  have F12 := fun_mk (st := top 22) l12 c12 k12
  have b12 := F12.binds (ps := law_row_of_places_f.ps) fun _ _ _ _ _ _ us hl => match us, hl with | [_, _], _ => rfl
  have t12 : FnFacts G K mg law_row_of_places_f := ⟨_, _, _, _, PySem.W.mg_of X Gm a12, k12, b12, fun _ h => absurd h List.not_mem_nil, F12, fs_law_row_of_places, ck_law_row_of_places⟩
  have F13 := fun_mk (st := top 23) l13 c13 k13
  have b13 := F13.binds (ps := law_counted_f.ps) fun _ _ _ _ _ _ us hl => match us, hl with | [_, _, _], _ => rfl
  have t13 : FnFacts G K mg law_counted_f := ⟨_, _, _, _, PySem.W.mg_of X Gm a13, k13, b13, fun _ h => absurd h List.not_mem_nil, F13, fs_law_counted, ck_law_counted⟩
  have F14 := fun_mk (st := top 24) l14 c14 k14
  have b14 := F14.binds (ps := law_ordered_f.ps) fun _ _ _ _ _ _ us hl => match us, hl with | [_, _], _ => rfl
  have t14 : FnFacts G K mg law_ordered_f := ⟨_, _, _, _, PySem.W.mg_of X Gm a14, k14, b14, fun _ h => absurd h List.not_mem_nil, F14, fs_law_ordered, ck_law_ordered⟩
  have F15 := fun_mk (st := top 25) l15 c15 k15
  have b15 := F15.binds (ps := law_f.ps) fun _ _ _ _ _ _ us hl => match us, hl with | [_], _ => rfl
  have t15 : FnFacts G K mg law_f := ⟨_, _, _, _, PySem.W.mg_of X Gm a15, k15, b15, fun _ h => absurd h List.not_mem_nil, F15, fs_law, ck_law⟩
  have T : TxtOk G (wd K) K mg := {
    hK := rfl
    fns := List.forall_mem_cons.2 ⟨t0, List.forall_mem_cons.2 ⟨t1, List.forall_mem_cons.2 ⟨t2, List.forall_mem_cons.2 ⟨t3, List.forall_mem_cons.2 ⟨t4, List.forall_mem_cons.2 ⟨t5, List.forall_mem_cons.2 ⟨t6, List.forall_mem_cons.2 ⟨t7, List.forall_mem_cons.2 ⟨t8, List.forall_mem_cons.2 ⟨t9, List.forall_mem_cons.2 ⟨t10, List.forall_mem_cons.2 ⟨t11, List.forall_mem_cons.2 ⟨t12, List.forall_mem_cons.2 ⟨t13, List.forall_mem_cons.2 ⟨t14, List.forall_mem_cons.2 ⟨t15, fun _ h => absurd h List.not_mem_nil⟩⟩⟩⟩⟩⟩⟩⟩⟩⟩⟩⟩⟩⟩⟩⟩
    blt := List.forall_mem_cons.2 ⟨PySem.W.mg_none_of X Gm z0, List.forall_mem_cons.2 ⟨PySem.W.mg_none_of X Gm z1, List.forall_mem_cons.2 ⟨PySem.W.mg_none_of X Gm z2, List.forall_mem_cons.2 ⟨PySem.W.mg_none_of X Gm z3, List.forall_mem_cons.2 ⟨PySem.W.mg_none_of X Gm z4, List.forall_mem_cons.2 ⟨PySem.W.mg_none_of X Gm z5, List.forall_mem_cons.2 ⟨PySem.W.mg_none_of X Gm z6, List.forall_mem_cons.2 ⟨PySem.W.mg_none_of X Gm z7, List.forall_mem_cons.2 ⟨PySem.W.mg_none_of X Gm z8, List.forall_mem_cons.2 ⟨PySem.W.mg_none_of X Gm z9, List.forall_mem_cons.2 ⟨PySem.W.mg_none_of X Gm z10, List.forall_mem_cons.2 ⟨PySem.W.mg_none_of X Gm z11, List.forall_mem_cons.2 ⟨PySem.W.mg_none_of X Gm z12, List.forall_mem_cons.2 ⟨PySem.W.mg_none_of X Gm z13, List.forall_mem_cons.2 ⟨PySem.W.mg_none_of X Gm z14, List.forall_mem_cons.2 ⟨PySem.W.mg_none_of X Gm z15, List.forall_mem_cons.2 ⟨PySem.W.mg_none_of X Gm z16, List.forall_mem_cons.2 ⟨PySem.W.mg_none_of X Gm z17, List.forall_mem_cons.2 ⟨PySem.W.mg_none_of X Gm z18, List.forall_mem_cons.2 ⟨PySem.W.mg_none_of X Gm z19, fun _ h => absurd h List.not_mem_nil⟩⟩⟩⟩⟩⟩⟩⟩⟩⟩⟩⟩⟩⟩⟩⟩⟩⟩⟩⟩
    cst := fun n x d h => match n, h with
      | 0, rfl => ⟨.int 5, .int 5 _, PySem.W.mg_of X Gm w0, ⟨_, rfl⟩, fun _ _ => Rep.int _⟩
      | 1, rfl => ⟨.int 999, .int 999 _, PySem.W.mg_of X Gm w1, ⟨_, rfl⟩, fun _ _ => Rep.int _⟩
      | n + 2, h => nomatch h
    cls := fun c C h => nomatch h
    fld := fun f s h => nomatch h
    finj := fun f g h => wd_inj h }
  exact ⟨_, fun s v => .of_eq rfl, fun base _ _ => fn_ok (i := i_law) (r := law_f) rfl F15 fs_law ck_law (all_ok T 23)⟩
end K78
end
section
set_option Elab.async false
set_option linter.all false
set_option maxRecDepth 100000
set_option maxHeartbeats 4000000
/-! K78p: even shares by quotients, in plain Lean. -/
namespace K78
open DH
def qt (a : Int) (m : Nat) : Int := a * 100000000 / (2 * (m : Int) + 1)
theorem qt_mono {X Y : Int} {m m' : Nat} (h : Y * (2 * (m : Int) + 1) ≤ X * (2 * (m' : Int) + 1)) : qt Y m' ≤ qt X m := by
  unfold qt
  obtain ⟨u, hu⟩ : ∃ u : Int, u = 2 * (m : Int) + 1 := ⟨_, rfl⟩
  obtain ⟨v, hv⟩ : ∃ v : Int, v = 2 * (m' : Int) + 1 := ⟨_, rfl⟩
  rw [← hu, ← hv] at h ⊢
  have u0 : 0 < u := by omega
  have v0 : 0 < v := by omega
  apply Int.le_ediv_of_mul_le u0
  have h1 : Y * 100000000 / v * v ≤ Y * 100000000 := Int.ediv_mul_le _ (by omega)
  have h2 := Int.mul_le_mul_of_nonneg_right h1 (Int.le_of_lt u0)
  have h3 := Int.mul_le_mul_of_nonneg_right h (show (0 : Int) ≤ 100000000 by decide)
  apply Int.le_of_mul_le_mul_right (a := v) _ v0
  have e1 : (Y * 100000000 / v * u) * v = (Y * 100000000 / v * v) * u := by ac_rfl
  have e2 : Y * 100000000 * u = Y * u * 100000000 := by ac_rfl
  have e3 : X * 100000000 * v = X * v * 100000000 := by ac_rfl
  rw [e1, e3]
  omega
theorem qt_strict {X Y : Int} {m m' : Nat} (hm : m < 1000) (hm' : m' < 1000) (h : Y * (2 * (m : Int) + 1) < X * (2 * (m' : Int) + 1)) : qt Y m' < qt X m := by
  unfold qt
  obtain ⟨u, hu⟩ : ∃ u : Int, u = 2 * (m : Int) + 1 := ⟨_, rfl⟩
  obtain ⟨v, hv⟩ : ∃ v : Int, v = 2 * (m' : Int) + 1 := ⟨_, rfl⟩
  rw [← hu, ← hv] at h ⊢
  have u0 : 0 < u := by omega
  have v0 : 0 < v := by omega
  have u1 : u ≤ 2000 := by omega
  have v1 : v ≤ 2000 := by omega
  apply Int.lt_of_add_one_le
  apply Int.le_ediv_of_mul_le u0
  have h1 : Y * 100000000 / v * v ≤ Y * 100000000 := Int.ediv_mul_le _ (by omega)
  have h2 := Int.mul_le_mul_of_nonneg_right h1 (Int.le_of_lt u0)
  have h3 := Int.mul_le_mul_of_nonneg_right (show Y * u + 1 ≤ X * v by omega) (show (0 : Int) ≤ 100000000 by decide)
  have h4 : u * v ≤ 2000 * 2000 := Int.mul_le_mul u1 v1 (Int.le_of_lt v0) (by decide)
  apply Int.le_of_mul_le_mul_right (a := v) _ v0
  have e1 : ((Y * 100000000 / v + 1) * u) * v = (Y * 100000000 / v * v) * u + u * v := by
    rw [Int.add_mul, Int.add_mul, Int.one_mul]
    congr 1
    ac_rfl
  have e2 : Y * 100000000 * u = Y * u * 100000000 := by ac_rfl
  have e3 : X * 100000000 * v = X * v * 100000000 := by ac_rfl
  rw [Int.add_mul] at h3
  rw [e1, e3]
  omega
/-- the shares' law: who has got his last one ahead of whom -/
structure Sh (A : Nat → Int) (n : Nat) (f : List Nat) (T : Nat) : Prop where
  len : f.length = n
  sum : f.sum = T
  inv : ∀ j k, j < n → k < n → j ≠ k → 1 ≤ f.getD j 0 → A k * (2 * (f.getD j 0 : Int) - 1) < A j * (2 * (f.getD k 0 : Int) + 1) ∨ (A k * (2 * (f.getD j 0 : Int) - 1) = A j * (2 * (f.getD k 0 : Int) + 1) ∧ j < k)
/-- the one to be served -/
structure Best (A : Nat → Int) (n : Nat) (f : List Nat) (b : Nat) : Prop where
  lt : b < n
  ge : ∀ k, k < n → A k * (2 * (f.getD b 0 : Int) + 1) ≤ A b * (2 * (f.getD k 0 : Int) + 1)
  gt : ∀ k, k < b → A k * (2 * (f.getD b 0 : Int) + 1) < A b * (2 * (f.getD k 0 : Int) + 1)
theorem sum_set : ∀ {f : List Nat} {b : Nat}, b < f.length → (f.set b (f.getD b 0 + 1)).sum = f.sum + 1
  | x :: f, 0, _ => by simp; omega
  | x :: f, b + 1, h => by
    have ih := sum_set (f := f) (b := b) (by simpa using h)
    simp only [List.set_cons_succ, List.sum_cons, List.getD_cons_succ, ih]
    omega
theorem getD_set {f : List Nat} {b k : Nat} {x : Nat} (h : b < f.length) : (f.set b x).getD k 0 = if k = b then x else f.getD k 0 := by
  rw [List.getD_eq_getElem?_getD, List.getElem?_set]
  by_cases e : b = k
  · subst e; simp [h]
  · rw [if_neg e, if_neg (fun z => e z.symm), List.getD_eq_getElem?_getD]
theorem Sh.step {A : Nat → Int} {n T b : Nat} {f : List Nat} (hA : ∀ k, k < n → 0 ≤ A k) (s : Sh A n f T) (h : Best A n f b) : Sh A n (f.set b (f.getD b 0 + 1)) (T + 1) := by
  have hb : b < f.length := by rw [s.len]; exact h.lt
  refine ⟨by rw [List.length_set, s.len], by rw [sum_set hb, s.sum], fun j k hj hk hjk h1 => ?_⟩
  rw [getD_set hb] at h1
  rw [getD_set hb, getD_set hb]
  by_cases ej : j = b
  · subst ej
    rw [if_pos rfl, if_neg (fun z => hjk z.symm)]
    have e : (2 * ((f.getD j 0 + 1 : Nat) : Int) - 1) = 2 * (f.getD j 0 : Int) + 1 := by omega
    rw [e]
    by_cases hkj : k < j
    · exact .inl (h.gt k hkj)
    · have := h.ge k hk
      by_cases e2 : A k * (2 * (f.getD j 0 : Int) + 1) = A j * (2 * (f.getD k 0 : Int) + 1)
      · exact .inr ⟨e2, by omega⟩
      · exact .inl (by omega)
  · rw [if_neg ej] at h1 ⊢
    by_cases ek : k = b
    · subst ek
      rw [if_pos rfl]
      have old := s.inv j k hj hk hjk h1
      have hz := hA j hj
      have e : A j * (2 * ((f.getD k 0 + 1 : Nat) : Int) + 1) = A j * (2 * (f.getD k 0 : Int) + 1) + 2 * A j := by
        have : (2 * ((f.getD k 0 + 1 : Nat) : Int) + 1) = (2 * (f.getD k 0 : Int) + 1) + 2 := by omega
        rw [this, Int.mul_add, Int.mul_comm (A j) 2]
      rw [e]
      omega
    · rw [if_neg ek]
      exact s.inv j k hj hk hjk h1
theorem sh_zero (A : Nat → Int) (n : Nat) : Sh A n (List.replicate n 0) 0 := by
  have z : ∀ j, (List.replicate n 0).getD j 0 = 0 := fun j => by
    rw [List.getD_eq_getElem?_getD, List.getElem?_replicate]
    split <;> rfl
  refine ⟨by simp, by simp, fun j k _ _ _ h => ?_⟩
  rw [z] at h
  omega
/-! ### the sorted quotients -/
def row (A : Nat → Int) (lo m k : Nat) : List (Int × Int) := (List.range m).map fun i => (-(qt (A k) (lo + i)), (k : Int))
def rowsOf (A : Nat → Int) (n most : Nat) : List (Int × Int) := (List.range n).flatMap fun k => row A 0 most k
theorem fm_perm {β : Type} {g h : Nat → List β} : ∀ l : List Nat, (l.flatMap fun k => g k ++ h k).Perm (l.flatMap g ++ l.flatMap h)
  | [] => List.Perm.refl _
  | a :: l => by
    have ih := fm_perm (g := g) (h := h) l
    simp only [List.flatMap_cons, List.append_assoc]
    refine List.Perm.append_left _ ?_
    refine (List.Perm.append_left _ ih).trans ?_
    exact List.perm_append_comm_assoc _ _ _
theorem row_split {A : Nat → Int} {c most k : Nat} (h : c ≤ most) : row A 0 most k = row A 0 c k ++ row A c (most - c) k := by
  unfold row
  have e : most = c + (most - c) := by omega
  conv => lhs; rw [e]
  rw [List.range_add, List.map_append, List.map_map]
  congr 1
  apply List.map_congr_left
  intro i _
  simp
theorem count_rows (c : Nat → Nat) (j : Nat) : ∀ n, ((List.range n).flatMap fun k => List.replicate (c k) (k : Int)).count (j : Int) = if j < n then c j else 0
  | 0 => by simp
  | n + 1 => by
    rw [List.range_succ, List.flatMap_append, List.count_append, count_rows c j n]
    simp only [List.flatMap_cons, List.flatMap_nil, List.append_nil, List.count_replicate]
    by_cases e : n = j
    · subst e; simp
    · have e2 : ¬ ((n : Int) == (j : Int)) = true := by simp; omega
      rw [if_neg e2]
      by_cases q : j < n
      · rw [if_pos q, if_pos (by omega)]; omega
      · rw [if_neg q, if_neg (by omega)]
theorem len_rows (c : Nat → Nat) : ∀ n, ((List.range n).flatMap fun k => List.replicate (c k) (k : Int)).length = ((List.range n).map c).sum
  | 0 => rfl
  | n + 1 => by
    rw [List.range_succ, List.flatMap_append, List.length_append, len_rows c n]
    simp
theorem range_getD (f : List Nat) : (List.range f.length).map (fun k => f.getD k 0) = f := by
  apply List.ext_getElem?
  intro i
  by_cases h : i < f.length
  · simp [h]
  · rw [List.getElem?_eq_none (by simp; omega), List.getElem?_eq_none (by omega)]
theorem getD_le_sum : ∀ (f : List Nat) (k : Nat), f.getD k 0 ≤ f.sum
  | [], k => by simp
  | x :: f, 0 => by simp
  | x :: f, k + 1 => by
    have := getD_le_sum f k
    simp only [List.getD_cons_succ, List.sum_cons]
    omega
theorem first_ones {A : Nat → Int} {n T most : Nat} {f : List Nat} (hA : ∀ k, k < n → 0 ≤ A k) (s : Sh A n f T) (hT : T ≤ most) (hm : most < 1000) :
    ∃ l : List (Int × Int), ((rowsOf A n most).mergeSort leP).take T = l ∧ (l.map (·.2)).Perm ((List.range n).flatMap fun k => List.replicate (f.getD k 0) (k : Int)) := by
  let IL := (List.range n).flatMap fun k => row A 0 (f.getD k 0) k
  let EL := (List.range n).flatMap fun k => row A (f.getD k 0) (most - f.getD k 0) k
  have hle : ∀ k, f.getD k 0 ≤ most := fun k => Nat.le_trans (getD_le_sum f k) (by rw [s.sum]; exact hT)
  have hperm : (rowsOf A n most).Perm (IL ++ EL) := by
    have e : rowsOf A n most = (List.range n).flatMap fun k => row A 0 (f.getD k 0) k ++ row A (f.getD k 0) (most - f.getD k 0) k := by
      unfold rowsOf
      congr 1
      funext k
      exact row_split (hle k)
    rw [e]
    exact fm_perm _
  have hIE : ∀ x ∈ IL, ∀ y ∈ EL, leP x y = true := by
    intro x hx y hy
    obtain ⟨j, hj, hx⟩ := List.mem_flatMap.mp hx
    obtain ⟨k, hk, hy⟩ := List.mem_flatMap.mp hy
    obtain ⟨m, hm1, rfl⟩ := List.mem_map.mp hx
    obtain ⟨m', hm2, rfl⟩ := List.mem_map.mp hy
    rw [List.mem_range] at hj hk hm1 hm2
    rw [leP_iff]
    simp only [Nat.zero_add]
    have hl := hle j
    have h1 : 1 ≤ f.getD j 0 := by omega
    have hAj := hA j hj
    have hAk := hA k hk
    by_cases ejk : j = k
    · subst ejk
      have := qt_mono (X := A j) (Y := A j) (m := m) (m' := f.getD j 0 + m') (Int.mul_le_mul_of_nonneg_left (by omega) hAj)
      omega
    · have a1 : A k * (2 * (m : Int) + 1) ≤ A k * (2 * (f.getD j 0 : Int) - 1) := Int.mul_le_mul_of_nonneg_left (by omega) hAk
      have a2 : A j * (2 * (f.getD k 0 : Int) + 1) ≤ A j * (2 * ((f.getD k 0 + m' : Nat) : Int) + 1) := Int.mul_le_mul_of_nonneg_left (by omega) hAj
      rcases s.inv j k hj hk ejk h1 with q | ⟨q, hlt⟩
      · have := qt_strict (X := A j) (Y := A k) (m := m) (m' := f.getD k 0 + m') (by omega) (by omega) (by omega)
        omega
      · have := qt_mono (X := A j) (Y := A k) (m := m) (m' := f.getD k 0 + m') (by omega)
        omega
  have hsort : (rowsOf A n most).mergeSort leP = IL.mergeSort leP ++ EL.mergeSort leP := by
    refine (sorted_prs ?_ ?_).symm
    · exact ((List.mergeSort_perm IL leP).append (List.mergeSort_perm EL leP)).trans hperm.symm
    · rw [List.pairwise_append]
      refine ⟨List.pairwise_mergeSort leP_tr leP_tot IL, List.pairwise_mergeSort leP_tr leP_tot EL, fun a ha b hb => hIE a ((List.mergeSort_perm IL leP).mem_iff.mp ha) b ((List.mergeSort_perm EL leP).mem_iff.mp hb)⟩
  have hmap : IL.map (·.2) = (List.range n).flatMap fun k => List.replicate (f.getD k 0) (k : Int) := by
    rw [List.map_flatMap]
    congr 1
    funext k
    unfold row
    rw [List.map_map]
    exact List.map_const' .. |>.trans (by simp)
  have hlen : (IL.mergeSort leP).length = T := by
    rw [(List.mergeSort_perm IL leP).length_eq, ← List.length_map (f := (·.2)), hmap, len_rows, ← s.sum]
    rw [← s.len, range_getD]
  refine ⟨IL.mergeSort leP, ?_, ?_⟩
  · rw [hsort, ← hlen, List.take_left]
  · rw [← hmap]
    exact (List.mergeSort_perm IL leP).map _
end K78
end
section
set_option Elab.async false
set_option linter.all false
set_option maxRecDepth 100000
set_option maxHeartbeats 4000000
/-! K78c: what the smaller defs of k78 tell. -/
namespace K78
open DH
variable {k : Nat} {cs : Cs}
structure Good (am : List Int) : Prop where
  l1 : 1 ≤ am.length
  l5 : am.length ≤ 5
  bd : ∀ a ∈ am, 0 ≤ a ∧ a ≤ 999
  ne : am.sum ≠ 0
theorem is_within_ok {v lo hi : Int} : callD G (k + 1) i_is_within [.int v, .int lo, .int hi] cs = .ok (.bl (decide (lo ≤ v ∧ v ≤ hi))) cs := by
  rw [callD_of (r := is_within_f) rfl rfl]
  by_cases h : lo ≤ v <;> simp [is_within_f, is_within_b, h]
theorem is_number_ok {v m : Int} : callD G (k + 2) i_is_number [.int v, .int m] cs = .ok (.bl (decide (0 ≤ v ∧ v ≤ m - 1))) cs := by
  rw [callD_of (r := is_number_f) rfl rfl]
  simp [is_number_f, is_number_b, is_within_ok]
theorem check_amounts_ok {am : List Int} (h : Good am) : callD G (k + 3) i_check_amounts [.tup (am.map .int)] cs = .ok .non cs := by
  rw [callD_of (r := check_amounts_f) rfl rfl]
  have e1 : (1 : Int) ≤ (am.length : Int) := by have := h.l1; omega
  have e2 : (am.length : Int) ≤ 5 := by have := h.l5; omega
  have e3 : am.length ≤ line := by have := h.l5; unfold line; omega
  simp [check_amounts_f, check_amounts_b, e1, e2, e3]
  rw [compD_all D.int (fun c => .bl true) trivial (fun c hc => by
    have := h.bd c hc
    have h2 : c ≤ 999 + 1 - 1 := by omega
    simp [compB, is_number_ok, this.1, this.2])]
  simp [h.ne]
theorem check_total_ok {t : Int} (h0 : 0 ≤ t) (h1 : t ≤ 999) : callD G (k + 3) i_check_total [.int t] cs = .ok .non cs := by
  rw [callD_of (r := check_total_f) rfl rfl]
  simp [check_total_f, check_total_b, is_number_ok, h0, h1]
def Pool (p : List D) : Prop := ∃ (s : Int) (r : List Int), p = .int s :: r.map .int ∧ 0 ≤ s ∧ s < 2305843009213693951
theorem draw_ok {p : List D} {m : Int} (hp : Pool p) (h0 : 0 < m) (h1 : m < 1073741824) : ∃ (v : Int) (p' : List D), callD G (k + 1) i_law_draw [.ptr 0, .int m] (.lst p :: cs) = .ok (.int v) (.lst p' :: cs) ∧ 0 ≤ v ∧ v < m ∧ Pool p' := by
  obtain ⟨s, r, rfl, h2, h3⟩ := hp
  rw [callD_of (r := law_draw_f) rfl rfl]
  have hm : inMul s := by unfold inMul; omega
  cases r with
  | nil =>
    simp [law_draw_f, law_draw_b, hm, h0]
    exact ⟨_, _, ⟨rfl, rfl⟩, Int.emod_nonneg _ (by omega), Int.emod_lt_of_pos _ h0, _, [], rfl, Int.emod_nonneg _ (by omega), Int.emod_lt_of_pos _ (by omega)⟩
  | cons c r =>
    have e1 : ((1 : Int) < (r.length : Int) + 1 + 1) := by omega
    by_cases hz : c / m = 0
    · simp [law_draw_f, law_draw_b, hm, h0, h1, e1, hz]
      exact ⟨_, _, ⟨rfl, rfl⟩, Int.emod_nonneg _ (by omega), Int.emod_lt_of_pos _ h0, s, r, rfl, h2, h3⟩
    · simp [law_draw_f, law_draw_b, hm, h0, h1, e1, hz]
      exact ⟨_, _, ⟨rfl, rfl⟩, Int.emod_nonneg _ (by omega), Int.emod_lt_of_pos _ h0, s, (c / m) :: r, rfl, h2, h3⟩
theorem pool_ok {ns : List Int} (hl : ns.length ≤ 63) : ∃ p : List D, callD G (k + 1) i_law_pool [.frz (ns.map .int)] [] = .ok (.ptr 0) [.lst p] ∧ Pool p := by
  rw [callD_of (r := law_pool_f) rfl rfl]
  have e1 : inMul 7919 := by unfold inMul; omega
  have e0 : inMul 3 := by unfold inMul; omega
  have e2 : inR 2 := by unfold inR; omega
  have e3 : ns.length ≤ line := by unfold line; omega
  simp [law_pool_f, law_pool_b, e1, e2, e3, rngD]
  obtain ⟨env1, cs1, h1, rfl, s1, c1, rfl, a1, a2⟩ := forIm (ok := fun _ => True) (f := forB (ctxD G (callD G k)) (.var 2) law_pool_b1) (h1 := D.int) (ds := ns) (env := [some (D.frz (ns.map .int)), some (.int (314159265358979323 + 7919 * (ns.length : Int))), none, none]) (cs := []) (fun i env cs => cs = [] ∧ ∃ s c, env = [some (.frz (ns.map .int)), some (.int s), c, none] ∧ 0 ≤ s ∧ s < 2305843009213693951) (fun _ _ _ _ => trivial) ⟨rfl, _, _, rfl, by omega, by omega⟩ (fun i n hd env cs h => by
        obtain ⟨rfl, s, c, rfl, a1, a2⟩ := h
        have hm : inMul s := by unfold inMul; omega
        simp [forB, law_pool_b1, hm, e0]
        exact ⟨Int.emod_nonneg _ (by omega), Int.emod_lt_of_pos _ (by omega)⟩)
  have hm1 : inMul s1 := by unfold inMul; omega
  have hm2 : inMul ((s1 * s1 + 104729) % 2305843009213693951) := by
    have q1 := Int.emod_nonneg (s1 * s1 + 104729) (b := 2305843009213693951) (by omega)
    have q2 := Int.emod_lt_of_pos (s1 * s1 + 104729) (b := 2305843009213693951) (by omega)
    unfold inMul; omega
  rw [h1]
  simp [forD, forB, law_pool_b2, hm1, hm2, e3]
  rw [compD_mapA D.int (fun n => if 1000000000000000000 ≤ n then some (.int n) else none) trivial (fun c hc => by by_cases q : 1000000000000000000 ≤ c <;> simp [compB, q])]
  have e5 : ∀ r : List Int, (List.filterMap (fun n : Int => if 1000000000000000000 ≤ n then some (D.int n) else none) r) = (r.filter fun n => decide (1000000000000000000 ≤ n)).map D.int := by
    intro r
    induction r with
    | nil => rfl
    | cons a r ih => by_cases q : 1000000000000000000 ≤ a <;> simp [List.filterMap_cons, List.filter_cons, q, ih]
  have e6 : (ns.filter fun n => decide (1000000000000000000 ≤ n)).length ≤ 63 := Nat.le_trans (List.length_filter_le ..) hl
  have e7 : 1 + (ns.filter fun n => decide (1000000000000000000 ≤ n)).length ≤ line := by unfold line; omega
  simp [e5, e7]
  exact ⟨_, _, rfl, Int.emod_nonneg _ (by omega), Int.emod_lt_of_pos _ (by omega)⟩
theorem pool_bel {n : Nat} {p : List D} (h : Pool p) : bels n p = true := by
  obtain ⟨s, r, rfl, _⟩ := h
  simp only [bels, bel, Bool.true_and]
  exact bels_map (fun _ => rfl) _
theorem same_int {a : Int} : callD G (k + 1) i_law_same [.int a, .int a] cs = .ok (.bl true) cs := by
  rw [callD_of (r := law_same_f) rfl rfl]
  simp [law_same_f, law_same_b]
theorem same_ok {ws : List Int} (hl : ws.length ≤ 1000) : callD G (k + 2) i_law_same [.tup (ws.map .int), .tup (ws.map .int)] cs = .ok (.bl true) cs := by
  rw [callD_of (r := law_same_f) rfl rfl]
  have e1 : inR (ws.length : Int) := by unfold inR; omega
  obtain ⟨env, cs1, h1, e3, rfl, rfl⟩ := forI (ok := fun _ => True) (f := forB (ctxD G (callD G (k + 1))) (.var 2) law_same_b1) (ds := rngD 0 ws.length) (env := [some (.tup (ws.map .int)), some (.tup (ws.map .int)), none]) (cs := cs)
    (fun i env cs' => ∃ e3, env = [some (.tup (ws.map .int)), some (.tup (ws.map .int)), e3] ∧ cs' = cs) (fun _ _ _ _ => trivial) ⟨none, rfl, rfl⟩ (fun i d hd env cs' h => by
      obtain ⟨e3, rfl, rfl⟩ := h
      obtain ⟨hi, rfl⟩ := rngD_at hd
      have e4 : L2.atI (ws.map D.int) (i : Int) = some (.int ws[i]) := atI_k (by simp [hi])
      simp [forB, law_same_b1, e4, same_int])
  simp [law_same_f, law_same_b, e1, h1]
theorem one_of_ok {p : List D} {xs : List Int} (hp : Pool p) (h1 : 1 ≤ xs.length) (h2 : xs.length ≤ 1000) : ∃ (x : Int) (p' : List D), callD G (k + 2) i_law_one_of [.ptr 0, .lst (xs.map .int)] (.lst p :: cs) = .ok (.int x) (.lst p' :: cs) ∧ x ∈ xs ∧ Pool p' := by
  rw [callD_of (r := law_one_of_f) rfl rfl]
  obtain ⟨v, p1, e1, v0, v1, hp1⟩ := draw_ok (k := k) (cs := cs) (m := (xs.length : Int)) hp (by omega) (by omega)
  obtain ⟨j, rfl⟩ := Int.eq_ofNat_of_zero_le v0
  have hj : j < xs.length := by omega
  have e4 : L2.atI (xs.map D.int) (j : Int) = some (.int xs[j]) := atI_k (by simp [hj])
  simp [law_one_of_f, law_one_of_b, e1, e4]
  exact ⟨_, _, ⟨rfl, rfl⟩, List.getElem_mem hj, hp1⟩
/-! ### the one to be served -/
def Af (am : List Int) (k : Nat) : Int := am.getD k 0
theorem Af_at {am : List Int} {j : Nat} (h : j < am.length) : L2.atI (am.map D.int) (j : Int) = some (.int (Af am j)) := by
  refine atI_k ?_
  simp [h, Af]
theorem f_at {f : List Nat} {j : Nat} (h : j < f.length) : L2.atI (f.map fun (x : Nat) => D.int (x : Int)) (j : Int) = some (.int (f.getD j 0 : Nat)) := by
  refine atI_k ?_
  simp [h]
theorem Af_bd {am : List Int} (h : Good am) (j : Nat) : 0 ≤ Af am j ∧ Af am j ≤ 999 := by
  unfold Af
  rw [List.getD_eq_getElem?_getD]
  cases e : am[j]? with
  | none => simp
  | some x => exact h.bd x (List.mem_of_getElem? e)
structure BestTo (A : Nat → Int) (f : List Nat) (i b : Nat) : Prop where
  lt : b ≤ i
  ge : ∀ k, k ≤ i → A k * (2 * (f.getD b 0 : Int) + 1) ≤ A b * (2 * (f.getD k 0 : Int) + 1)
  gt : ∀ k, k < b → A k * (2 * (f.getD b 0 : Int) + 1) < A b * (2 * (f.getD k 0 : Int) + 1)
theorem frac_tr {a b c : Int} {u v w : Int} (hu : 0 < u) (hv : 0 < v) (hw : 0 < w) (h1 : a * v ≤ b * u) (h2 : b * w < c * v) : a * w < c * u := by
  have q1 := Int.mul_le_mul_of_nonneg_right h1 (Int.le_of_lt hw)
  have q2 := Int.mul_lt_mul_of_pos_right h2 hu
  apply Int.lt_of_mul_lt_mul_right (a := v) _ (Int.le_of_lt hv)
  have e1 : a * w * v = a * v * w := by ac_rfl
  have e2 : b * u * w = b * w * u := by ac_rfl
  have e3 : c * u * v = c * v * u := by ac_rfl
  rw [e1, e3]
  omega
theorem best_step {A : Nat → Int} {f : List Nat} {i b : Nat} (h : BestTo A f i b) : BestTo A f (i + 1) (if A b * (2 * (f.getD (i + 1) 0 : Int) + 1) < A (i + 1) * (2 * (f.getD b 0 : Int) + 1) then i + 1 else b) := by
  by_cases q : A b * (2 * (f.getD (i + 1) 0 : Int) + 1) < A (i + 1) * (2 * (f.getD b 0 : Int) + 1)
  · rw [if_pos q]
    have key : ∀ k, k ≤ i → A k * (2 * (f.getD (i + 1) 0 : Int) + 1) < A (i + 1) * (2 * (f.getD k 0 : Int) + 1) := fun k hk =>
      frac_tr (v := 2 * (f.getD b 0 : Int) + 1) (b := A b) (by omega) (by omega) (by omega) (h.ge k hk) q
    refine ⟨Nat.le_refl _, fun k hk => ?_, fun k hk => key k (by omega)⟩
    by_cases e : k ≤ i
    · exact Int.le_of_lt (key k e)
    · have : k = i + 1 := by omega
      subst this
      exact Int.le_refl _
  · rw [if_neg q]
    refine ⟨Nat.le_succ_of_le h.lt, fun k hk => ?_, h.gt⟩
    by_cases e : k ≤ i
    · exact h.ge k e
    · have : k = i + 1 := by omega
      subst this
      omega
theorem best0 {A : Nat → Int} {f : List Nat} : BestTo A f 0 0 := by
  refine ⟨Nat.le_refl _, fun k hk => ?_, fun k hk => absurd hk (Nat.not_lt_zero _)⟩
  have : k = 0 := by omega
  subst this
  exact Int.le_refl _
theorem next_even_ok {am : List Int} {f : List Nat} {i : Nat} (h : Good am) (hf : f.length = am.length) (hs : ∀ x ∈ f, x ≤ 1000) (hc : cs[i]? = some (.lst (f.map fun (x : Nat) => D.int (x : Int)))) :
    ∃ b : Nat, callD G (k + 1) i_next_even [.tup (am.map .int), .ptr i] cs = .ok (.int b) cs ∧ Best (Af am) am.length f b := by
  rw [callD_of (r := next_even_f) rfl rfl]
  have l1 := h.l1
  have l5 := h.l5
  have e1 : inR (am.length : Int) := by unfold inR; omega
  have e2 : inR 1 := by unfold inR; omega
  have e3 : ((am.length : Int) - 1).toNat = am.length - 1 := by omega
  have e4 : inMul 2 := by unfold inMul; omega
  obtain ⟨env, cs1, h1, b, e5, rfl, rfl, hb⟩ := forI (ok := fun _ => True) (f := forB (ctxD G (callD G k)) (.var 3) next_even_b1) (ds := rngD 1 (am.length - 1)) (env := [some (.tup (am.map .int)), some (.ptr i), some (.int 0), none]) (cs := cs)
    (fun j env cs' => ∃ (b : Nat) (e5 : Option D), env = [some (.tup (am.map .int)), some (.ptr i), some (.int b), e5] ∧ cs' = cs ∧ BestTo (Af am) f j b) (fun _ _ _ _ => trivial)
    ⟨0, none, rfl, rfl, best0⟩ (fun j d hd env cs' hI => by
      obtain ⟨b, e5, rfl, rfl, hb⟩ := hI
      obtain ⟨hj, rfl⟩ := rngD_at hd
      have hj2 : j + 1 < am.length := by omega
      have hb2 : b < am.length := by have := hb.lt; omega
      have ec : (1 : Int) + (j : Int) = ((j + 1 : Nat) : Int) := by omega
      rw [ec]
      have a1 := Af_at (am := am) hj2
      have a2 := Af_at (am := am) hb2
      have a3 := f_at (f := f) (j := j + 1) (by omega)
      have a4 := f_at (f := f) (j := b) (by omega)
      have b1 := Af_bd h (j + 1)
      have b2 := Af_bd h b
      have m1 : inMul (Af am (j + 1)) := by unfold inMul; omega
      have m2 : inMul (Af am b) := by unfold inMul; omega
      have st := best_step hb
      obtain ⟨J, hJ⟩ : ∃ J : Int, J = ((j + 1 : Nat) : Int) := ⟨_, rfl⟩
      rw [← hJ] at a1 a3 ⊢
      by_cases q : Af am b * (2 * (f.getD (j + 1) 0 : Int) + 1) < Af am (j + 1) * (2 * (f.getD b 0 : Int) + 1)
      · rw [if_pos q] at st
        simp only [forB, next_even_b1, asg_var]
        simp [a1, a2, a3, a4, hc, m1, m2, e4]
        simp only [List.getD_eq_getElem?_getD] at q
        simp [q]
        exact ⟨j + 1, hJ, st⟩
      · rw [if_neg q] at st
        simp only [forB, next_even_b1, asg_var]
        simp [a1, a2, a3, a4, hc, m1, m2, e4]
        simp only [List.getD_eq_getElem?_getD] at q
        simp [q]
        exact ⟨b, rfl, st⟩)
  rw [rngD_len] at hb
  refine ⟨b, ?_, ⟨by have := hb.lt; omega, fun k hk => hb.ge k (by omega), hb.gt⟩⟩
  simp [next_even_f, next_even_b, e1, e2, e3, h1]
end K78
end
section
set_option Elab.async false
set_option linter.all false
set_option maxRecDepth 100000
set_option maxHeartbeats 4000000
/-! K78d: even_shares, ordered, counted. -/
namespace K78
open DH
variable {k : Nat} {cs : Cs}
abbrev nD : Nat → D := fun x => .int (x : Int)
theorem getD_mem_le {f : List Nat} {x : Nat} (h : x ∈ f) : x ≤ f.sum := by
  induction f with
  | nil => cases h
  | cons a f ih =>
    rw [List.sum_cons]
    rcases List.mem_cons.mp h with e | e
    · omega
    · have := ih e; omega
theorem even_shares_ok {am : List Int} {T : Nat} (h : Good am) (hT : T ≤ 999) : ∃ f : List Nat, callD G (k + 4) i_even_shares [.tup (am.map .int), .int T] cs = .ok (.tup (f.map nD)) cs ∧ Sh (Af am) am.length f T := by
  rw [callD_of (r := even_shares_f) rfl rfl]
  have c1 := check_amounts_ok (k := k) (cs := cs) h
  have c2 := check_total_ok (k := k) (cs := cs) (t := (T : Int)) (by omega) (by omega)
  have l5 := h.l5
  have e1 : inR (am.length : Int) := by unfold inR; omega
  have e2 : inR (T : Int) := by unfold inR; omega
  have e3 : am.length ≤ line := by unfold line; omega
  have e4 : (List.replicate am.length [D.int 0]).flatten = (List.replicate am.length 0).map nD := by
    induction am.length with
    | zero => rfl
    | succ n ih => simp only [List.replicate_succ, List.flatten_cons, ih, List.map_cons]; rfl
  obtain ⟨env, cs1, h1, f, e5, rfl, rfl, hs⟩ := forI (ok := fun _ => True) (f := forB (ctxD G (callD G (k + 3))) (.var 3) even_shares_b1) (ds := rngD 0 T) (env := [some (.tup (am.map .int)), some (.int T), some (.ptr cs.length), none]) (cs := cs ++ [.lst ((List.replicate am.length 0).map nD)])
    (fun i env cs' => ∃ (f : List Nat) (e5 : Option D), env = [some (.tup (am.map .int)), some (.int T), some (.ptr cs.length), e5] ∧ cs' = cs ++ [.lst (f.map nD)] ∧ Sh (Af am) am.length f i) (fun _ _ _ _ => trivial)
    ⟨_, none, rfl, rfl, sh_zero _ _⟩ (fun i d hd env cs' hI => by
      obtain ⟨f, e5, rfl, rfl, hs⟩ := hI
      obtain ⟨hi, rfl⟩ := rngD_at hd
      obtain ⟨b, hb1, hb2⟩ := next_even_ok (k := k + 2) (cs := cs ++ [.lst (f.map nD)]) (i := cs.length) h hs.len (fun x hx => by
        have := getD_mem_le hx
        rw [hs.sum] at this
        omega) (by simp)
      have hbl : b < f.length := by rw [hs.len]; exact hb2.lt
      have ix : L2.ixN f.length (b : Int) = some b := ixN_k hbl
      have st := hs.step (fun k _ => (Af_bd h k).1) hb2
      have gt : (f.map nD)[b]? = some (.int (f.getD b 0 : Nat)) := by simp [hbl]
      have eset : (f.map nD).set b (.int ((f.getD b 0 : Nat) + 1 : Int)) = (f.set b (f.getD b 0 + 1)).map nD := by
        rw [List.map_set]
        rfl
      simp only [forB, even_shares_b1, asg_var]
      simp [hb1, idxG, gt, ix]
      refine ⟨_, ?_, st⟩
      rw [← eset, List.getD_eq_getElem?_getD])
  rw [rngD_len] at hs
  refine ⟨f, ?_, hs⟩
  simp only [List.map_replicate] at h1
  simp [even_shares_f, even_shares_b, c1, c2, e1, e2, e3, e4, h1]
  exact fin_new (d := .tup (f.map nD)) (ex := [_]) (by simp only [bel]; exact bels_map (fun _ => rfl) _)
theorem sh_ordered {am : List Int} {f : List Nat} {T j k : Nat} (h : Good am) (s : Sh (Af am) am.length f T) (hj : j < am.length) (hk : k < am.length) (hlt : Af am j < Af am k) : f.getD j 0 ≤ f.getD k 0 := by
  apply Classical.byContradiction
  intro hn
  have ne : j ≠ k := fun e => by subst e; omega
  have b1 := Af_bd h j
  have a1 : Af am j * (2 * (f.getD k 0 : Int) + 1) ≤ Af am j * (2 * (f.getD j 0 : Int) - 1) := Int.mul_le_mul_of_nonneg_left (by omega) b1.1
  have a2 : Af am j * (2 * (f.getD j 0 : Int) - 1) < Af am k * (2 * (f.getD j 0 : Int) - 1) := Int.mul_lt_mul_of_pos_right hlt (by omega)
  rcases s.inv j k hj hk ne (by omega) with q | ⟨q, _⟩ <;> omega
theorem ordered_ok {am : List Int} {f : List Nat} {T : Nat} (h : Good am) (s : Sh (Af am) am.length f T) : callD G (k + 1) i_law_ordered [.tup (f.map nD), .tup (am.map .int)] cs = .ok (.bl true) cs := by
  rw [callD_of (r := law_ordered_f) rfl rfl]
  have l5 := h.l5
  have e1 : inR (am.length : Int) := by unfold inR; omega
  obtain ⟨env, cs1, h1, e3, e4, rfl, rfl⟩ := forI (ok := fun _ => True) (f := forB (ctxD G (callD G k)) (.var 2) law_ordered_b1) (ds := rngD 0 am.length) (env := [some (.tup (f.map nD)), some (.tup (am.map .int)), none, none]) (cs := cs)
    (fun i env cs' => ∃ e3 e4, env = [some (.tup (f.map nD)), some (.tup (am.map .int)), e3, e4] ∧ cs' = cs) (fun _ _ _ _ => trivial) ⟨none, none, rfl, rfl⟩ (fun i d hd env cs' hI => by
      obtain ⟨e3, e4, rfl, rfl⟩ := hI
      obtain ⟨hi, rfl⟩ := rngD_at hd
      obtain ⟨env2, cs2, h2, e5, rfl, rfl⟩ := forI (ok := fun _ => True) (f := forB (ctxD G (callD G k)) (.var 3) law_ordered_b2) (ds := rngD 0 am.length) (env := [some (.tup (f.map nD)), some (.tup (am.map .int)), some (.int (0 + (i : Int))), e4]) (cs := cs')
        (fun j env cs2 => ∃ e4, env = [some (.tup (f.map nD)), some (.tup (am.map .int)), some (.int (0 + (i : Int))), e4] ∧ cs2 = cs') (fun _ _ _ _ => trivial) ⟨e4, rfl, rfl⟩ (fun j d hd env cs2 hJ => by
          obtain ⟨e4, rfl, rfl⟩ := hJ
          obtain ⟨hj, rfl⟩ := rngD_at hd
          have a1 := Af_at (am := am) hi
          have a2 := Af_at (am := am) hj
          have a3 := f_at (f := f) (j := i) (by rw [s.len]; exact hi)
          have a4 := f_at (f := f) (j := j) (by rw [s.len]; exact hj)
          simp only [Int.zero_add]
          by_cases q : Af am j < Af am i
          · have o := sh_ordered h s hj hi q
            have o2 : ¬ ((f.getD i 0 : Nat) : Int) < ((f.getD j 0 : Nat) : Int) := by omega
            simp only [forB, law_ordered_b2, asg_var]
            simp only [List.getD_eq_getElem?_getD] at o2 a3 a4
            simp [a1, a2, a3, a4, q]
            simp only [List.getD_eq_getElem?_getD] at o
            simp [Nat.not_lt.mpr o]
          · simp only [forB, law_ordered_b2, asg_var]
            simp [a1, a2, q])
      simp only [Int.zero_add] at h2
      simp only [forB, law_ordered_b1, asg_var, Int.zero_add]
      simp [e1, h2])
  simp [law_ordered_f, law_ordered_b, e1, h1]
end K78
end
section
set_option Elab.async false
set_option linter.all false
set_option maxRecDepth 100000
set_option maxHeartbeats 4000000
/-! K78e: the row of places; counted. -/
namespace K78
open DH
variable {k : Nat} {cs : Cs}
theorem ints_pair (x : Int × Int) (r : List (Int × Int)) : intsD ((x :: r).map pairD) = none := rfl
theorem pairs_map : ∀ r : List (Int × Int), pairsI (r.map pairD) = some r
  | [] => rfl
  | x :: r => by
    simp only [List.map_cons, pairD, pairsI]
    rw [show List.map pairD r = r.map pairD from rfl, pairs_map r]
    rfl
theorem sort_pairs {r : List (Int × Int)} (h : r ≠ []) : sortD (r.map pairD) = some (.lst ((r.mergeSort leP).map pairD)) := by
  cases r with
  | nil => exact absurd rfl h
  | cons x r =>
    unfold sortD
    rw [ints_pair, pairs_map]
    rfl
theorem rows_len (A : Nat → Int) (most : Nat) : ∀ n, (rowsOf A n most).length = n * most
  | 0 => by simp [rowsOf]
  | n + 1 => by
    have ih := rows_len A most n
    unfold rowsOf at ih ⊢
    rw [List.range_succ, List.flatMap_append, List.length_append, ih]
    simp [row, Nat.succ_mul]
theorem rows_succ (A : Nat → Int) (most n : Nat) : rowsOf A (n + 1) most = rowsOf A n most ++ row A 0 most n := by
  unfold rowsOf
  rw [List.range_succ, List.flatMap_append]
  simp
theorem row_succ (A : Nat → Int) (m n : Nat) : row A 0 (m + 1) n = row A 0 m n ++ [(-(qt (A n) m), (n : Int))] := by
  unfold row
  rw [List.range_succ, List.map_append]
  simp
def placesOf (am : List Int) (most : Nat) : List Int := (((rowsOf (Af am) am.length most).mergeSort leP).take most).map (·.2)
theorem places_ok {am : List Int} {most : Nat} (h : Good am) (h1 : 1 ≤ most) (hm : most ≤ 999) : callD G (k + 1) i_law_row_of_places [.tup (am.map .int), .int most] cs = .ok (.lst ((placesOf am most).map .int)) cs := by
  rw [callD_of (r := law_row_of_places_f) rfl rfl]
  have l5 := h.l5
  have l1 := h.l1
  have e1 : inR (am.length : Int) := by unfold inR; omega
  have e2 : inR (most : Int) := by unfold inR; omega
  have m1 : inMul 100000000 := by unfold inMul; omega
  have m2 : inMul 2 := by unfold inMul; omega
  obtain ⟨env, cs1, h2, e3, e4, rfl, rfl⟩ := forI (ok := fun _ => True) (f := forB (ctxD G (callD G k)) (.var 3) law_row_of_places_b1) (ds := rngD 0 am.length) (env := [some (.tup (am.map .int)), some (.int most), some (.ptr cs.length), none, none, none]) (cs := cs ++ [.lst []])
    (fun i env cs' => ∃ e3 e4, env = [some (.tup (am.map .int)), some (.int most), some (.ptr cs.length), e3, e4, none] ∧ cs' = cs ++ [.lst ((rowsOf (Af am) i most).map pairD)]) (fun _ _ _ _ => trivial) ⟨none, none, rfl, rfl⟩ (fun i d hd env cs' hI => by
      obtain ⟨e3, e4, rfl, rfl⟩ := hI
      obtain ⟨hi, rfl⟩ := rngD_at hd
      simp only [Int.zero_add]
      have hlen := rows_len (Af am) most i
      have hb : i * most ≤ 5 * 999 := Nat.mul_le_mul (by omega) hm
      obtain ⟨env2, cs2, h3, e5, rfl, rfl⟩ := forI (ok := fun _ => True) (f := forB (ctxD G (callD G k)) (.var 4) law_row_of_places_b2) (ds := rngD 0 most) (env := [some (.tup (am.map .int)), some (.int most), some (.ptr cs.length), some (.int (i : Int)), e4, none]) (cs := cs ++ [.lst ((rowsOf (Af am) i most).map pairD)])
        (fun j env cs2 => ∃ e5, env = [some (.tup (am.map .int)), some (.int most), some (.ptr cs.length), some (.int (i : Int)), e5, none] ∧ cs2 = cs ++ [.lst ((rowsOf (Af am) i most ++ row (Af am) 0 j i).map pairD)]) (fun _ _ _ _ => trivial) ⟨e4, rfl, by simp [row]⟩ (fun j d hd env cs2 hJ => by
          obtain ⟨e5, rfl, rfl⟩ := hJ
          obtain ⟨hj, rfl⟩ := rngD_at hd
          simp only [Int.zero_add]
          have a1 := Af_at (am := am) hi
          have p1 : (0 : Int) < 2 * (j : Int) + 1 := by omega
          have p2 : 2 * (j : Int) + 1 < 1073741824 := by omega
          have p3 : (rowsOf (Af am) i most ++ row (Af am) 0 j i).length < line := by
            rw [List.length_append, hlen]
            simp only [row, List.length_map, List.length_range]
            unfold line
            omega
          obtain ⟨R, hR⟩ : ∃ R, R = rowsOf (Af am) i most ++ row (Af am) 0 j i := ⟨_, rfl⟩
          have e9 : rowsOf (Af am) i most ++ row (Af am) 0 (j + 1) i = R ++ [(-(qt (Af am i) j), (i : Int))] := by rw [row_succ, hR, List.append_assoc]
          rw [e9]
          rw [← hR] at p3 ⊢
          simp only [forB, law_row_of_places_b2, asg_var]
          simp [a1, p1, p2, m1, m2, p3, pairD, qt])
      simp only [forB, law_row_of_places_b1, asg_var]
      rw [rows_succ]
      simp [e2, h3])
  have hlen := rows_len (Af am) most am.length
  have hpos : 1 ≤ am.length * most := Nat.mul_le_mul l1 h1
  have hne : rowsOf (Af am) am.length most ≠ [] := fun e => by rw [e] at hlen; simp at hlen; omega
  have hs := sort_pairs hne
  rw [rngD_len] at h2
  have hcut : ∀ l : List D, cutD l none (some (most : Int)) = l.take most := fun l => by
    unfold cutD
    rw [sIx_nn]
    show (l.drop 0).take (min most l.length - 0) = _
    rw [List.drop_zero, Nat.sub_zero]
    by_cases q : most ≤ l.length
    · rw [Nat.min_eq_left q]
    · rw [Nat.min_eq_right (by omega), List.take_of_length_le (Nat.le_refl _), List.take_of_length_le (by omega)]
  have hl3 : min most (rowsOf (Af am) am.length most).length ≤ line := by
    unfold line
    omega
  have hc : ∀ (cs' : Cs) e3 e4, compD (fun _ => True) (compB (ctxD G (callD G k)) (.var 5) .no (.idx (.var 5) (.lit (.int 1))) [some (.tup (am.map .int)), some (.int most), some (.ptr cs.length), e3, e4, none])
      (List.take most (List.map pairD ((rowsOf (Af am) am.length most).mergeSort leP))) cs' = .ok ((placesOf am most).map .int) cs' := by
    intro cs' e3 e4
    rw [← List.map_take, compD_all pairD (fun p => .int p.2) trivial (fun p _ => by simp [compB, pairD])]
    simp [placesOf]
    rfl
  simp [law_row_of_places_f, law_row_of_places_b, e1, h2, hs, hcut, hl3, hc]
  exact fin_new (d := .lst ((placesOf am most).map .int)) (ex := [_]) (by simp only [bel]; exact bels_map (fun _ => rfl) _)
theorem count_step {pl : List Int} {i : Nat} {p : Nat} (hi : pl[i]? = some (p : Int)) (j : Nat) : (pl.take (i + 1)).count (j : Int) = (pl.take i).count (j : Int) + if j = p then 1 else 0 := by
  rw [List.take_add_one, hi, List.count_append]
  simp only [Option.toList_some, List.count_cons, List.count_nil, Nat.zero_add]
  by_cases e : j = p
  · subst e; simp
  · have : ¬ ((p : Int) == (j : Int)) = true := by simp; omega
    rw [if_neg this, if_neg e]
def cnts (pl : List Int) (n : Nat) : List Nat := (List.range n).map fun (j : Nat) => pl.count (j : Int)
theorem counted_ok {pl : List Int} {n T : Nat} (hn : n ≤ 5) (hp : ∀ x ∈ pl, ∃ p : Nat, x = (p : Int) ∧ p < n) (hl : pl.length ≤ 1000) : callD G (k + 1) i_law_counted [.lst (pl.map .int), .int n, .int T] cs = .ok (.tup ((cnts (pl.take T) n).map nD)) cs := by
  rw [callD_of (r := law_counted_f) rfl rfl]
  have e1 : inR (n : Int) := by unfold inR; omega
  have e2 : n ≤ line := by unfold line; omega
  have hcut : ∀ l : List D, cutD l none (some (T : Int)) = l.take T := fun l => by
    unfold cutD
    rw [sIx_nn]
    show (l.drop 0).take (min T l.length - 0) = _
    rw [List.drop_zero, Nat.sub_zero]
    by_cases q : T ≤ l.length
    · rw [Nat.min_eq_left q]
    · rw [Nat.min_eq_right (by omega), List.take_of_length_le (Nat.le_refl _), List.take_of_length_le (by omega)]
  have hz : compD (fun _ => True) (compB (ctxD G (callD G k)) (.var 5) .no (.lit (.int 0)) [some (.lst (pl.map .int)), some (.int n), some (.int T), none, none, none]) (rngD 0 n) cs = .ok ((cnts [] n).map nD) cs := by
    rw [rngD_map, compD_all (fun (i : Nat) => D.int (0 + (i : Int))) (fun _ => .int 0) trivial (fun i _ => by simp [compB])]
    simp [cnts]
  obtain ⟨env, cs1, h1, e4, rfl, rfl⟩ := forIm (ok := fun _ => True) (f := forB (ctxD G (callD G k)) (.var 4) law_counted_b1) (h1 := D.int) (ds := pl.take T) (env := [some (.lst (pl.map .int)), some (.int n), some (.int T), some (.ptr cs.length), none, none]) (cs := cs ++ [.lst ((cnts [] n).map nD)])
    (fun i env cs' => ∃ e4, env = [some (.lst (pl.map .int)), some (.int n), some (.int T), some (.ptr cs.length), e4, none] ∧ cs' = cs ++ [.lst ((cnts ((pl.take T).take i) n).map nD)]) (fun _ _ _ _ => trivial) ⟨none, rfl, rfl⟩ (fun i x hi env cs' hI => by
      obtain ⟨e4, rfl, rfl⟩ := hI
      obtain ⟨p, rfl, hpn⟩ := hp x (List.mem_of_mem_take (List.mem_of_getElem? hi))
      have cst := count_step hi
      obtain ⟨Q, hQ⟩ : ∃ Q, Q = (pl.take T).take i := ⟨_, rfl⟩
      have hcl : (cnts Q n).length = n := by simp [cnts]
      have g1 : L2.atI ((cnts Q n).map nD) (p : Int) = some (nD (Q.count (p : Int))) := atI_k (by simp [cnts, hpn])
      have ix : L2.ixN n (p : Int) = some p := ixN_k hpn
      have e9 : ((cnts Q n).map nD).set p (.int (((Q.count (p : Int) : Nat) : Int) + 1)) = (cnts ((pl.take T).take (i + 1)) n).map nD := by
        apply List.ext_getElem?
        intro j
        rw [List.getElem?_set]
        by_cases hj : j < n
        · simp only [cnts, List.map_map, List.length_map, List.length_range, List.getElem?_map, List.getElem?_range hj, Option.map_some, Function.comp, cst j, ← hQ]
          by_cases e : p = j
          · subst e
            rw [if_pos rfl, if_pos hpn, if_pos rfl]
            rfl
          · rw [if_neg e, if_neg (fun z => e z.symm)]
            rfl
        · rw [if_neg (by omega), List.getElem?_eq_none (by simp [cnts]; omega), List.getElem?_eq_none (by simp [cnts]; omega)]
      rw [← e9, ← hQ]
      simp only [forB, law_counted_b1, asg_var]
      simp [g1, ix, hcl])
  have hT2 : (pl.take T).length ≤ line := by
    rw [List.length_take]; unfold line; omega
  rw [List.take_length] at h1
  simp only [List.map_take] at h1
  have hz' := hz
  simp [law_counted_f, law_counted_b, e1, e2, hcut, hz', h1]
  exact fin_new (d := .tup ((cnts (pl.take T) n).map nD)) (ex := [_]) (by simp only [bel]; exact bels_map (fun _ => rfl) _)
end K78
end
section
set_option Elab.async false
set_option linter.all false
set_option maxRecDepth 100000
set_option maxHeartbeats 4000000
/-! K78f: the drawn amounts. -/
namespace K78
open DH
variable {k : Nat} {cs : Cs}
theorem sum_nonneg : ∀ {l : List Int}, (∀ a ∈ l, 0 ≤ a) → 0 ≤ l.sum
  | [], _ => by simp
  | a :: l, h => by
    have h1 := h a List.mem_cons_self
    have h2 := sum_nonneg (l := l) fun b hb => h b (List.mem_cons_of_mem _ hb)
    rw [List.sum_cons]; omega
theorem sum_pos : ∀ {l : List Int}, (∀ a ∈ l, 0 ≤ a) → (∃ x ∈ l, 0 < x) → 0 < l.sum
  | [], _, ⟨x, hx, _⟩ => by cases hx
  | a :: l, h, ⟨x, hx, h0⟩ => by
    have h1 := h a List.mem_cons_self
    have h2 := sum_nonneg (l := l) fun b hb => h b (List.mem_cons_of_mem _ hb)
    rw [List.sum_cons]
    rcases List.mem_cons.mp hx with e | e
    · omega
    · have := sum_pos (l := l) (fun b hb => h b (List.mem_cons_of_mem _ hb)) ⟨x, e, h0⟩
      omega
theorem pos_of_sum : ∀ {l : List Int}, (∀ a ∈ l, 0 ≤ a) → l.sum ≠ 0 → ∃ x ∈ l, 0 < x
  | [], _, h => absurd rfl h
  | a :: l, h, hs => by
    have h1 := h a List.mem_cons_self
    by_cases e : 0 < a
    · exact ⟨a, List.mem_cons_self, e⟩
    · obtain ⟨x, hx, h0⟩ := pos_of_sum (l := l) (fun b hb => h b (List.mem_cons_of_mem _ hb)) (by rw [List.sum_cons] at hs; omega)
      exact ⟨x, List.mem_cons_of_mem _ hx, h0⟩
theorem good_of {l : List Int} (h1 : 1 ≤ l.length) (h5 : l.length ≤ 5) (bd : ∀ a ∈ l, 0 ≤ a ∧ a ≤ 999) (hx : ∃ x ∈ l, 0 < x) : Good l := by
  refine ⟨h1, h5, bd, ?_⟩
  have := sum_pos (fun a ha => (bd a ha).1) hx
  omega
theorem good_set {l : List Int} {j : Nat} {m : Int} (h1 : 1 ≤ l.length) (h5 : l.length ≤ 5) (bd : ∀ a ∈ l, 0 ≤ a ∧ a ≤ 999) (hj : j < l.length) (m0 : 0 < m) (m9 : m ≤ 999) : Good (l.set j m) := by
  refine good_of (by simpa using h1) (by simpa using h5) (fun a ha => ?_) ⟨m, List.mem_set hj m, m0⟩
  rcases List.mem_or_eq_of_mem_set ha with e | e
  · exact bd a e
  · subst e; omega
theorem max_of : ∀ {l : List Int}, l ≠ [] → ∃ m, maxI l = some m ∧ m ∈ l ∧ ∀ x ∈ l, x ≤ m
  | [], h => absurd rfl h
  | [x], _ => ⟨x, rfl, List.mem_cons_self, fun y hy => by simp at hy; omega⟩
  | x :: y :: r, _ => by
    obtain ⟨m, e, h1, h2⟩ := max_of (l := y :: r) (by simp)
    refine ⟨if x < m then m else x, by simp only [maxI, e, Option.map_some], ?_, fun z hz => ?_⟩
    · split
      · exact List.mem_cons_of_mem _ h1
      · exact List.mem_cons_self
    · rcases List.mem_cons.mp hz with q | q
      · subst q; split <;> omega
      · have := h2 z q; split <;> omega
theorem amounts_ok {p : List D} (hp : Pool p) : ∃ (am : List Int) (p' : List D), callD G (k + 3) i_law_amounts [.ptr 0] [.lst p] = .ok (.tup (am.map .int)) [.lst p'] ∧ Pool p' ∧ Good am := by
  rw [callD_of (r := law_amounts_f) rfl rfl]
  obtain ⟨most, p1, h1, hm, hp1⟩ := one_of_ok (k := k) (cs := []) (xs := [4, 20, 1000]) hp (by simp) (by simp)
  have hm0 : 4 ≤ most ∧ most ≤ 1000 := by
    simp at hm
    omega
  obtain ⟨v, p2, h2, v0, v1, hp2⟩ := draw_ok (k := k + 1) (cs := []) (m := 5) hp1 (by omega) (by omega)
  have e1 : inR (1 + v) := by unfold inR; omega
  obtain ⟨r, cs', h3, rows, p3, rfl, rfl, hp3, hl, hb⟩ := compI (ok := fun _ => True) (ds := rngD 0 (1 + v).toNat) (cs := [.lst p2])
    (f := compB (ctxD G (callD G (k + 2))) (.var 3) .no (.call 7 (.cons (.var 0) (.cons (.var 1) .nil))) [some (.ptr 0), some (.int most), none, none])
    (fun i acc cs => ∃ (rows : List Int) (p' : List D), acc = rows.map .int ∧ cs = [.lst p'] ∧ Pool p' ∧ rows.length = i ∧ ∀ a ∈ rows, 0 ≤ a ∧ a ≤ 999) (fun _ _ _ _ => trivial) ⟨[], p2, rfl, rfl, hp2, rfl, by simp⟩ (fun i d hd acc cs h => by
      obtain ⟨rows, p', rfl, rfl, q1, q2, q3⟩ := h
      obtain ⟨u, p3, h3, u0, u1, hp3⟩ := draw_ok (k := k + 1) (cs := []) (m := most) q1 (by omega) (by omega)
      simp [compB, h3]
      refine ⟨rows ++ [u], by simp, hp3, by simp [q2], fun a ha => ?_⟩
      rcases List.mem_append.mp ha with e | e
      · exact q3 a e
      · simp at e; omega)
  rw [rngD_len] at hl
  have e2 : (1 + v).toNat ≤ line := by unfold line; omega
  have hlen1 : 1 ≤ rows.length := by omega
  have hlen5 : rows.length ≤ 5 := by omega
  have h1' : callD G (k + 2) 8 [D.ptr 0, D.lst [D.int 4, D.int 20, D.int 1000]] [Cell.lst p] = .ok (.int most) [Cell.lst p1] := h1
  by_cases hs : rows.sum = 0
  · obtain ⟨u, p4, h4, u0, u1, hp4⟩ := draw_ok (k := k + 1) (cs := [.lst (rows.map .int)]) (m := most - 1) hp3 (by omega) (by omega)
    obtain ⟨w, p5, h5, w0, w1, hp5⟩ := draw_ok (k := k + 1) (cs := [.lst (rows.map .int)]) (m := (rows.length : Int)) hp4 (by omega) (by omega)
    obtain ⟨j, rfl⟩ := Int.eq_ofNat_of_zero_le w0
    have ix : L2.ixN rows.length (j : Int) = some j := ixN_k (by omega)
    refine ⟨rows.set j (1 + u), p5, ?_, hp5, good_set hlen1 hlen5 hb (by omega) (by omega) (by omega)⟩
    simp [law_amounts_f, law_amounts_b, h1', h2, e1, e2, h3, hs, h4, h5, ix]
    have := fin_upd (cs := [.lst p]) (cs' := [.lst p5]) (ex := [.lst ((rows.map D.int).set j (.int (1 + u)))]) (d := .tup ((rows.map D.int).set j (.int (1 + u)))) rfl (fun i c h => .inr (by
      cases i with
      | zero => cases h; exact pool_bel hp5
      | succ i => simp at h)) (by rw [show ((rows.map D.int).set j (.int (1 + u))) = (rows.set j (1 + u)).map D.int from List.map_set.symm]; simp only [bel]; exact bels_map (fun _ => rfl) _)
    simpa using this
  · refine ⟨rows, p3, ?_, hp3, ⟨hlen1, hlen5, hb, hs⟩⟩
    simp [law_amounts_f, law_amounts_b, h1', h2, e1, e2, h3, hs]
    exact fin_upd (cs := [.lst p]) (cs' := [.lst p3]) (ex := [.lst (rows.map D.int)]) (d := .tup (rows.map D.int)) rfl (fun i c h => .inr (by
      cases i with
      | zero => cases h; exact pool_bel hp3
      | succ i => simp at h)) (by simp only [bel]; exact bels_map (fun _ => rfl) _)
end K78
end
section
set_option Elab.async false
set_option linter.all false
set_option maxRecDepth 100000
set_option maxHeartbeats 4000000
/-! K78g: many amounts; the law. -/
namespace K78
open DH
variable {k : Nat} {cs : Cs}
/-- what is left of the def behind the first if -/
def tailB : ISs := match law_many_amounts_b with
  | .cons _ (.cons _ r) => r
  | _ => .nil
theorem tail_ok {p : List D} {rows : List Int} {ex : Cs} {i : Nat} {e2 : Option D} (hp : Pool p) (h : Good rows) (hx : ex[i]? = some (.lst (rows.map .int))) :
    ∃ (am : List Int) (p' : List D) (ex' : Cs), exSs (ctxD G (callD G (k + 3))) tailB [some (.ptr 0), some (.ptr (i + 1)), e2] (.lst p :: ex) = .ret (.tup (am.map .int)) (.lst p' :: ex') ∧ Pool p' ∧ Good am := by
  obtain ⟨v, p1, h1, v0, v1, hp1⟩ := draw_ok (k := k + 2) (cs := ex) (m := 3) hp (by omega) (by omega)
  by_cases hv : v = 0
  · subst hv
    obtain ⟨w, p2, h2, w0, w1, hp2⟩ := draw_ok (k := k + 2) (cs := ex) (m := (rows.length : Int)) hp1 (by have := h.l1; omega) (by have := h.l5; omega)
    obtain ⟨j, rfl⟩ := Int.eq_ofNat_of_zero_le w0
    have ix : L2.ixN rows.length (j : Int) = some j := ixN_k (by omega)
    obtain ⟨m, em, hm, hle⟩ := max_of (l := rows) (by intro e; have := h.l1; rw [e] at this; simp at this)
    obtain ⟨x, hx1, hx0⟩ := pos_of_sum (fun a ha => (h.bd a ha).1) h.ne
    have hmb := h.bd m hm
    have hxm := hle x hx1
    have hil : i < ex.length := (List.getElem?_eq_some_iff.mp hx).1
    refine ⟨rows.set j m, p2, ex.set i (.lst ((rows.map .int).set j (.int m))), ?_, hp2, good_set h.l1 h.l5 h.bd (by omega) (by omega) hmb.2⟩
    have hxe : ex[i] = Cell.lst (rows.map D.int) := by
      rw [List.getElem?_eq_getElem hil] at hx
      exact Option.some.inj hx
    simp [tailB, law_many_amounts_b, h1, hxe, em, h2, ix, hil]
  · refine ⟨rows, p1, ex, ?_, hp1, h⟩
    simp [tailB, law_many_amounts_b, h1, hx, hv]
theorem many_ok {p : List D} (hp : Pool p) : ∃ (am : List Int) (p' : List D), callD G (k + 4) i_law_many_amounts [.ptr 0] [.lst p] = .ok (.tup (am.map .int)) [.lst p'] ∧ Pool p' ∧ Good am := by
  rw [callD_of (r := law_many_amounts_f) rfl rfl]
  obtain ⟨am, p1, h1, hp1, hg⟩ := amounts_ok (k := k) hp
  obtain ⟨v, p2, h2, v0, v1, hp2⟩ := draw_ok (k := k + 2) (cs := [.lst (am.map .int)]) (m := 3) hp1 (by omega) (by omega)
  have fin_ : ∀ (am' : List Int) (p' : List D) (ex' : Cs), Pool p' → fin false [.lst p] (.tup (am'.map .int)) (.lst p' :: ex') = .ok (.tup (am'.map .int)) [.lst p'] := fun am' p' ex' hp' =>
    fin_upd (cs := [.lst p]) (cs' := [.lst p']) (ex := ex') rfl (fun i c h => .inr (by
      cases i with
      | zero => cases h; exact pool_bel hp'
      | succ i => simp at h)) (by simp only [bel]; exact bels_map (fun _ => rfl) _)
  have tb : ∃ s1 s2, law_many_amounts_b = .cons s1 (.cons s2 tailB) := ⟨_, _, rfl⟩
  have hb : law_many_amounts_f.body = .cons (.asg (.var 1) (.new true (.of (.call 10 (.cons (.var 0) .nil))))) (.cons (.ife (.cmp .eq (.call 7 (.cons (.var 0) (.cons (.lit (.int 3)) .nil))) (.lit (.int 0))) (.cons (.asg (.var 1) (.new true (.comp [2] (.var 2) (.rng1 (.bin .add (.lit (.int 3)) (.call 7 (.cons (.var 0) (.cons (.lit (.int 3)) .nil))))) .no (.bin .add (.lit (.int 1)) (.call 7 (.cons (.var 0) (.cons (.lit (.int 12)) .nil))))))) .nil) .nil) tailB) := rfl
  rw [hb]
  have h1' : callD G (k + 3) 10 [D.ptr 0] [Cell.lst p] = .ok (.tup (am.map .int)) [Cell.lst p1] := h1
  by_cases hv : v = 0
  · subst hv
    obtain ⟨u, p3, h3, u0, u1, hp3⟩ := draw_ok (k := k + 2) (cs := [.lst (am.map .int)]) (m := 3) hp2 (by omega) (by omega)
    have e1 : inR (3 + u) := by unfold inR; omega
    have e2 : (3 + u).toNat ≤ line := by unfold line; omega
    obtain ⟨r, cs', h4, rows, p4, rfl, rfl, hp4, hl, hbd⟩ := compI (ok := fun _ => True) (ds := rngD 0 (3 + u).toNat) (cs := [.lst p3, .lst (am.map .int)])
      (f := compB (ctxD G (callD G (k + 3))) (.var 2) .no (.bin .add (.lit (.int 1)) (.call 7 (.cons (.var 0) (.cons (.lit (.int 12)) .nil)))) [some (.ptr 0), some (.ptr 1), none])
      (fun i acc cs => ∃ (rows : List Int) (p' : List D), acc = rows.map .int ∧ cs = [.lst p', .lst (am.map .int)] ∧ Pool p' ∧ rows.length = i ∧ ∀ a ∈ rows, 1 ≤ a ∧ a ≤ 12) (fun _ _ _ _ => trivial) ⟨[], p3, rfl, rfl, hp3, rfl, by simp⟩ (fun i d hd acc cs h => by
        obtain ⟨rows, p', rfl, rfl, q1, q2, q3⟩ := h
        obtain ⟨w, p5, h5, w0, w1, hp5⟩ := draw_ok (k := k + 2) (cs := [.lst (am.map .int)]) (m := 12) q1 (by omega) (by omega)
        simp [compB, h5]
        refine ⟨rows ++ [1 + w], by simp, hp5, by simp [q2], fun a ha => ?_⟩
        rcases List.mem_append.mp ha with e | e
        · exact q3 a e
        · simp at e; omega)
    rw [rngD_len] at hl
    have hg2 : Good rows := by
      refine good_of (by omega) (by omega) (fun a ha => by have := hbd a ha; omega) ?_
      cases rows with
      | nil => simp at hl; omega
      | cons a r => exact ⟨a, List.mem_cons_self, by have := hbd a List.mem_cons_self; omega⟩
    obtain ⟨am', p', ex', ht, hp', hg'⟩ := tail_ok (k := k) (ex := [.lst (am.map .int), .lst (rows.map .int)]) (i := 1) (e2 := none) hp4 hg2 rfl
    refine ⟨am', p', ?_, hp', hg'⟩
    simp [law_many_amounts_f, h1', h2, h3, e1, e2, h4, ht, fin_ am' p' ex' hp']
  · obtain ⟨am', p', ex', ht, hp', hg'⟩ := tail_ok (k := k) (ex := [.lst (am.map .int)]) (i := 0) (e2 := none) hp2 hg rfl
    refine ⟨am', p', ?_, hp', hg'⟩
    simp [law_many_amounts_f, h1', h2, hv, ht, fin_ am' p' ex' hp']
end K78
end
section
set_option Elab.async false
set_option linter.all false
set_option maxRecDepth 100000
set_option maxHeartbeats 4000000
/-! K78h: the law. -/
namespace K78
open DH
variable {k : Nat} {cs : Cs}
theorem cnts_eq {am : List Int} {f : List Nat} {T most : Nat} (h : Good am) (s : Sh (Af am) am.length f T) (hT : T ≤ most) (hm : most ≤ 999) : cnts ((placesOf am most).take T) am.length = f := by
  obtain ⟨l, e1, hp⟩ := first_ones (fun k _ => (Af_bd h k).1) s hT (by omega)
  have e2 : (placesOf am most).take T = l.map (·.2) := by
    unfold placesOf
    rw [← List.map_take, List.take_take, Nat.min_eq_left hT, e1]
  unfold cnts
  rw [e2]
  have e3 : ∀ j : Nat, j < am.length → (l.map (·.2)).count (j : Int) = f.getD j 0 := fun j hj => by
    rw [hp.count_eq, count_rows, if_pos hj]
  rw [List.map_congr_left (g := fun j => f.getD j 0) fun j hj => e3 j (by simpa using hj), ← s.len, range_getD]
theorem places_in {am : List Int} {most : Nat} : ∀ x ∈ placesOf am most, ∃ p : Nat, x = (p : Int) ∧ p < am.length := by
  intro x hx
  unfold placesOf at hx
  obtain ⟨y, hy, rfl⟩ := List.mem_map.mp hx
  have hy2 := (List.mergeSort_perm _ _).mem_iff.mp (List.mem_of_mem_take hy)
  obtain ⟨j, hj, hr⟩ := List.mem_flatMap.mp hy2
  obtain ⟨m, _, rfl⟩ := List.mem_map.mp hr
  exact ⟨j, rfl, by simpa using hj⟩
theorem places_len {am : List Int} {most : Nat} : (placesOf am most).length ≤ most := by
  unfold placesOf
  rw [List.length_map, List.length_take]
  omega
theorem turn_ok {am : List Int} {T most : Nat} {e0 e1 e3 e5 e6 e7 e8 e9 : Option D} (h : Good am) (hT : T ≤ most) (hm : most ≤ 999) (h1m : 1 ≤ most) :
    nxt (forB (ctxD G (callD G (k + 4))) (.var 7) law_b1 (.int T) [e0, e1, some (.tup (am.map .int)), e3, some (.lst ((placesOf am most).map .int)), e5, e6, e7, e8, e9] cs) fun env cs' => cs' = cs ∧ ∃ e7 e8, env = [e0, e1, some (.tup (am.map .int)), e3, some (.lst ((placesOf am most).map .int)), e5, e6, e7, e8, e9] := by
  obtain ⟨f, h1, s⟩ := even_shares_ok (k := k) (cs := cs) (T := T) h (by omega)
  have l5 := h.l5
  have h2 := counted_ok (k := k + 3) (cs := cs) (pl := placesOf am most) (n := am.length) (T := T) l5 places_in (Nat.le_trans places_len (by omega))
  rw [cnts_eq h s hT hm] at h2
  have efm : f.map nD = (f.map fun x : Nat => (x : Int)).map D.int := by rw [List.map_map]; rfl
  have h3 := same_ok (k := k + 2) (cs := cs) (ws := f.map fun x : Nat => (x : Int)) (by rw [List.length_map, s.len]; omega)
  rw [← efm] at h3
  have h4 := ordered_ok (k := k + 3) (cs := cs) h s
  simp only [forB, law_b1, asg_var]
  simp [h1, h2, h3, h4, pickD]
theorem cut1 (l : List D) : cutD l none (some 1) = l.take 1 := by
  have : (1 : Int) = ((1 : Nat) : Int) := rfl
  unfold cutD
  rw [this, sIx_nn]
  show (l.drop 0).take (min 1 l.length - 0) = _
  rw [List.drop_zero, Nat.sub_zero]
  by_cases q : 1 ≤ l.length
  · rw [Nat.min_eq_left q]
  · rw [Nat.min_eq_right (by omega), List.take_of_length_le (Nat.le_refl _), List.take_of_length_le (by omega)]
/-- the law behind the choice of most -/
def tailL : ISs := match law_b with
  | .cons _ (.cons _ (.cons _ (.cons _ r))) => r
  | _ => .nil
theorem tailL_ok {p : List D} {am : List Int} {most : Nat} {e0 : Option D} (hp : Pool p) (h : Good am) (hm : most ≤ 999) (hm2 : 40 ≤ most) :
    ∃ p', exSs (ctxD G (callD G 23)) tailL [e0, some (.ptr 0), some (.tup (am.map .int)), some (.int most), none, none, none, none, none, none] [.lst p] = .ret (.bl true) [.lst p'] := by
  have hpl := places_ok (k := 22) (cs := [.lst p]) h (show 1 ≤ most by omega) hm
  obtain ⟨b, p1, h1, b0, b1, hp1⟩ := draw_ok (k := 22) (cs := []) (m := (most : Int) - 5) hp (by omega) (by omega)
  obtain ⟨r, cs', h2, ts, p2, rfl, rfl, hp2, hl, hb⟩ := compI (ok := fun _ => True) (ds := rngD 0 8) (cs := [.lst p1])
    (f := compB (ctxD G (callD G 23)) (.var 9) .no (.call 7 (.cons (.var 1) (.cons (.bin .add (.var 3) (.lit (.int 1))) .nil))) [e0, some (.ptr 0), some (.tup (am.map .int)), some (.int most), some (.lst ((placesOf am most).map .int)), some (.int b), none, none, none, none])
    (fun i acc cs => ∃ (ts : List Nat) (p' : List D), acc = ts.map nD ∧ cs = [.lst p'] ∧ Pool p' ∧ ts.length = i ∧ ∀ t ∈ ts, t ≤ most) (fun _ _ _ _ => trivial) ⟨[], p1, rfl, rfl, hp1, rfl, by simp⟩ (fun i d hd acc cs hI => by
      obtain ⟨ts, p', rfl, rfl, q1, q2, q3⟩ := hI
      obtain ⟨u, p3, h3, u0, u1, hp3⟩ := draw_ok (k := 22) (cs := []) (m := (most : Int) + 1) q1 (by omega) (by omega)
      obtain ⟨w, rfl⟩ := Int.eq_ofNat_of_zero_le u0
      simp only [Nat.reduceAdd] at h3
      simp [compB, h3]
      refine ⟨ts ++ [w], by simp, hp3, by simp [q2], fun a ha => ?_⟩
      rcases List.mem_append.mp ha with e | e
      · exact q3 a e
      · simp at e; omega)
  obtain ⟨B, rfl⟩ := Int.eq_ofNat_of_zero_le b0
  rw [rngD_len] at hl
  have h5 : compD (fun _ => True) (compB (ctxD G (callD G 23)) (.var 9) (.yes (.cmp .le (.bin .add (.var 5) (.var 9)) (.var 3))) (.bin .add (.var 5) (.var 9)) [e0, some (.ptr 0), some (.tup (am.map .int)), some (.int most), some (.lst ((placesOf am most).map .int)), some (.int (B : Int)), none, none, none, none]) (rngD 0 7) [.lst p2]
      = .ok (((List.range 7).filterMap fun i => if B + i ≤ most then some (nD (B + i)) else none)) [.lst p2] := by
    rw [rngD_map, compD_mapA (fun (i : Nat) => D.int (0 + (i : Int))) (fun i => if B + i ≤ most then some (nD (B + i)) else none) trivial (fun i _ => by
      by_cases q : B + i ≤ most
      · have q2 : (B : Int) + (i : Int) ≤ (most : Int) := by omega
        simp [compB, q, q2]
      · have q2 : ¬ (B : Int) + (i : Int) ≤ (most : Int) := by omega
        simp [compB, q, q2])]
  obtain ⟨us, hus, hub, hul⟩ : ∃ us : List Nat, ((List.range 7).filterMap fun i => if B + i ≤ most then some (nD (B + i)) else none) = us.map nD ∧ (∀ t ∈ us, t ≤ most) ∧ us.length ≤ 7 := by
    refine ⟨(List.range 7).filterMap fun i => if B + i ≤ most then some (B + i) else none, ?_, fun t ht => ?_, ?_⟩
    · rw [List.map_filterMap]
      congr 1
      funext i
      by_cases q : B + i ≤ most <;> simp [q]
    · obtain ⟨i, _, hi⟩ := List.mem_filterMap.mp ht
      by_cases q : B + i ≤ most
      · rw [if_pos q] at hi; cases hi; exact q
      · rw [if_neg q] at hi; cases hi
    · exact Nat.le_trans (List.length_filterMap_le ..) (by simp)
  rw [hus] at h5
  have hall : ∀ t ∈ (ts ++ [0] ++ us), t ≤ most := fun t ht => by
    simp only [List.mem_append, List.mem_singleton] at ht
    rcases ht with (e | e) | e
    · exact hb t e
    · omega
    · exact hub t e
  obtain ⟨all, hA⟩ : ∃ all, all = (ts ++ [0] ++ us) ++ (ts ++ [0] ++ us).take 1 := ⟨_, rfl⟩
  have hall2 : ∀ t ∈ all, t ≤ most := fun t ht => by
    rw [hA] at ht
    rcases List.mem_append.mp ht with e | e
    · exact hall t e
    · exact hall t (List.mem_of_mem_take e)
  obtain ⟨env, cs1, h6, rfl, e7, e8, rfl⟩ := forIm (ok := fun _ => True) (f := forB (ctxD G (callD G 23)) (.var 7) law_b1) (h1 := nD) (ds := all) (cs := [.lst p2])
    (env := [e0, some (.ptr 0), some (.tup (am.map .int)), some (.int most), some (.lst ((placesOf am most).map .int)), some (.int (B : Int)), some (.lst ((ts ++ [0] ++ us).map nD)), none, none, none])
    (fun i env cs => cs = [.lst p2] ∧ ∃ e7 e8, env = [e0, some (.ptr 0), some (.tup (am.map .int)), some (.int most), some (.lst ((placesOf am most).map .int)), some (.int (B : Int)), some (.lst ((ts ++ [0] ++ us).map nD)), e7, e8, none])
    (fun _ _ _ _ => trivial) ⟨rfl, none, none, rfl⟩ (fun i t ht env cs hI => by
      obtain ⟨rfl, e7, e8, rfl⟩ := hI
      have htm := hall2 t (List.mem_of_getElem? ht)
      exact nxt_mono (turn_ok (k := 19) h htm hm (by omega)) fun e c hq => hq)
  have e10 : inR 8 := by unfold inR; omega
  have e11 : inR 7 := by unfold inR; omega
  have e12 : 8 ≤ line := by unfold line; omega
  have e13 : 7 ≤ line := by unfold line; omega
  have e14 : ts.length + 1 ≤ line := by unfold line; omega
  have e15 : ts.length + 1 + us.length ≤ line := by unfold line; omega
  obtain ⟨tt, htt⟩ : ∃ tt, tt = ts ++ [0] ++ us := ⟨_, rfl⟩
  have eZ : List.map nD ts ++ D.int 0 :: List.map nD us = tt.map nD := by rw [htt]; simp
  have ltt : tt.length ≤ 16 := by rw [htt]; simp; omega
  have e16 : tt.length + min 1 tt.length ≤ line := by unfold line; omega
  have e17 : tt.length + min 1 tt.length ≤ line := e16
  rw [hA, ← htt] at h6
  rw [List.map_append, List.map_take] at h6
  simp only [Nat.reduceAdd] at hpl h1
  simp [tailL, law_b, hpl, h1, h2, h5, e10, e11, e12, e13, e14, e15, eZ, cut1, e16, h6]
theorem answers (ns : List Int) (hl : ns.length ≤ 63) : ∃ cs, callD G 24 i_law [.frz (ns.map D.int)] [] = .ok (.bl true) cs := by
  rw [callD_of (k := 23) (r := law_f) rfl rfl]
  obtain ⟨p, h1, hp⟩ := pool_ok (k := 22) hl
  obtain ⟨am, p1, h2, hp1, hg⟩ := many_ok (k := 19) hp
  obtain ⟨v, p2, h3, v0, v1, hp2⟩ := draw_ok (k := 22) (cs := []) (m := 10) hp1 (by omega) (by omega)
  have hb : law_f.body = .cons (.asg (.var 1) (.call 6 (.cons (.var 0) .nil))) (.cons (.asg (.var 2) (.call 11 (.cons (.var 1) .nil))) (.cons (.asg (.var 3) (.lit (.int 40))) (.cons (.ife (.cmp .eq (.call 7 (.cons (.var 1) (.cons (.lit (.int 10)) .nil))) (.lit (.int 0))) (.cons (.asg (.var 3) (.lit (.int 999))) .nil) .nil) tailL))) := rfl
  rw [hb]
  simp only [Nat.reduceAdd] at h1 h2 h3
  have fe : ∀ p' : List D, fin false [] (.bl true) [.lst p'] = .ok (.bl true) [] := fun p' => fin_new (cs := []) (ex := [.lst p']) rfl
  by_cases hv : v = 0
  · subst hv
    obtain ⟨p', ht⟩ := tailL_ok (e0 := some (.frz (ns.map .int))) (most := 999) hp2 hg (by omega) (by omega)
    have c9 : ((999 : Nat) : Int) = 999 := rfl
    rw [c9] at ht
    refine ⟨[], ?_⟩
    simp [law_f, h1, h2, h3, ht, fe]
  · obtain ⟨p', ht⟩ := tailL_ok (e0 := some (.frz (ns.map .int))) (most := 40) hp2 hg (by omega) (by omega)
    have c4 : ((40 : Nat) : Int) = 40 := rfl
    rw [c4] at ht
    refine ⟨[], ?_⟩
    simp [law_f, h1, h2, h3, hv, ht, fe]
end K78
end
section
set_option Elab.async false
set_option linter.all false
set_option maxRecDepth 100000
open PySem PySem.W PyProof.Rows in
set_option maxRecDepth 100000 in
set_option maxHeartbeats 0 in
theorem PySem.Challenge.cw_deckhands_k78_even_shares_by_quotients_holds : PySem.Challenge.rw_deckhands_k78_even_shares_by_quotients.Holds := by
  w_on; o_law; k_head; (case hw => w_witness2)
  k_fill
  refine L2.walk_of (l := PySem.Challenge.rw_deckhands_k78_even_shares_by_quotients) (n := 63) (k := 24) (x := "script") (CX := fun w => L2.CX PySem.Challenge.rw_deckhands_k78_even_shares_by_quotients.prog w) (sp := fun w => DH.spD (DH.wd _) (DH.callD K78.G 24 K78.i_law)) rfl (by decide) rfl ⟨rfl, by decide, by decide⟩ (fun w h Y => PySem.W.kIn_of Y) ?F (fun w H a ns hl _ hS => DH.law_sp hS (K78.answers ns hl)) (fun _ _ _ _ _ z => DH.no_exc z)
  case F =>
    intro w mg fa h KX Gm hmg
    refine' K78.all_mk KX Gm hmg ?a0 ?l0 ?c0 ?k0 ?a1 ?l1 ?c1 ?k1 ?a2 ?l2 ?c2 ?k2 ?a3 ?l3 ?c3 ?k3 ?a4 ?l4 ?c4 ?k4 ?a5 ?l5 ?c5 ?k5 ?a6 ?l6 ?c6 ?k6 ?a7 ?l7 ?c7 ?k7 ?a8 ?l8 ?c8 ?k8 ?a9 ?l9 ?c9 ?k9 ?a10 ?l10 ?c10 ?k10 ?a11 ?l11 ?c11 ?k11 ?a12 ?l12 ?c12 ?k12 ?a13 ?l13 ?c13 ?k13 ?a14 ?l14 ?c14 ?k14 ?a15 ?l15 ?c15 ?k15 ?z0 ?z1 ?z2 ?z3 ?z4 ?z5 ?z6 ?z7 ?z8 ?z9 ?z10 ?z11 ?z12 ?z13 ?z14 ?z15 ?z16 ?z17 ?z18 ?z19 ?w0 ?w1
    (case a0 => k_is)
    (case l0 => k_is)
    (case c0 => k_is)
    (case k0 => k_is)
    (case a1 => k_is)
    (case l1 => k_is)
    (case c1 => k_is)
    (case k1 => k_is)
    (case a2 => k_is)
    (case l2 => k_is)
    (case c2 => k_is)
    (case k2 => k_is)
    (case a3 => k_is)
    (case l3 => k_is)
    (case c3 => k_is)
    (case k3 => k_is)
    (case a4 => k_is)
    (case l4 => k_is)
    (case c4 => k_is)
    (case k4 => k_is)
    (case a5 => k_is)
    (case l5 => k_is)
    (case c5 => k_is)
    (case k5 => k_is)
    (case a6 => k_is)
    (case l6 => k_is)
    (case c6 => k_is)
    (case k6 => k_is)
    (case a7 => k_is)
    (case l7 => k_is)
    (case c7 => k_is)
    (case k7 => k_is)
    (case a8 => k_is)
    (case l8 => k_is)
    (case c8 => k_is)
    (case k8 => k_is)
    (case a9 => k_is)
    (case l9 => k_is)
    (case c9 => k_is)
    (case k9 => k_is)
    (case a10 => k_is)
    (case l10 => k_is)
    (case c10 => k_is)
    (case k10 => k_is)
    (case a11 => k_is)
    (case l11 => k_is)
    (case c11 => k_is)
    (case k11 => k_is)
    (case a12 => k_is)
    (case l12 => k_is)
    (case c12 => k_is)
    (case k12 => k_is)
    (case a13 => k_is)
    (case l13 => k_is)
    (case c13 => k_is)
    (case k13 => k_is)
    (case a14 => k_is)
    (case l14 => k_is)
    (case c14 => k_is)
    (case k14 => k_is)
    (case a15 => k_is)
    (case l15 => k_is)
    (case c15 => k_is)
    (case k15 => k_is)
    (case z0 => k_is)
    (case z1 => k_is)
    (case z2 => k_is)
    (case z3 => k_is)
    (case z4 => k_is)
    (case z5 => k_is)
    (case z6 => k_is)
    (case z7 => k_is)
    (case z8 => k_is)
    (case z9 => k_is)
    (case z10 => k_is)
    (case z11 => k_is)
    (case z12 => k_is)
    (case z13 => k_is)
    (case z14 => k_is)
    (case z15 => k_is)
    (case z16 => k_is)
    (case z17 => k_is)
    (case z18 => k_is)
    (case z19 => k_is)
    (case w0 => k_is)
    (case w1 => k_is)
end
